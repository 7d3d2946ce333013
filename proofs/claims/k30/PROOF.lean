import PyProof.Rows.All
import Wide.All
import OpenK.AllK
import Wide.FinOn
import HandS.ForMost
import HandS.ForExc
import HandS.IsInst
import HandS.CallSlots
import HandS.TupAny
import HandS.Deep
import HandS.Wide
import HandS.WideBits
import HandS.Text
import HandS.Conv
import HandS.Zip
import HandS.TupMul
import HandS.SortInts
import HandS.RevRange
import HandS.Defaults
import KE.GoesEnum
import KE.GoesMore
import HandS.More
import HandS.Dict
import HandS.Small
import HandS.Style
import HandS.SortKw
import HandS.EndBits
import PySem.Challenge.RW_tumbler_k30_least_matching
set_option Elab.async false
set_option linter.all false
set_option maxRecDepth 100000
set_option maxHeartbeats 1000000
/-! A layer over HandS: plain data D, an abstract heap of lists and dicts by number, and for each construct a plain Lean function. -/
namespace Rf
open PySem PySem.Spec PyProof.Rows L2

/-- a value as plain data; `ref i`: the i-th thing of the abstract heap; `rol`: a list that is only read -/
inductive D where
  | non | bl (b : Bool) | int (i : Int) | str (x : Str) | ty (n : String) | tup (ds : List D) | rol (ds : List D) | ref (i : Nat)

inductive AO where
  | lst (ds : List D)
  | dK (kvs : List (Key × D))
  | dT (kvs : List (List Key × D))
abbrev AH := List AO
abbrev AE := List (Option D)

/-- what an expression ends in -/
inductive ER where
  | ok (d : D) (h : AH)
  | exc (c : Str) (fs : List (Str × D)) (h : AH)
  | stuck
/-- what a statement ends in -/
inductive SR where
  | nx (e : AE) (h : AH)
  | rt (d : D) (h : AH)
  | bk (e : AE) (h : AH)
  | ct (e : AE) (h : AH)
  | exc (c : Str) (fs : List (Str × D)) (e : AE) (h : AH)
  | stuck
/-- what a list of expressions ends in -/
inductive LR where
  | ok (ds : List D) (h : AH)
  | exc (c : Str) (fs : List (Str × D)) (h : AH)
  | stuck

/-- a list that nobody writes -/
def RoL (K : PySem.W.Frag) (H : Hp) (a : Addr) (vs : List V) : Prop :=
  (∃ o, H a = some (.frz o (.lst vs))) ∨ ∃ (o : Obj) (its : Array Value) (n : Nat), K.lookup a = some o ∧ o.cls = .type "list" ∧ o.dict = none ∧ o.data = .seq its n ∧ its.size ≤ sizeLine ∧ Vals vs its.toList
theorem RoL.sq {K : PySem.W.Frag} {H : Hp} {a : Addr} {vs : List V} (h : RoL K H a vs) : SqL K H a vs := by
  rcases h with ⟨o, e⟩ | h
  · exact .inl (.inr ⟨o, e⟩)
  · exact .inr h

mutual
def RD (K : PySem.W.Frag) (ι : Nat → Addr) (n : Nat) (H : Hp) : D → V → Prop
  | .non, v => v = .non
  | .bl b, v => v = .bl b
  | .int i, v => v = .int i
  | .str x, v => v = .str x
  | .ty s, v => v = .ty s
  | .tup ds, v => ∃ a vs, v = .ref a ∧ SqT K H a vs ∧ RDs K ι n H ds vs
  | .rol ds, v => ∃ a vs, v = .ref a ∧ RoL K H a vs ∧ RDs K ι n H ds vs
  | .ref i, v => i < n ∧ v = .ref (ι i)
def RDs (K : PySem.W.Frag) (ι : Nat → Addr) (n : Nat) (H : Hp) : List D → List V → Prop
  | [], vs => vs = []
  | d :: ds, vs => ∃ v r, vs = v :: r ∧ RD K ι n H d v ∧ RDs K ι n H ds r
end
def RO (K : PySem.W.Frag) (ι : Nat → Addr) (n : Nat) (H : Hp) : AO → Addr → Prop
  | .lst ds, a => ∃ vs, H a = some (.lst vs) ∧ RDs K ι n H ds vs
  | .dK kvs, a => ∃ ws, H a = some (.dK ws) ∧ kvs.map (·.1) = ws.map (·.1) ∧ RDs K ι n H (kvs.map (·.2)) (ws.map (·.2))
  | .dT kvs, a => ∃ ws, H a = some (.dT ws) ∧ kvs.map (·.1) = ws.map (·.1) ∧ RDs K ι n H (kvs.map (·.2)) (ws.map (·.2))

structure Rel (K : PySem.W.Frag) (ι : Nat → Addr) (h : AH) (H : Hp) : Prop where
  inj : ∀ i j, i < h.length → j < h.length → ι i = ι j → i = j
  ob : ∀ i o, h[i]? = some o → RO K ι h.length H o (ι i)
structure Ext (ι : Nat → Addr) (n : Nat) (H : Hp) (ι' : Nat → Addr) (n' : Nat) (H' : Hp) : Prop where
  le : n ≤ n'
  ag : ∀ i, i < n → ι' i = ι i
  nw : ∀ i, n ≤ i → i < n' → H (ι' i) = none
  fr : ∀ b o, H b = some o → (∀ i, i < n → ι i ≠ b) → H' b = some o
  st : ∀ b, H' b = none → H b = none
section
variable {K : PySem.W.Frag} {ι ι' ι2 : Nat → Addr} {n n' n2 : Nat} {H H' H2 : Hp} {h h' : AH} {d : D} {ds es : List D} {v : V} {vs ws : List V} {a : Addr} {i : Nat} {o : AO}
theorem Ext.refl : Ext ι n H ι n H := ⟨Nat.le_refl _, fun _ _ => rfl, fun i h1 h2 => absurd h2 (Nat.not_lt.mpr h1), fun _ _ e _ => e, fun _ e => e⟩
theorem Ext.trans (x : Ext ι n H ι' n' H') (y : Ext ι' n' H' ι2 n2 H2) : Ext ι n H ι2 n2 H2 := by
  refine ⟨Nat.le_trans x.le y.le, fun i hi => (y.ag i (Nat.lt_of_lt_of_le hi x.le)).trans (x.ag i hi), fun i h1 h2 => ?_, fun b o e hb => ?_, fun b e => x.st b (y.st b e)⟩
  · by_cases hi : i < n'
    · rw [y.ag i hi]; exact x.nw i h1 hi
    · exact x.st _ (y.nw i (Nat.not_lt.mp hi) h2)
  · refine y.fr b o (x.fr b o e hb) fun i hi e' => ?_
    by_cases h1 : i < n
    · exact hb i h1 (by rw [← x.ag i h1]; exact e')
    · have q := x.nw i (Nat.not_lt.mp h1) hi
      rw [e', e] at q; cases q

/-! ### the relation of data -/
theorem RD.int {j : Int} : RD K ι n H (.int j) v ↔ v = .int j := by unfold RD; exact Iff.rfl
theorem RD.bl {j : Bool} : RD K ι n H (.bl j) v ↔ v = .bl j := by unfold RD; exact Iff.rfl
theorem RD.str {j : Str} : RD K ι n H (.str j) v ↔ v = .str j := by unfold RD; exact Iff.rfl
theorem RD.non : RD K ι n H .non v ↔ v = .non := by unfold RD; exact Iff.rfl
theorem RD.ty {j : String} : RD K ι n H (.ty j) v ↔ v = .ty j := by unfold RD; exact Iff.rfl
theorem RD.ref : RD K ι n H (.ref i) v ↔ i < n ∧ v = .ref (ι i) := by unfold RD; exact Iff.rfl
theorem RD.tup : RD K ι n H (.tup ds) v ↔ ∃ a vs, v = .ref a ∧ SqT K H a vs ∧ RDs K ι n H ds vs := by
  constructor
  · intro h; unfold RD at h; exact h
  · intro h; unfold RD; exact h
theorem RD.rol : RD K ι n H (.rol ds) v ↔ ∃ a vs, v = .ref a ∧ RoL K H a vs ∧ RDs K ι n H ds vs := by
  constructor
  · intro h; unfold RD at h; exact h
  · intro h; unfold RD; exact h
theorem RDs.nil : RDs K ι n H [] vs ↔ vs = [] := by unfold RDs; exact Iff.rfl
theorem RDs.cons : RDs K ι n H (d :: ds) vs ↔ ∃ v r, vs = v :: r ∧ RD K ι n H d v ∧ RDs K ι n H ds r := by
  constructor
  · intro h; unfold RDs at h; exact h
  · intro h; unfold RDs; exact h
theorem RDs.cons' (h1 : RD K ι n H d v) (h2 : RDs K ι n H ds vs) : RDs K ι n H (d :: ds) (v :: vs) := RDs.cons.mpr ⟨v, vs, rfl, h1, h2⟩
theorem RDs.nil' : RDs K ι n H [] [] := RDs.nil.mpr rfl
theorem RDs.length : ∀ {ds : List D} {vs : List V}, RDs K ι n H ds vs → ds.length = vs.length
  | [], vs, h => by rw [RDs.nil.mp h]; rfl
  | d :: ds, vs, h => by
    obtain ⟨v, r, rfl, _, h2⟩ := RDs.cons.mp h
    simp [RDs.length h2]
theorem RDs.get : ∀ {ds : List D} {vs : List V} {i : Nat} {d : D}, RDs K ι n H ds vs → ds[i]? = some d → ∃ v, vs[i]? = some v ∧ RD K ι n H d v
  | [], vs, i, d, h, e => by simp at e
  | d' :: ds, vs, 0, d, h, e => by
    obtain ⟨v, r, rfl, h1, h2⟩ := RDs.cons.mp h
    simp at e; subst e
    exact ⟨v, rfl, h1⟩
  | d' :: ds, vs, i + 1, d, h, e => by
    obtain ⟨v, r, rfl, h1, h2⟩ := RDs.cons.mp h
    simpa using RDs.get h2 (by simpa using e)
theorem RDs.append : ∀ {ds es : List D} {vs ws : List V}, RDs K ι n H ds vs → RDs K ι n H es ws → RDs K ι n H (ds ++ es) (vs ++ ws)
  | [], es, vs, ws, h, h' => by rw [RDs.nil.mp h]; exact h'
  | d :: ds, es, vs, ws, h, h' => by
    obtain ⟨v, r, rfl, h1, h2⟩ := RDs.cons.mp h
    exact RDs.cons' h1 (RDs.append h2 h')
theorem RDs.take : ∀ {ds : List D} {vs : List V} (k : Nat), RDs K ι n H ds vs → RDs K ι n H (ds.take k) (vs.take k)
  | _, _, 0, h => by simp only [List.take_zero]; exact RDs.nil'
  | [], vs, k + 1, h => by rw [RDs.nil.mp h]; exact RDs.nil'
  | d :: ds, vs, k + 1, h => by
    obtain ⟨v, r, rfl, h1, h2⟩ := RDs.cons.mp h
    exact RDs.cons' h1 (RDs.take k h2)
theorem RDs.drop : ∀ {ds : List D} {vs : List V} (k : Nat), RDs K ι n H ds vs → RDs K ι n H (ds.drop k) (vs.drop k)
  | _, _, 0, h => by simpa using h
  | [], vs, k + 1, h => by rw [RDs.nil.mp h]; exact RDs.nil'
  | d :: ds, vs, k + 1, h => by
    obtain ⟨v, r, rfl, h1, h2⟩ := RDs.cons.mp h
    simpa using RDs.drop k h2
theorem RDs.set : ∀ {ds : List D} {vs : List V} (k : Nat), RDs K ι n H ds vs → RD K ι n H d v → RDs K ι n H (ds.set k d) (vs.set k v)
  | [], vs, k, h, _ => by rw [RDs.nil.mp h]; exact RDs.nil'
  | d' :: ds, vs, 0, h, r => by
    obtain ⟨v', r', rfl, h1, h2⟩ := RDs.cons.mp h
    exact RDs.cons' r h2
  | d' :: ds, vs, k + 1, h, r => by
    obtain ⟨v', r', rfl, h1, h2⟩ := RDs.cons.mp h
    exact RDs.cons' h1 (RDs.set k h2 r)
theorem RDs.eraseIdx : ∀ {ds : List D} {vs : List V} (k : Nat), RDs K ι n H ds vs → RDs K ι n H (ds.eraseIdx k) (vs.eraseIdx k)
  | [], vs, k, h => by rw [RDs.nil.mp h]; exact RDs.nil'
  | d' :: ds, vs, 0, h => by
    obtain ⟨v', r', rfl, h1, h2⟩ := RDs.cons.mp h
    exact h2
  | d' :: ds, vs, k + 1, h => by
    obtain ⟨v', r', rfl, h1, h2⟩ := RDs.cons.mp h
    exact RDs.cons' h1 (RDs.eraseIdx k h2)
theorem RDs.reverse : ∀ {ds : List D} {vs : List V}, RDs K ι n H ds vs → RDs K ι n H ds.reverse vs.reverse
  | [], vs, h => by rw [RDs.nil.mp h]; exact RDs.nil'
  | d' :: ds, vs, h => by
    obtain ⟨v', r', rfl, h1, h2⟩ := RDs.cons.mp h
    simp only [List.reverse_cons]
    exact RDs.append (RDs.reverse h2) (RDs.cons' h1 RDs.nil')
theorem RDs.dropLast {ds : List D} {vs : List V} (h : RDs K ι n H ds vs) : RDs K ι n H ds.dropLast vs.dropLast := by
  rw [List.dropLast_eq_take, List.dropLast_eq_take, h.length]
  exact h.take _
theorem RDs.rep {ds : List D} {vs : List V} (h : RDs K ι n H ds vs) : ∀ k : Nat, RDs K ι n H (List.replicate k ds).flatten (List.replicate k vs).flatten
  | 0 => RDs.nil'
  | k + 1 => by
    rw [List.replicate_succ, List.replicate_succ, List.flatten_cons, List.flatten_cons]
    exact RDs.append h (RDs.rep h k)

/-- what is tracked within the heap of lists is no tuple and not locked -/
theorem Rel.mut (R : Rel K ι h H) (hi : i < h.length) : Mut (H (ι i)) := by
  have e : h[i]? = some h[i] := List.getElem?_eq_getElem hi
  have q := R.ob i _ e
  cases r : h[i] with
  | lst ds => rw [r] at q; obtain ⟨vs, e, _⟩ := q; rw [e]; trivial
  | dK ds => rw [r] at q; obtain ⟨vs, e, _⟩ := q; rw [e]; trivial
  | dT ds => rw [r] at q; obtain ⟨vs, e, _⟩ := q; rw [e]; trivial
theorem Rel.fix (R : Rel K ι h H) (x : Ext ι h.length H ι' n' H') {o : HO} (e : H a = some o) (m : ¬ Mut (some o)) : H' a = some o :=
  x.fr a o e fun i hi z => by
    have q := R.mut hi
    rw [z, e] at q
    exact m q
theorem Rel.sqT (R : Rel K ι h H) (x : Ext ι h.length H ι' n' H') (q : SqT K H a vs) : SqT K H' a vs := by
  rcases q with (q | ⟨o, q⟩) | q
  · exact .inl (.inl (R.fix x q fun z => z))
  · exact .inl (.inr ⟨o, R.fix x q fun z => z⟩)
  · exact .inr q
theorem Rel.roL (R : Rel K ι h H) (x : Ext ι h.length H ι' n' H') (q : RoL K H a vs) : RoL K H' a vs := by
  rcases q with ⟨o, q⟩ | q
  · exact .inl ⟨o, R.fix x q fun z => z⟩
  · exact .inr q
/-- data keeps its meaning where tuples are kept -/
structure Grow (K : PySem.W.Frag) (ι : Nat → Addr) (n : Nat) (H : Hp) (ι' : Nat → Addr) (n' : Nat) (H' : Hp) : Prop where
  le : n ≤ n'
  ag : ∀ i, i < n → ι' i = ι i
  tp : ∀ a vs, SqT K H a vs → SqT K H' a vs
  ro : ∀ a vs, RoL K H a vs → RoL K H' a vs
theorem Ext.grow (x : Ext ι h.length H ι' n' H') (R : Rel K ι h H) : Grow K ι h.length H ι' n' H' := ⟨x.le, x.ag, fun _ _ q => R.sqT x q, fun _ _ q => R.roL x q⟩
mutual
theorem RD.mono (g : Grow K ι n H ι' n' H') : ∀ {d : D} {v : V}, RD K ι n H d v → RD K ι' n' H' d v
  | .non, v, h => by unfold RD at h ⊢; exact h
  | .bl _, v, h => by unfold RD at h ⊢; exact h
  | .int _, v, h => by unfold RD at h ⊢; exact h
  | .str _, v, h => by unfold RD at h ⊢; exact h
  | .ty _, v, h => by unfold RD at h ⊢; exact h
  | .tup ds, v, h => by
    unfold RD at h ⊢
    obtain ⟨a, vs, e, q, r⟩ := h
    exact ⟨a, vs, e, g.tp a vs q, RDs.mono g r⟩
  | .rol ds, v, h => by
    unfold RD at h ⊢
    obtain ⟨a, vs, e, q, r⟩ := h
    exact ⟨a, vs, e, g.ro a vs q, RDs.mono g r⟩
  | .ref i, v, h => by
    unfold RD at h ⊢
    exact ⟨Nat.lt_of_lt_of_le h.1 g.le, by rw [g.ag i h.1]; exact h.2⟩
theorem RDs.mono (g : Grow K ι n H ι' n' H') : ∀ {ds : List D} {vs : List V}, RDs K ι n H ds vs → RDs K ι' n' H' ds vs
  | [], vs, h => by unfold RDs at h ⊢; exact h
  | d :: ds, vs, h => by
    unfold RDs at h ⊢
    obtain ⟨v, r, e, h1, h2⟩ := h
    exact ⟨v, r, e, RD.mono g h1, RDs.mono g h2⟩
end
theorem RO.mono {H0 : Hp} (g : Grow K ι n H ι' n' H') (e : H' a = H a) : RO K ι n H o a → RO K ι' n' H' o a := by
  cases o with
  | lst ds => rintro ⟨vs, q, r⟩; exact ⟨vs, e.trans q, r.mono g⟩
  | dK kvs => rintro ⟨vs, q, k, r⟩; exact ⟨vs, e.trans q, k, r.mono g⟩
  | dT kvs => rintro ⟨vs, q, k, r⟩; exact ⟨vs, e.trans q, k, r.mono g⟩

/-! ### the slots -/
structure RE (K : PySem.W.Frag) (ι : Nat → Addr) (n : Nat) (H : Hp) (env : AE) (σ : List (Option V)) : Prop where
  len : env.length = σ.length
  at_ : ∀ (i : Nat) (d : D), env[i]? = some (some d) → ∃ v : V, σ[i]? = some (some v) ∧ RD K ι n H d v
theorem RE.mono {env : AE} {σ : List (Option V)} (g : Grow K ι n H ι' n' H') (h : RE K ι n H env σ) : RE K ι' n' H' env σ :=
  ⟨h.len, fun i d e => let ⟨v, e1, r⟩ := h.at_ i d e; ⟨v, e1, r.mono g⟩⟩
theorem RE.set {env : AE} {σ : List (Option V)} (h : RE K ι n H env σ) (i : Nat) (r : RD K ι n H d v) : RE K ι n H (env.set i (some d)) (σ.set i (some v)) := by
  refine ⟨by simp [h.len], fun j d' e => ?_⟩
  by_cases hj : i = j
  · subst hj
    by_cases hl : i < env.length
    · rw [List.getElem?_set_self hl] at e
      have e' : d = d' := by simpa using e
      subst e'
      exact ⟨v, List.getElem?_set_self (by rw [← h.len]; exact hl), r⟩
    · rw [List.getElem?_eq_none (by simpa using hl)] at e; cases e
  · rw [List.getElem?_set_ne hj] at e ⊢
    exact h.at_ j d' e
theorem RE.forget {env : AE} {σ : List (Option V)} (h : RE K ι n H env σ) (i : Nat) (x : Option V) : RE K ι n H (env.set i none) (σ.set i x) := by
  refine ⟨by simp [h.len], fun j d' e => ?_⟩
  by_cases hj : i = j
  · subst hj
    by_cases hl : i < env.length
    · rw [List.getElem?_set_self hl] at e; cases e
    · rw [List.getElem?_eq_none (by simpa using hl)] at e; cases e
  · rw [List.getElem?_set_ne hj] at e ⊢
    exact h.at_ j d' e
end
end Rf

set_option maxHeartbeats 1000000
namespace Rf
open PySem PySem.Spec PyProof.Rows L2

/-- the own dict of an exception -/
def XD (K : PySem.W.Frag) (ι : Nat → Addr) (n : Nat) (H : Hp) (d : Option Addr) (fs : List (Str × D)) : Prop := match d with
  | some dd => ∃ ws : List (Str × V), H dd = some (.xd ws) ∧ fs.map (·.1) = ws.map (·.1) ∧ RDs K ι n H (fs.map (·.2)) (ws.map (·.2))
  | none => fs = []
/-- the exception that a suite handles: its slot, its address, class, dict, fields -/
structure ExI where
  i : Nat
  a : Addr
  C : Addr
  c : Str
  d : Option Addr
  fs : List (Str × D)
structure Ct where
  X : Cx
  W : WX
  ea : Option ExI
def EA (K : PySem.W.Frag) (ι : Nat → Addr) (n : Nat) (H : Hp) (ea : Option ExI) (env : AE) (σ : List (Option V)) : Prop := match ea with
  | none => True
  | some x => σ[x.i]? = some (some (.ref x.a)) ∧ (∀ d, env[x.i]? ≠ some (some d)) ∧ XD K ι n H x.d x.fs
structure RVK (K : PySem.W.Frag) (ea : Option ExI) (ι : Nat → Addr) (n : Nat) (H : Hp) (env : AE) (σ : List (Option V)) : Prop where
  re : RE K ι n H env σ
  ea : EA K ι n H ea env σ
abbrev RV (C : Ct) (ι : Nat → Addr) (n : Nat) (H : Hp) (env : AE) (σ : List (Option V)) : Prop := RVK C.X.K C.ea ι n H env σ
section
variable {K : PySem.W.Frag} {C : Ct} {ι ι' ι1 : Nat → Addr} {n n' n1 : Nat} {H H' H1 : Hp} {h h' h1 : AH} {env : AE} {σ : List (Option V)} {d : D} {ds : List D} {v : V} {vs : List V} {a : Addr} {i : Nat}
theorem Rel.xd (R : Rel K ι h H) (x : Ext ι h.length H ι' n' H') {d : Option Addr} {fs : List (Str × D)} (q : XD K ι h.length H d fs) : XD K ι' n' H' d fs := by
  cases d with
  | none => exact q
  | some dd =>
    obtain ⟨ws, e, k, r⟩ := q
    exact ⟨ws, R.fix x e fun z => z, k, r.mono (x.grow R)⟩
theorem RV.ext (R : Rel C.X.K ι h H) (x : Ext ι h.length H ι' n' H') (e : RV C ι h.length H env σ) : RV C ι' n' H' env σ := by
  refine ⟨e.re.mono (x.grow R), ?_⟩
  have q := e.ea
  unfold EA at q ⊢
  cases r : C.ea with
  | none => trivial
  | some y =>
    rw [r] at q
    exact ⟨q.1, q.2.1, R.xd x q.2.2⟩
theorem RV.set (e : RV C ι n H env σ) (i : Nat) (r : RD C.X.K ι n H d v) (hi : ∀ x, C.ea = some x → x.i ≠ i) : RV C ι n H (env.set i (some d)) (σ.set i (some v)) := by
  refine ⟨e.re.set i r, ?_⟩
  have q := e.ea
  unfold EA at q ⊢
  cases z : C.ea with
  | none => trivial
  | some y =>
    rw [z] at q
    have hne := hi y z
    refine ⟨by rw [List.getElem?_set_ne (Ne.symm hne)]; exact q.1, fun d' e' => q.2.1 d' ?_, q.2.2⟩
    rw [List.getElem?_set_ne (Ne.symm hne)] at e'
    exact e'

/-! ### what must hold behind -/
def PostE (C : Ct) (ι : Nat → Addr) (n : Nat) (H : Hp) (σ : List (Option V)) (o : ER) (Q : VK) : Prop := match o with
  | .ok d h' => ∀ ι' H' v, Ext ι n H ι' h'.length H' → Rel C.X.K ι' h' H' → RD C.X.K ι' h'.length H' d v → Q v H'
  | .exc c fs h' => ∀ ι' H' Cl dd, Ext ι n H ι' h'.length H' → Rel C.X.K ι' h' H' → C.X.mg c = some (.ref Cl) → XD C.X.K ι' h'.length H' dd fs → C.W (.ref Cl) dd σ H'
  | .stuck => False
def PostL (C : Ct) (ι : Nat → Addr) (n : Nat) (H : Hp) (σ : List (Option V)) (o : LR) (Q : List V → Hp → Prop) : Prop := match o with
  | .ok ds h' => ∀ ι' H' vs, Ext ι n H ι' h'.length H' → Rel C.X.K ι' h' H' → RDs C.X.K ι' h'.length H' ds vs → Q vs H'
  | .exc c fs h' => ∀ ι' H' Cl dd, Ext ι n H ι' h'.length H' → Rel C.X.K ι' h' H' → C.X.mg c = some (.ref Cl) → XD C.X.K ι' h'.length H' dd fs → C.W (.ref Cl) dd σ H'
  | .stuck => False
def PostT (C : Ct) (ι : Nat → Addr) (n : Nat) (H : Hp) (σ : List (Option V)) (o : ER) (Q : Bool → Hp → Prop) : Prop := match o with
  | .ok d h' => ∃ b, d = .bl b ∧ ∀ ι' H', Ext ι n H ι' h'.length H' → Rel C.X.K ι' h' H' → Q b H'
  | .exc c fs h' => ∀ ι' H' Cl dd, Ext ι n H ι' h'.length H' → Rel C.X.K ι' h' H' → C.X.mg c = some (.ref Cl) → XD C.X.K ι' h'.length H' dd fs → C.W (.ref Cl) dd σ H'
  | .stuck => False
def PostS (C : Ct) (ι : Nat → Addr) (n : Nat) (H : Hp) (o : SR) (D : Ends) : Prop := match o with
  | .nx env' h' => ∀ ι' H' σ', Ext ι n H ι' h'.length H' → Rel C.X.K ι' h' H' → RV C ι' h'.length H' env' σ' → D.nx σ' H'
  | .rt d h' => ∀ ι' H' v, Ext ι n H ι' h'.length H' → Rel C.X.K ι' h' H' → RD C.X.K ι' h'.length H' d v → D.rt v H'
  | .bk env' h' => ∀ ι' H' σ', Ext ι n H ι' h'.length H' → Rel C.X.K ι' h' H' → RV C ι' h'.length H' env' σ' → D.bk σ' H'
  | .ct env' h' => ∀ ι' H' σ', Ext ι n H ι' h'.length H' → Rel C.X.K ι' h' H' → RV C ι' h'.length H' env' σ' → D.ct σ' H'
  | .exc c fs env' h' => ∀ ι' H' σ' Cl dd, Ext ι n H ι' h'.length H' → Rel C.X.K ι' h' H' → RV C ι' h'.length H' env' σ' → C.X.mg c = some (.ref Cl) → XD C.X.K ι' h'.length H' dd fs → C.W (.ref Cl) dd σ' H'
  | .stuck => False
theorem PostE.shift {o : ER} {Q : VK} (p : PostE C ι n H σ o Q) (x : Ext ι n H ι1 n1 H1) : PostE C ι1 n1 H1 σ o Q := by
  cases o with
  | ok d h' => exact fun ι' H' v y => p ι' H' v (x.trans y)
  | exc c fs h' => exact fun ι' H' Cl dd y => p ι' H' Cl dd (x.trans y)
  | stuck => exact p
theorem PostL.shift {o : LR} {Q : List V → Hp → Prop} (p : PostL C ι n H σ o Q) (x : Ext ι n H ι1 n1 H1) : PostL C ι1 n1 H1 σ o Q := by
  cases o with
  | ok d h' => exact fun ι' H' v y => p ι' H' v (x.trans y)
  | exc c fs h' => exact fun ι' H' Cl dd y => p ι' H' Cl dd (x.trans y)
  | stuck => exact p
theorem PostT.shift {o : ER} {Q : Bool → Hp → Prop} (p : PostT C ι n H σ o Q) (x : Ext ι n H ι1 n1 H1) : PostT C ι1 n1 H1 σ o Q := by
  cases o with
  | ok d h' =>
    obtain ⟨b, e, p⟩ := p
    exact ⟨b, e, fun ι' H' y => p ι' H' (x.trans y)⟩
  | exc c fs h' => exact fun ι' H' Cl dd y => p ι' H' Cl dd (x.trans y)
  | stuck => exact p
theorem PostS.shift {o : SR} {D : Ends} (p : PostS C ι n H o D) (x : Ext ι n H ι1 n1 H1) : PostS C ι1 n1 H1 o D := by
  cases o with
  | nx e h' => exact fun ι' H' s y => p ι' H' s (x.trans y)
  | rt e h' => exact fun ι' H' s y => p ι' H' s (x.trans y)
  | bk e h' => exact fun ι' H' s y => p ι' H' s (x.trans y)
  | ct e h' => exact fun ι' H' s y => p ι' H' s (x.trans y)
  | exc c fs e h' => exact fun ι' H' s Cl dd y => p ι' H' s Cl dd (x.trans y)
  | stuck => exact p
end

/-! ### the judgements: the def's piece e is done by the plain function m -/
abbrev EM := AE → AH → ER
abbrev LM := AE → AH → LR
abbrev SM := AE → AH → SR
structure SimE (C : Ct) (t : TE) (m : EM) : Prop where
  run : ∀ (env : AE) (h : AH) (σ : List (Option V)) (H : Hp) (ι : Nat → Addr) (Q : VK), Rel C.X.K ι h H → RV C ι h.length H env σ → PostE C ι h.length H σ (m env h) Q → t σ H Q
structure SimT (C : Ct) (t : TT) (m : EM) : Prop where
  run : ∀ (env : AE) (h : AH) (σ : List (Option V)) (H : Hp) (ι : Nat → Addr) (Q : Bool → Hp → Prop), Rel C.X.K ι h H → RV C ι h.length H env σ → PostT C ι h.length H σ (m env h) Q → t σ H Q
structure SimL (C : Ct) (t : TA) (m : LM) : Prop where
  run : ∀ (env : AE) (h : AH) (σ : List (Option V)) (H : Hp) (ι : Nat → Addr) (Q : List V → Hp → Prop), Rel C.X.K ι h H → RV C ι h.length H env σ → PostL C ι h.length H σ (m env h) Q → t σ H Q
structure SimS (C : Ct) (t : TS) (m : SM) : Prop where
  run : ∀ (env : AE) (h : AH) (σ : List (Option V)) (H : Hp) (ι : Nat → Addr) (D : Ends), Rel C.X.K ι h H → RV C ι h.length H env σ → PostS C ι h.length H (m env h) D → t D σ H
def ME (C : Ct) (e : Expr) (m : EM) : Prop := ∃ t, PE C.X e t ∧ SimE C t m
def MT (C : Ct) (e : Expr) (m : EM) : Prop := ∃ t, PT C.X e t ∧ SimT C t m
def MW (C : Ct) (e : Expr) (m : EM) : Prop := ∃ t, PW C.X e t ∧ SimT C t m
def MA (C : Ct) (es : List Expr) (m : LM) : Prop := ∃ t, PA C.X es t ∧ SimL C t m
def MS (C : Ct) (s : Stmt) (m : SM) : Prop := ∃ t, PS C.X s t ∧ SimS C t m
def MB (C : Ct) (s : List Stmt) (m : SM) : Prop := ∃ t, PSs C.X s t ∧ SimS C t m

/-! ### the plain functions of the constructs -/
def ER.then (o : ER) (f : D → AH → ER) : ER := match o with
  | .ok d h => f d h
  | .exc c fs h => .exc c fs h
  | .stuck => .stuck
def LR.then (o : LR) (f : List D → AH → ER) : ER := match o with
  | .ok d h => f d h
  | .exc c fs h => .exc c fs h
  | .stuck => .stuck
def eVar (i : Nat) : EM := fun env h => match env[i]? with
  | some (some d) => .ok d h
  | _ => .stuck
def eC (d : D) : EM := fun _ h => .ok d h
def eOp (g : D → D → AH → ER) (a b : EM) : EM := fun env h => (a env h).then fun d1 h1 => (b env h1).then fun d2 h2 => g d1 d2 h2
def eUn (g : D → AH → ER) (a : EM) : EM := fun env h => (a env h).then fun d1 h1 => g d1 h1
def eIf (c a b : EM) : EM := fun env h => (c env h).then fun d h1 => match d with
  | .bl true => a env h1
  | .bl false => b env h1
  | _ => .stuck
/-- and, or of bools -/
def eAnd (a b : EM) : EM := fun env h => (a env h).then fun d h1 => match d with
  | .bl true => b env h1
  | .bl false => .ok (.bl false) h1
  | _ => .stuck
def eOr (a b : EM) : EM := fun env h => (a env h).then fun d h1 => match d with
  | .bl true => .ok (.bl true) h1
  | .bl false => b env h1
  | _ => .stuck
def eNot (a : EM) : EM := fun env h => (a env h).then fun d h1 => match d with
  | .bl b => .ok (.bl (!b)) h1
  | _ => .stuck
def lNil : LM := fun _ h => .ok [] h
def lCons (a : EM) (r : LM) : LM := fun env h => match a env h with
  | .ok d h1 => (match r env h1 with
    | .ok ds h2 => .ok (d :: ds) h2
    | .exc c fs h2 => .exc c fs h2
    | .stuck => .stuck)
  | .exc c fs h1 => .exc c fs h1
  | .stuck => .stuck
def eCall (g : List D → AH → ER) (a : LM) : EM := fun env h => (a env h).then g

section
variable {C : Ct} {e a b c : Expr} {m ma mb mc : EM} {pos : Pos}
/-- the first of two -/
theorem SimE.then {t : TE} {ma : EM} (sa : SimE C t ma) {env : AE} {h : AH} {σ : List (Option V)} {H : Hp} {ι : Nat → Addr} {f : D → AH → ER} {Q Q' : VK} (R : Rel C.X.K ι h H) (V : RV C ι h.length H env σ)
    (p : PostE C ι h.length H σ ((ma env h).then f) Q)
    (k : ∀ d h' ι' H' v, Ext ι h.length H ι' h'.length H' → Rel C.X.K ι' h' H' → RV C ι' h'.length H' env σ → RD C.X.K ι' h'.length H' d v → PostE C ι' h'.length H' σ (f d h') Q → Q' v H') : t σ H Q' := by
  refine sa.run env h σ H ι Q' R V ?_
  cases hm : ma env h with
  | ok d h1 =>
    rw [hm] at p
    exact fun ι' H' v x R' r => k d h1 ι' H' v x R' (V.ext R x) r (PostE.shift p x)
  | exc c fs h1 => rw [hm] at p; exact p
  | stuck => rw [hm] at p; exact p
theorem SimT.then {t : TT} {ma : EM} (sa : SimT C t ma) {env : AE} {h : AH} {σ : List (Option V)} {H : Hp} {ι : Nat → Addr} {f : Bool → AH → ER} {Q : VK} {Q' : Bool → Hp → Prop} (R : Rel C.X.K ι h H) (V : RV C ι h.length H env σ)
    (p : PostE C ι h.length H σ ((ma env h).then fun d h1 => match d with | .bl b => f b h1 | _ => .stuck) Q)
    (k : ∀ b h' ι' H', Ext ι h.length H ι' h'.length H' → Rel C.X.K ι' h' H' → RV C ι' h'.length H' env σ → PostE C ι' h'.length H' σ (f b h') Q → Q' b H') : t σ H Q' := by
  refine sa.run env h σ H ι Q' R V ?_
  cases hm : ma env h with
  | ok d h1 =>
    rw [hm] at p
    cases d with
    | bl b => exact ⟨b, rfl, fun ι' H' x R' => k b h1 ι' H' x R' (V.ext R x) (PostE.shift p x)⟩
    | _ => exact (show False from p).elim
  | exc c fs h1 => rw [hm] at p; exact p
  | stuck => rw [hm] at p; exact p

/-! ### names, constants -/
theorem me_var (i : Nat) {x : Str} (hN : C.X.N[i]? = some x := by rfl) (hv : Vis C.X.env.scope x := by first | exact Or.inl rfl | exact Or.inr (Or.inl rfl) | exact Or.inr (Or.inr rfl)) (hd : (x == ("__debug__" : Str)) = false := by decide)
    (hcd : (x == ("__classdict__" : Str)) = false := by decide) : ME C (.Name x pos) (eVar i) := by
  refine ⟨_, pe_var hN hv hd hcd, ⟨fun env h σ H ι Q R V p => ?_⟩⟩
  unfold eVar at p
  split at p
  · rename_i d e
    obtain ⟨v, e2, r⟩ := V.re.at_ i d e
    exact ⟨v, e2, p ι H v .refl R r⟩
  · exact p.elim
theorem me_C {v : V} {d : D} (hp : PE C.X e (tC v)) (hd : ∀ ι n H, RD C.X.K ι n H d v) : ME C e (eC d) :=
  ⟨_, hp, ⟨fun env h σ H ι Q R V p => p ι H v .refl R (hd _ _ _)⟩⟩

/-! ### operators, by values -/
/-- r asks no more of related values than g tells -/
def OpS (C : Ct) (r : R2) (g : D → D → AH → ER) : Prop := ∀ (ι : Nat → Addr) (h : AH) (H : Hp) (σ : List (Option V)) (x y : V) (d1 d2 : D) (Q : VK), Rel C.X.K ι h H → RD C.X.K ι h.length H d1 x → RD C.X.K ι h.length H d2 y → PostE C ι h.length H σ (g d1 d2 h) Q → r x y H Q
def UnS (C : Ct) (r : V → Hp → VK → Prop) (g : D → AH → ER) : Prop := ∀ (ι : Nat → Addr) (h : AH) (H : Hp) (σ : List (Option V)) (x : V) (d : D) (Q : VK), Rel C.X.K ι h H → RD C.X.K ι h.length H d x → PostE C ι h.length H σ (g d h) Q → r x H Q
def CallS (C : Ct) (r : List V → Hp → VK → Prop) (g : List D → AH → ER) : Prop := ∀ (ι : Nat → Addr) (h : AH) (H : Hp) (σ : List (Option V)) (xs : List V) (ds : List D) (Q : VK), Rel C.X.K ι h H → RDs C.X.K ι h.length H ds xs → PostE C ι h.length H σ (g ds h) Q → r xs H Q
def TruS (C : Ct) (g : D → AH → ER) : Prop := ∀ (ι : Nat → Addr) (h : AH) (H : Hp) (σ : List (Option V)) (x : V) (d : D) (Q : Bool → Hp → Prop), Rel C.X.K ι h H → RD C.X.K ι h.length H d x → PostT C ι h.length H σ (g d h) Q → ∃ k, TruV C.X.K x H k ∧ Q k H
theorem SimE.op {ta tb : TE} (sa : SimE C ta ma) (sb : SimE C tb mb) {r : R2} {g : D → D → AH → ER} (hs : OpS C r g) : SimE C (tOp r ta tb) (eOp g ma mb) := by
  refine ⟨fun env h σ H ι Q R V p => ?_⟩
  refine sa.then R V p fun d1 h1 ι1 H1 v1 x1 R1 V1 r1 p1 => ?_
  refine sb.then R1 V1 p1 fun d2 h2 ι2 H2 v2 x2 R2 V2 r2 p2 => ?_
  exact hs ι2 h2 H2 σ v1 v2 d1 d2 Q R2 (r1.mono (x2.grow R1)) r2 p2
theorem me_op {op : Operator} {r : R2} {g : D → D → AH → ER} (ho : OpR C.X (binaryOp op) r) (hs : OpS C r g) (ha : ME C a ma) (hb : ME C b mb) : ME C (.BinOp a op b pos) (eOp g ma mb) := by
  obtain ⟨ta, pa, sa⟩ := ha
  obtain ⟨tb, pb, sb⟩ := hb
  exact ⟨_, pe_op ho pa pb, sa.op sb hs⟩
theorem me_un {op : UnaryOp} {r : V → Hp → VK → Prop} {g : D → AH → ER} (ho : UnR C.X (unaryOp op) r) (hs : UnS C r g) (ha : ME C a ma) : ME C (.UnaryOp op a pos) (eUn g ma) := by
  obtain ⟨ta, pa, sa⟩ := ha
  refine ⟨_, pe_un ho pa, ⟨fun env h σ H ι Q R V p => ?_⟩⟩
  refine sa.then R V p fun d1 h1 ι1 H1 v1 x1 R1 V1 r1 p1 => ?_
  exact hs ι1 h1 H1 σ v1 d1 Q R1 r1 p1
theorem me_cmp {op : CmpOp} {r : R2} {g : D → D → AH → ER} (ho : OpR C.X (compareOp op) r) (hs : OpS C r g) (ha : ME C a ma) (hb : ME C b mb) (hm : behindInMarks op b = false) : ME C (.Compare a [op] [b] pos) (eOp g ma mb) := by
  obtain ⟨ta, pa, sa⟩ := ha
  obtain ⟨tb, pb, sb⟩ := hb
  exact ⟨_, pe_cmpR ho pa pb hm, sa.op sb hs⟩
theorem SimE.test {t : TE} (s : SimE C t m) : SimT C (tTest t) m := by
  refine ⟨fun env h σ H ι Q R V p => ?_⟩
  refine s.run env h σ H ι _ R V ?_
  cases hm : m env h with
  | ok d h1 =>
    rw [hm] at p
    obtain ⟨b, rfl, p⟩ := p
    exact fun ι' H' v x R' r => ⟨b, RD.bl.mp r, p ι' H' x R'⟩
  | exc c fs h1 => rw [hm] at p; exact p
  | stuck => rw [hm] at p; exact p
theorem mt_cmp {op : CmpOp} {r : R2} {g : D → D → AH → ER} (ho : OpR C.X (compareOp op) r) (hs : OpS C r g) (ha : ME C a ma) (hb : ME C b mb) (hm : behindInMarks op b = false) : MT C (.Compare a [op] [b] pos) (eOp g ma mb) := by
  obtain ⟨ta, pa, sa⟩ := ha
  obtain ⟨tb, pb, sb⟩ := hb
  exact ⟨_, pt_cmpR ho pa pb hm, (sa.op sb hs).test⟩
/-- a op b op' c -/
def eChain (g g' : D → D → AH → ER) (a b c : EM) : EM := fun env h => (a env h).then fun d1 h1 => (b env h1).then fun d2 h2 => (g d1 d2 h2).then fun z h3 => match z with
  | .bl true => (c env h3).then fun d3 h4 => g' d2 d3 h4
  | .bl false => .ok (.bl false) h3
  | _ => .stuck
/-- r, then f -/
theorem OpS.then {r : R2} {g : D → D → AH → ER} (hs : OpS C r g) {ι : Nat → Addr} {h : AH} {H : Hp} {σ : List (Option V)} {x y : V} {d1 d2 : D} {f : D → AH → ER} {Q Q' : VK} {env : AE} (R : Rel C.X.K ι h H) (V : RV C ι h.length H env σ) (r1 : RD C.X.K ι h.length H d1 x) (r2 : RD C.X.K ι h.length H d2 y)
    (p : PostE C ι h.length H σ ((g d1 d2 h).then f) Q)
    (k : ∀ d h' ι' H' v, Ext ι h.length H ι' h'.length H' → Rel C.X.K ι' h' H' → RV C ι' h'.length H' env σ → RD C.X.K ι' h'.length H' d v → PostE C ι' h'.length H' σ (f d h') Q → Q' v H') : r x y H Q' := by
  refine hs ι h H σ x y d1 d2 Q' R r1 r2 ?_
  cases hm : g d1 d2 h with
  | ok d h1 =>
    rw [hm] at p
    exact fun ι' H' v x R' r => k d h1 ι' H' v x R' (V.ext R x) r (PostE.shift p x)
  | exc c fs h1 => rw [hm] at p; exact p
  | stuck => rw [hm] at p; exact p
theorem SimE.chain {ta tb tc : TE} (sa : SimE C ta ma) (sb : SimE C tb mb) (sc : SimE C tc mc) {r r' : R2} {g g' : D → D → AH → ER} (hs : OpS C r g) (hs' : OpS C r' g') : SimE C (tChain r r' ta tb tc) (eChain g g' ma mb mc) := by
  refine ⟨fun env h σ H ι Q R V p => ?_⟩
  refine sa.then R V p fun d1 h1 ι1 H1 v1 x1 R1 V1 r1 p1 => ?_
  refine sb.then R1 V1 p1 fun d2 h2 ι2 H2 v2 x2 R2 V2 r2 p2 => ?_
  refine hs.then R2 V2 (r1.mono (x2.grow R1)) r2 p2 fun d3 h3 ι3 H3 v3 x3 R3 V3 r3 p3 => ?_
  cases d3 with
  | bl k =>
    refine ⟨k, RD.bl.mp r3, ?_⟩
    cases k with
    | true =>
      refine iteT ?_
      refine sc.then R3 V3 p3 fun d4 h4 ι4 H4 v4 x4 R4 V4 r4 p4 => ?_
      exact hs' ι4 h4 H4 σ v2 v4 d2 d4 Q R4 (r2.mono ((x3.trans x4).grow R2)) r4 p4
    | false => exact iteF (p3 ι3 H3 _ .refl R3 (RD.bl.mpr rfl))
  | _ => exact (show False from p3).elim
theorem me_chain {op op' : CmpOp} {r r' : R2} {g g' : D → D → AH → ER} (ho : OpR C.X (compareOp op) r) (hs : OpS C r g) (ho' : OpR C.X (compareOp op') r') (hs' : OpS C r' g') (ha : ME C a ma) (hb : ME C b mb) (hc : ME C c mc)
    (hm : lastMarks [op, op'] [b, c] = false := by with_unfolding_all rfl) : ME C (.Compare a [op, op'] [b, c] pos) (eChain g g' ma mb mc) := by
  obtain ⟨ta, pa, sa⟩ := ha
  obtain ⟨tb, pb, sb⟩ := hb
  obtain ⟨tc, pc, sc⟩ := hc
  exact ⟨_, pe_chain ho ho' pa pb pc hm, sa.chain sb sc hs hs'⟩
theorem mt_chain {op op' : CmpOp} {r r' : R2} {g g' : D → D → AH → ER} (ho : OpR C.X (compareOp op) r) (hs : OpS C r g) (ho' : OpR C.X (compareOp op') r') (hs' : OpS C r' g') (ha : ME C a ma) (hb : ME C b mb) (hc : ME C c mc)
    (hm : lastMarks [op, op'] [b, c] = false := by with_unfolding_all rfl) : MT C (.Compare a [op, op'] [b, c] pos) (eChain g g' ma mb mc) := by
  obtain ⟨ta, pa, sa⟩ := ha
  obtain ⟨tb, pb, sb⟩ := hb
  obtain ⟨tc, pc, sc⟩ := hc
  exact ⟨_, pt_chain ho ho' pa pb pc hm, (sa.chain sb sc hs hs').test⟩

/-! ### tests -/
theorem mt_truth {g : D → AH → ER} (hs : TruS C g) (ha : ME C a ma) (he : ∀ whole, isTrue a C.X.env whole = (do let v ← whole; standAt a.pos; holding [v] (truthy v)) := by intro _; rfl) : MT C a (eUn g ma) := by
  obtain ⟨ta, pa, sa⟩ := ha
  refine ⟨_, pt_truth pa he, ⟨fun env h σ H ι Q R V p => ?_⟩⟩
  refine sa.run env h σ H ι _ R V ?_
  unfold eUn at p
  cases hm : ma env h with
  | ok d h1 =>
    rw [hm] at p
    refine fun ι' H' v x R' r => hs ι' h1 H' σ v d Q R' r (PostT.shift p x)
  | exc c fs h1 => rw [hm] at p; exact p
  | stuck => rw [hm] at p; exact p
theorem mt_not (ha : MT C a ma) : MT C (.UnaryOp .Not a pos) (eNot ma) := by
  obtain ⟨ta, pa, sa⟩ := ha
  refine ⟨_, pt_not pa, ⟨fun env h σ H ι Q R V p => ?_⟩⟩
  refine sa.run env h σ H ι _ R V ?_
  unfold eNot at p
  cases hm : ma env h with
  | ok d h1 =>
    rw [hm] at p
    cases d with
    | bl b =>
      obtain ⟨b', e, p⟩ := p
      cases e
      exact ⟨b, rfl, p⟩
    | _ => exact (show False from p).elim
  | exc c fs h1 => rw [hm] at p; exact p
  | stuck => rw [hm] at p; exact p
theorem mw_and1 (ha : MT C a ma) : MW C (.BoolOp .And [a] pos) ma := by
  obtain ⟨ta, pa, sa⟩ := ha
  exact ⟨_, pw_and1 pa, sa⟩
theorem mw_or1 (ha : MT C a ma) : MW C (.BoolOp .Or [a] pos) ma := by
  obtain ⟨ta, pa, sa⟩ := ha
  exact ⟨_, pw_or1 pa, sa⟩
theorem SimT.and {ta tb : TT} (sa : SimT C ta ma) (sb : SimT C tb mb) : SimT C (tAnd ta tb) (eAnd ma mb) := by
  refine ⟨fun env h σ H ι Q R V p => ?_⟩
  refine sa.run env h σ H ι _ R V ?_
  unfold eAnd at p
  cases hm : ma env h with
  | ok d h1 =>
    rw [hm] at p
    cases d with
    | bl b =>
      refine ⟨b, rfl, fun ι' H' x R' => ?_⟩
      cases b with
      | true => exact iteT (sb.run env h1 σ H' ι' Q R' (V.ext R x) (PostT.shift p x))
      | false =>
        obtain ⟨b', e, p⟩ := p
        cases e
        exact iteF (p ι' H' x R')
    | _ => exact (show False from p).elim
  | exc c fs h1 => rw [hm] at p; exact p
  | stuck => rw [hm] at p; exact p
theorem SimT.or {ta tb : TT} (sa : SimT C ta ma) (sb : SimT C tb mb) : SimT C (tOr ta tb) (eOr ma mb) := by
  refine ⟨fun env h σ H ι Q R V p => ?_⟩
  refine sa.run env h σ H ι _ R V ?_
  unfold eOr at p
  cases hm : ma env h with
  | ok d h1 =>
    rw [hm] at p
    cases d with
    | bl b =>
      refine ⟨b, rfl, fun ι' H' x R' => ?_⟩
      cases b with
      | false => exact iteF (sb.run env h1 σ H' ι' Q R' (V.ext R x) (PostT.shift p x))
      | true =>
        obtain ⟨b', e, p⟩ := p
        cases e
        exact iteT (p ι' H' x R')
    | _ => exact (show False from p).elim
  | exc c fs h1 => rw [hm] at p; exact p
  | stuck => rw [hm] at p; exact p
theorem mw_and {rest : List Expr} (ha : MT C a ma) (hb : MW C (.BoolOp .And (b :: rest) pos) mb) : MW C (.BoolOp .And (a :: b :: rest) pos) (eAnd ma mb) := by
  obtain ⟨ta, pa, sa⟩ := ha
  obtain ⟨tb, pb, sb⟩ := hb
  exact ⟨_, pw_and pa pb, sa.and sb⟩
theorem mw_or {rest : List Expr} (ha : MT C a ma) (hb : MW C (.BoolOp .Or (b :: rest) pos) mb) : MW C (.BoolOp .Or (a :: b :: rest) pos) (eOr ma mb) := by
  obtain ⟨ta, pa, sa⟩ := ha
  obtain ⟨tb, pb, sb⟩ := hb
  exact ⟨_, pw_or pa pb, sa.or sb⟩
theorem MW.mt (h : MW C a ma) : MT C a ma := by
  obtain ⟨t, p, s⟩ := h
  exact ⟨t, p.pt, s⟩
/-- .. as values (bools, but the last) -/
theorem me_one {op} (h : ME C a ma) : ME C (.BoolOp op [a] pos) ma := by
  obtain ⟨t, p, s⟩ := h
  exact ⟨t, pe_one p, s⟩
theorem me_and {rest : List Expr} (ha : ME C a ma) (hb : ME C (.BoolOp .And (b :: rest) pos) mb) : ME C (.BoolOp .And (a :: b :: rest) pos) (eAnd ma mb) := by
  obtain ⟨ta, pa, sa⟩ := ha
  obtain ⟨tb, pb, sb⟩ := hb
  refine ⟨_, pe_and pa pb, ⟨fun env h σ H ι Q R V p => ?_⟩⟩
  refine sa.then R V p fun d1 h1 ι1 H1 v1 x1 R1 V1 r1 p1 => ?_
  cases d1 with
  | bl k =>
    refine ⟨k, RD.bl.mp r1, ?_⟩
    cases k with
    | true => exact iteT (sb.run env h1 σ H1 ι1 Q R1 V1 p1)
    | false => exact iteF (p1 ι1 H1 _ .refl R1 (RD.bl.mpr rfl))
  | _ => exact (show False from p1).elim
theorem me_or {rest : List Expr} (ha : ME C a ma) (hb : ME C (.BoolOp .Or (b :: rest) pos) mb) : ME C (.BoolOp .Or (a :: b :: rest) pos) (eOr ma mb) := by
  obtain ⟨ta, pa, sa⟩ := ha
  obtain ⟨tb, pb, sb⟩ := hb
  refine ⟨_, pe_or pa pb, ⟨fun env h σ H ι Q R V p => ?_⟩⟩
  refine sa.then R V p fun d1 h1 ι1 H1 v1 x1 R1 V1 r1 p1 => ?_
  cases d1 with
  | bl k =>
    refine ⟨k, RD.bl.mp r1, ?_⟩
    cases k with
    | false => exact iteF (sb.run env h1 σ H1 ι1 Q R1 V1 p1)
    | true => exact iteT (p1 ι1 H1 _ .refl R1 (RD.bl.mpr rfl))
  | _ => exact (show False from p1).elim
theorem me_not (ha : ME C a ma) : ME C (.UnaryOp .Not a pos) (eNot ma) := by
  obtain ⟨ta, pa, sa⟩ := ha
  refine ⟨_, pe_not pa, ⟨fun env h σ H ι Q R V p => ?_⟩⟩
  refine sa.then R V p fun d1 h1 ι1 H1 v1 x1 R1 V1 r1 p1 => ?_
  cases d1 with
  | bl k => exact ⟨k, RD.bl.mp r1, p1 ι1 H1 _ .refl R1 (RD.bl.mpr rfl)⟩
  | _ => exact (show False from p1).elim
/-- a if c else b -/
theorem me_if (hc : MT C c mc) (ha : ME C a ma) (hb : ME C b mb) : ME C (.IfExp c a b pos) (eIf mc ma mb) := by
  obtain ⟨tc, pc, sc⟩ := hc
  obtain ⟨ta, pa, sa⟩ := ha
  obtain ⟨tb, pb, sb⟩ := hb
  refine ⟨_, pe_ifExp pc pa pb, ⟨fun env h σ H ι Q R V p => ?_⟩⟩
  refine sc.run env h σ H ι _ R V ?_
  unfold eIf at p
  cases hm : mc env h with
  | ok d h1 =>
    rw [hm] at p
    cases d with
    | bl k =>
      refine ⟨k, rfl, fun ι' H' x R' => ?_⟩
      cases k with
      | true => exact iteT (sa.run env h1 σ H' ι' Q R' (V.ext R x) (PostE.shift p x))
      | false => exact iteF (sb.run env h1 σ H' ι' Q R' (V.ext R x) (PostE.shift p x))
    | _ => exact (show False from p).elim
  | exc c fs h1 => rw [hm] at p; exact p
  | stuck => rw [hm] at p; exact p

/-! ### argument lists, calls of built-ins -/
theorem ma_nil : MA C [] lNil := ⟨_, pa_nil, ⟨fun env h σ H ι Q R V p => p ι H [] .refl R RDs.nil'⟩⟩
theorem ma_cons {es : List Expr} {mr : LM} (ha : ME C e m) (hr : MA C es mr) (hs : starEach (e :: es) C.X.env = (false, eval e C.X.env) :: starEach es C.X.env := by rfl) : MA C (e :: es) (lCons m mr) := by
  obtain ⟨ta, pa, sa⟩ := ha
  obtain ⟨tr, pr, sr⟩ := hr
  refine ⟨_, pa_cons pa pr hs, ⟨fun env h σ H ι Q R V p => ?_⟩⟩
  refine sa.run env h σ H ι _ R V ?_
  unfold lCons at p
  cases hm : m env h with
  | ok d h1 =>
    rw [hm] at p
    dsimp only at p
    refine fun ι' H' v x R' r => ?_
    refine sr.run env h1 σ H' ι' _ R' (V.ext R x) ?_
    cases hm2 : mr env h1 with
    | ok ds h2 =>
      rw [hm2] at p
      exact fun ι2 H2 vs x2 R2 r2 => p ι2 H2 _ (x.trans x2) R2 (RDs.cons' (r.mono (x2.grow R')) r2)
    | exc c fs h2 =>
      rw [hm2] at p
      exact fun ι2 H2 Cl dd x2 => p ι2 H2 Cl dd (x.trans x2)
    | stuck => rw [hm2] at p; exact p
  | exc c fs h1 => rw [hm] at p; exact p
  | stuck => rw [hm] at p; exact p
theorem SimL.call {t : TA} {ml : LM} (s : SimL C t ml) {r : List V → Hp → VK → Prop} {g : List D → AH → ER} (hs : CallS C r g) : SimE C (fun σ H Q => t σ H fun vs H1 => r vs H1 Q) (eCall g ml) := by
  refine ⟨fun env h σ H ι Q R V p => ?_⟩
  refine s.run env h σ H ι _ R V ?_
  unfold eCall at p
  cases hm : ml env h with
  | ok ds h1 =>
    rw [hm] at p
    exact fun ι' H' vs x R' r' => hs ι' h1 H' σ vs ds Q R' r' (PostE.shift p x)
  | exc c fs h1 => rw [hm] at p; exact p
  | stuck => rw [hm] at p; exact p
theorem me_callB {x : Str} {p : Pos} {es : List Expr} {id : String} {r : List V → Hp → VK → Prop} {g : List D → AH → ER} {ml : LM} (hc : CallR C.X (.builtin id) r) (hs : CallS C r g) (hm : C.X.mg x = none) (ha : MA C (e :: es) ml) (hv : bootBuiltins x = some (.builtin id) := by decide +kernel) (hg : Gl C.X x := by rfl) (hn : x ≠ "__name__" := by decide) (hdb : (x == ("__debug__" : Str)) = false := by decide)
    (he : starEach (e :: es) C.X.env = (false, eval e C.X.env) :: starEach es C.X.env := by rfl) (hpl : (backTo pos (starEach es C.X.env)).any (·.1) = false := by rfl) : ME C (.Call (.Name x p) (e :: es) [] pos) (eCall g ml) := by
  obtain ⟨t, pa, s⟩ := ha
  exact ⟨_, pe_callB hc hg hm hv pa hn hdb he hpl, s.call hs⟩
theorem me_callTy {x : Str} {p : Pos} {es : List Expr} {T : String} {r : List V → Hp → VK → Prop} {g : List D → AH → ER} {ml : LM} (hc : CallR C.X (.type T) r) (hs : CallS C r g) (hm : C.X.mg x = none) (ha : MA C (e :: es) ml) (hv : bootBuiltins x = some (.type T) := by decide +kernel) (hg : Gl C.X x := by rfl) (hn : x ≠ "__name__" := by decide) (hdb : (x == ("__debug__" : Str)) = false := by decide)
    (he : starEach (e :: es) C.X.env = (false, eval e C.X.env) :: starEach es C.X.env := by rfl) (hpl : (backTo pos (starEach es C.X.env)).any (·.1) = false := by rfl) : ME C (.Call (.Name x p) (e :: es) [] pos) (eCall g ml) := by
  obtain ⟨t, pa, s⟩ := ha
  exact ⟨_, pe_callTy hc hg hm hv pa hn hdb he hpl, s.call hs⟩
end
end Rf

set_option maxHeartbeats 1000000
namespace Rf
open PySem PySem.Spec PyProof.Rows L2

/-! ### statements -/
def SR.then (o : SR) (f : SM) : SR := match o with
  | .nx e h => f e h
  | r => r
/-- an expression, then a statement's piece -/
def ER.thenS (o : ER) (env : AE) (f : D → AH → SR) : SR := match o with
  | .ok d h => f d h
  | .exc c fs h => .exc c fs env h
  | .stuck => .stuck
def sPass : SM := fun e h => .nx e h
def sSeq (a b : SM) : SM := fun e h => (a e h).then b
def sRet (m : EM) : SM := fun e h => (m e h).thenS e fun d h1 => .rt d h1
def sRetN : SM := fun _ h => .rt .non h
def sExpr (m : EM) : SM := fun e h => (m e h).thenS e fun _ h1 => .nx e h1
def sIf (c : EM) (a b : SM) : SM := fun e h => (c e h).thenS e fun d h1 => match d with
  | .bl true => a e h1
  | .bl false => b e h1
  | _ => .stuck
def sBreak : SM := fun e h => .bk e h
def sCont : SM := fun e h => .ct e h
def sStuck : SM := fun _ _ => .stuck
/-- a target takes a value -/
abbrev GM := D → AE → AH → SR
def gVar (i : Nat) : GM := fun d e h => .nx (e.set i (some d)) h
def sAsg (m : EM) (g : GM) : SM := fun e h => (m e h).thenS e fun d h1 => g d e h1
def sSet (i : Nat) (m : EM) : SM := sAsg m (gVar i)

section
variable {C : Ct} {e a b c : Expr} {s : Stmt} {st st' : List Stmt} {m ma mb mc : EM} {q q' : SM} {pos : Pos}
theorem SimE.thenS {t : TE} {ma : EM} (sa : SimE C t ma) {env : AE} {h : AH} {σ : List (Option V)} {H : Hp} {ι : Nat → Addr} {f : D → AH → SR} {D : Ends} {Q' : VK} (R : Rel C.X.K ι h H) (V : RV C ι h.length H env σ)
    (p : PostS C ι h.length H ((ma env h).thenS env f) D)
    (k : ∀ d h' ι' H' v, Ext ι h.length H ι' h'.length H' → Rel C.X.K ι' h' H' → RV C ι' h'.length H' env σ → RD C.X.K ι' h'.length H' d v → PostS C ι' h'.length H' (f d h') D → Q' v H') : t σ H Q' := by
  refine sa.run env h σ H ι Q' R V ?_
  cases hm : ma env h with
  | ok d h1 =>
    rw [hm] at p
    exact fun ι' H' v x R' r => k d h1 ι' H' v x R' (V.ext R x) r (PostS.shift p x)
  | exc c fs h1 => rw [hm] at p; exact fun ι' H' Cl dd x R' mc xd => p ι' H' σ Cl dd x R' (V.ext R x) mc xd
  | stuck => rw [hm] at p; exact p
theorem mb_nil : MB C [] sPass := ⟨_, pss_nil, ⟨fun env h σ H ι D R V p => p ι H σ .refl R V⟩⟩
theorem SimS.seq {t u : TS} (s1 : SimS C t q) (s2 : SimS C u q') : SimS C (tSeq t u) (sSeq q q') := by
  refine ⟨fun env h σ H ι D R V p => ?_⟩
  refine s1.run env h σ H ι _ R V ?_
  unfold sSeq at p
  cases hm : q env h with
  | nx e h1 =>
    rw [hm] at p
    exact fun ι' H' σ' x R' V' => s2.run e h1 σ' H' ι' D R' V' (PostS.shift p x)
  | rt d h1 => rw [hm] at p; exact p
  | bk d h1 => rw [hm] at p; exact p
  | ct d h1 => rw [hm] at p; exact p
  | exc c fs e h1 => rw [hm] at p; exact p
  | stuck => rw [hm] at p; exact p
theorem mb_cons (h1 : MS C s q) (h2 : MB C st q') : MB C (s :: st) (sSeq q q') := by
  obtain ⟨t, p, s1⟩ := h1
  obtain ⟨u, p', s2⟩ := h2
  exact ⟨_, pss_cons p p', s1.seq s2⟩
theorem mb_one (h1 : MS C s q) : MB C [s] q := by
  obtain ⟨t, p, s1⟩ := h1
  exact ⟨_, pss_one p, s1⟩
theorem ms_pass : MS C (.Pass pos) sPass := ⟨_, ps_pass, ⟨fun env h σ H ι D R V p => p ι H σ .refl R V⟩⟩
theorem ms_break : MS C (.Break pos) sBreak := ⟨_, ps_break, ⟨fun env h σ H ι D R V p => p ι H σ .refl R V⟩⟩
theorem ms_continue : MS C (.Continue pos) sCont := ⟨_, ps_continue, ⟨fun env h σ H ι D R V p => p ι H σ .refl R V⟩⟩
theorem ms_never : MS C s sStuck := ⟨_, ps_never, ⟨fun env h σ H ι D R V p => p⟩⟩
theorem ms_doc {x : Str} {j : Nat} {pos' : Pos} : MS C (.Expr (.Constant (.str x) j pos) pos') sPass := ⟨_, ps_doc, ⟨fun env h σ H ι D R V p => p ι H σ .refl R V⟩⟩
theorem ms_expr (ha : ME C e m) (hs : swapsWith e none pos.line C.X.env = pure false := by rfl) : MS C (.Expr e pos) (sExpr m) := by
  obtain ⟨t, p, s1⟩ := ha
  refine ⟨_, ps_expr p hs, ⟨fun env h σ H ι D R V p => ?_⟩⟩
  exact s1.thenS R V p fun d h1 ι1 H1 v1 x1 R1 V1 r1 p1 => p1 ι1 H1 σ .refl R1 V1
theorem ms_ret (ha : ME C e m) : MS C (.Return (some e) pos) (sRet m) := by
  obtain ⟨t, p, s1⟩ := ha
  refine ⟨_, ps_ret p, ⟨fun env h σ H ι D R V p => ?_⟩⟩
  exact s1.thenS R V p fun d h1 ι1 H1 v1 x1 R1 V1 r1 p1 => p1 ι1 H1 v1 .refl R1 r1
theorem ms_retN : MS C (.Return none pos) sRetN := ⟨_, ps_retN, ⟨fun env h σ H ι D R V p => p ι H .non .refl R (RD.non.mpr rfl)⟩⟩
theorem ms_if (hc : MT C c mc) (ha : MB C st q) (hb : MB C st' q') : MS C (.If c st st' pos) (sIf mc q q') := by
  obtain ⟨tc, pc, sc⟩ := hc
  obtain ⟨ta, pa, sa⟩ := ha
  obtain ⟨tb, pb, sb⟩ := hb
  refine ⟨_, ps_if pc pa pb, ⟨fun env h σ H ι D R V p => ?_⟩⟩
  refine sc.run env h σ H ι _ R V ?_
  unfold sIf at p
  cases hm : mc env h with
  | ok d h1 =>
    rw [hm] at p
    cases d with
    | bl k =>
      refine ⟨k, rfl, fun ι' H' x R' => ?_⟩
      cases k with
      | true => exact iteT (sa.run env h1 σ H' ι' D R' (V.ext R x) (PostS.shift p x))
      | false => exact iteF (sb.run env h1 σ H' ι' D R' (V.ext R x) (PostS.shift p x))
    | _ => exact (show False from p).elim
  | exc c fs h1 => rw [hm] at p; exact fun ι' H' Cl dd x R' mc xd => p ι' H' σ Cl dd x R' (V.ext R x) mc xd
  | stuck => rw [hm] at p; exact p
theorem ms_set {i : Nat} {x : Str} {pos' : Pos} (hN : C.X.N.Nodup) (hi : C.X.N[i]? = some x) (hx : Loc C.X.env.scope x) (ha : ME C e m) (hne : ∀ y, C.ea = some y → y.i ≠ i := by exact fun _ z => nomatch z)
    (hs : swapsWith e (some (.Name x pos')) pos.line C.X.env = pure false := by rfl) (hf : C.X.fn x = true ∨ C.X.env.scope.names.lookup x = some .local := by first | exact .inl rfl | exact .inr rfl | assumption) : MS C (.Assign [.Name x pos'] e pos) (sSet i m) := by
  obtain ⟨t, p, s1⟩ := ha
  refine ⟨_, ps_set hN hi hx p hs hf, ⟨fun env h σ H ι D R V p => ?_⟩⟩
  exact s1.thenS R V p fun d h1 ι1 H1 v1 x1 R1 V1 r1 p1 => p1 ι1 H1 _ .refl R1 (V1.set i r1 hne)

/-! ### targets -/
structure SimG (C : Ct) (t : TG) (g : GM) : Prop where
  run : ∀ (d : D) (v : V) (env : AE) (h : AH) (σ : List (Option V)) (H : Hp) (ι : Nat → Addr) (Q : List (Option V) → Hp → Prop), Rel C.X.K ι h H → RV C ι h.length H env σ → RD C.X.K ι h.length H d v →
    PostS C ι h.length H (g d env h) { nx := Q, rt := fun _ _ => False } → t v σ H Q
def MG (C : Ct) (tg : Expr) (g : GM) : Prop := ∃ t, PG C.X tg t ∧ SimG C t g
structure SimGs (C : Ct) (t : TGs) (g : List D → AE → AH → SR) : Prop where
  run : ∀ (ds : List D) (vs : List V) (env : AE) (h : AH) (σ : List (Option V)) (H : Hp) (ι : Nat → Addr) (Q : List (Option V) → Hp → Prop), Rel C.X.K ι h H → RV C ι h.length H env σ → RDs C.X.K ι h.length H ds vs →
    PostS C ι h.length H (g ds env h) { nx := Q, rt := fun _ _ => False } → t vs σ H Q
def MGs (C : Ct) (tg : List Expr) (g : List D → AE → AH → SR) : Prop := ∃ t, PGs C.X tg t ∧ SimGs C t g
/-- a target lets no exception out, ends in next -/
def onlyNx (o : SR) : SR := match o with
  | .nx e h => .nx e h
  | _ => .stuck
def gNils : List D → AE → AH → SR := fun ds e h => match ds with
  | [] => .nx e h
  | _ => .stuck
def gCons (g : GM) (r : List D → AE → AH → SR) : List D → AE → AH → SR := fun ds e h => match ds with
  | d :: ds => (onlyNx (g d e h)).then fun e1 h1 => r ds e1 h1
  | _ => .stuck
def gTup (k : Nat) (r : List D → AE → AH → SR) : GM := fun d e h => match d with
  | .tup ds => if ds.length = k then r ds e h else .stuck
  | _ => .stuck
theorem mg_var {i : Nat} {x : Str} (hN : C.X.N.Nodup) (hi : C.X.N[i]? = some x) (hx : Loc C.X.env.scope x) (hne : ∀ y, C.ea = some y → y.i ≠ i := by exact fun _ z => nomatch z) (hf : C.X.fn x = true ∨ C.X.env.scope.names.lookup x = some .local := by first | exact .inl rfl | exact .inr rfl | assumption) : MG C (.Name x pos) (gVar i) :=
  ⟨_, pg_name hN hi hx hf, ⟨fun d v env h σ H ι Q R V r p => p ι H _ .refl R (V.set i r hne)⟩⟩
theorem mgs_nil : MGs C [] gNils := by
  refine ⟨_, pgs_nil, ⟨fun ds vs env h σ H ι Q R V r p => ?_⟩⟩
  cases ds with
  | nil => exact ⟨RDs.nil.mp r, p ι H σ .refl R V⟩
  | cons _ _ => exact (show False from p).elim
theorem PostS.only {ι : Nat → Addr} {n : Nat} {H : Hp} {o : SR} {D D' : Ends} (p : PostS C ι n H (onlyNx o) D) (eD : D.nx = D'.nx) : PostS C ι n H o D' := by
  cases o with
  | nx e h => exact fun ι' H' σ' x R V => by rw [← eD]; exact p ι' H' σ' x R V
  | _ => exact (show False from p).elim
theorem SR.then_only {o : SR} {f : SM} {ι : Nat → Addr} {n : Nat} {H : Hp} {D : Ends} (p : PostS C ι n H ((onlyNx o).then f) D) : ∃ e h, o = .nx e h ∧ PostS C ι n H (f e h) D := by
  cases o with
  | nx e h => exact ⟨e, h, rfl, p⟩
  | _ => exact (show False from p).elim
theorem mgs_cons {es : List Expr} {g : GM} {r : List D → AE → AH → SR} (h1 : MG C e g) (h2 : MGs C es r) (hs : (assignEach (e :: es) C.X.env).map (·.2) = assign e C.X.env :: (assignEach es C.X.env).map (·.2) := by rfl) : MGs C (e :: es) (gCons g r) := by
  obtain ⟨t, p, s1⟩ := h1
  obtain ⟨u, p', s2⟩ := h2
  refine ⟨_, pgs_cons p p' hs, ⟨fun ds vs env h σ H ι Q R V rr pp => ?_⟩⟩
  cases ds with
  | nil => exact (show False from pp).elim
  | cons d ds =>
    obtain ⟨v, vr, rfl, r1, r2⟩ := RDs.cons.mp rr
    refine ⟨v, vr, rfl, ?_⟩
    obtain ⟨e1, h1, eg, pq⟩ := SR.then_only pp
    refine s1.run d v env h σ H ι _ R V r1 ?_
    rw [eg]
    exact fun ι' H' σ' x R' V' => s2.run ds vr e1 h1 σ' H' ι' Q R' V' (r2.mono (x.grow R)) (PostS.shift pq x)
theorem mg_tup {es : List Expr} {kk k : Nat} {r : List D → AE → AH → SR} (hc : C.X.calm = true) (h : MGs C es r) (hn : (assignEach es C.X.env).length = k := by rfl) (hst : (assignEach es C.X.env).findIdx? (·.1) = none := by rfl) : MG C (.Tuple es kk pos) (gTup k r) := by
  obtain ⟨t, p, s1⟩ := h
  refine ⟨_, pg_tup hc p hn hst, ⟨fun d v env h σ H ι Q R V rr pp => ?_⟩⟩
  cases d with
  | tup ds =>
    obtain ⟨a, vs, rfl, q, r2⟩ := RD.tup.mp rr
    unfold gTup at pp
    dsimp only at pp
    by_cases hk : ds.length = k
    · rw [if_pos hk] at pp
      exact ⟨a, vs, rfl, q, by rw [← r2.length]; exact hk, s1.run ds vs env h σ H ι Q R V r2 pp⟩
    · rw [if_neg hk] at pp; exact (show False from pp).elim
  | _ => exact (show False from pp).elim
/-- a store a[i] = v, by values -/
def SetS (C : Ct) (t : TSet) (g : D → D → D → AH → Option AH) : Prop := ∀ (ι : Nat → Addr) (h : AH) (H : Hp) (x y z : V) (d1 d2 d3 : D) (h' : AH) (Q : Hp → Prop), Rel C.X.K ι h H → RD C.X.K ι h.length H d1 x → RD C.X.K ι h.length H d2 y → RD C.X.K ι h.length H d3 z →
  g d1 d2 d3 h = some h' → (∀ ι' H', Ext ι h.length H ι' h'.length H' → Rel C.X.K ι' h' H' → Q H') → t x y z H Q
def gSub (g : D → D → D → AH → Option AH) (o i : EM) : GM := fun d env h => (o env h).thenS env fun d1 h1 => (i env h1).thenS env fun d2 h2 => match g d1 d2 d h2 with
  | some h3 => .nx env h3
  | none => .stuck
theorem mg_sub {o i : Expr} {mo mi : EM} {t : TSet} {g : D → D → D → AH → Option AH} (hs : PSet C.X t) (ss : SetS C t g) (ho : ME C o mo) (hi : ME C i mi)
    (ha : ∀ v, assign (.Subscript o i pos) C.X.env v = (do
      let ov ← holding [v] (eval o C.X.env)
      let iv ← holding [v, ov] (eval i C.X.env)
      standAt pos
      holding [v, ov, iv] (setItem ov iv v)
      release [v, ov, iv] []) := by intro _; rfl) : MG C (.Subscript o i pos) (gSub g mo mi) := by
  obtain ⟨ta, pa, sa⟩ := ho
  obtain ⟨tb, pb, sb⟩ := hi
  refine ⟨_, pg_sub pa pb hs ha, ⟨fun d v env h σ H ι Q R V r p => ?_⟩⟩
  refine sa.thenS R V p fun d1 h1 ι1 H1 v1 x1 R1 V1 r1 p1 => ?_
  refine sb.thenS R1 V1 p1 fun d2 h2 ι2 H2 v2 x2 R2 V2 r2 p2 => ?_
  cases hg : g d1 d2 d h2 with
  | none => rw [hg] at p2; exact (show False from p2).elim
  | some h3 =>
    rw [hg] at p2
    exact ss ι2 h2 H2 v1 v2 v d1 d2 d h3 _ R2 (r1.mono (x2.grow R1)) r2 (r.mono ((x1.trans x2).grow R)) hg fun ι3 H3 x3 R3 => p2 ι3 H3 σ x3 R3 (V2.ext R2 x3)
theorem ms_asg {tg : Expr} {g : GM} (ha : ME C e m) (hg : MG C tg g) (hs : swapsWithSole [tg] e pos.line C.X.env = pure false := by rfl) (hw : swappedStores [tg] e C.X.env = pure none := by rfl)
    (h1 : (assignEach [tg] C.X.env).map (·.2) = [assign tg C.X.env] := by rfl) : MS C (.Assign [tg] e pos) (sAsg m (fun d e h => onlyNx (g d e h))) := by
  obtain ⟨t, p, s1⟩ := ha
  obtain ⟨u, p', s2⟩ := hg
  refine ⟨_, ps_asg p p' hs hw h1, ⟨fun env h σ H ι D R V p => ?_⟩⟩
  exact s1.thenS R V p fun d h1 ι1 H1 v1 x1 R1 V1 r1 p1 => s2.run d v1 env h1 σ H1 ι1 _ R1 V1 r1 (PostS.only p1 rfl)
/-- a, b = x, y with local names -/
def sPar (i j : Nat) (l : LM) : SM := fun e h => match l e h with
  | .ok [d1, d2] h1 => .nx ((e.set i (some d1)).set j (some d2)) h1
  | .exc c fs h1 => .exc c fs e h1
  | _ => .stuck
theorem ms_par {i j : Nat} {x y : Str} {ml : LM} {px py pt : Pos} {kt k2 : Nat} {pt2 : Pos} (hc : C.X.calm = true) (hN : C.X.N.Nodup) (hi : C.X.N[i]? = some x) (hj : C.X.N[j]? = some y) (hij : i ≠ j)
    (hx : C.X.env.scope.names.lookup x = some .local) (hy : C.X.env.scope.names.lookup y = some .local) (ha : MA C [a, b] ml)
    (hw : swappedStores [.Tuple [.Name x px, .Name y py] kt pt] (.Tuple [a, b] k2 pt2) C.X.env = pure (some [x, y])) (hne : C.ea = none := by rfl)
    (hs : swapsWithSole [.Tuple [.Name x px, .Name y py] kt pt] (.Tuple [a, b] k2 pt2) pos.line C.X.env = pure false := by rfl) :
    MS C (.Assign [.Tuple [.Name x px, .Name y py] kt pt] (.Tuple [a, b] k2 pt2) pos) (sPar i j ml) := by
  obtain ⟨t, p, s1⟩ := ha
  refine ⟨_, ps_par hc hN hi hj hij hx hy p hw hs, ⟨fun env h σ H ι D R V p => ?_⟩⟩
  refine s1.run env h σ H ι _ R V ?_
  unfold sPar at p
  have nea : ∀ y, C.ea = some y → ∀ k, y.i ≠ k := fun y z => by rw [hne] at z; cases z
  cases hm : ml env h with
  | ok ds h1 =>
    rw [hm] at p
    match ds, p with
    | [d1, d2], p =>
      refine fun ι' H' vs x R' r => ?_
      obtain ⟨v1, r1, rfl, q1, q2⟩ := RDs.cons.mp r
      obtain ⟨v2, r2, rfl, q3, q4⟩ := RDs.cons.mp q2
      cases RDs.nil.mp q4
      exact ⟨v1, v2, rfl, p ι' H' _ x R' (((V.ext R x).set i q1 fun y z => nea y z i).set j q3 fun y z => nea y z j)⟩
    | [], p => exact (show False from p).elim
    | [_], p => exact (show False from p).elim
    | _ :: _ :: _ :: _, p => exact (show False from p).elim
  | exc c fs h1 => rw [hm] at p; exact fun ι' H' Cl dd x R' mc xd => p ι' H' σ Cl dd x R' (V.ext R x) mc xd
  | stuck => rw [hm] at p; exact p
/-- name op= e -/
def sAug (i : Nat) (g : D → D → AH → ER) (m : EM) : SM := fun e h => match e[i]? with
  | some (some d) => (m e h).thenS e fun d2 h1 => (g d d2 h1).thenS e fun d3 h2 => .nx (e.set i (some d3)) h2
  | _ => .stuck
theorem ms_aug {i : Nat} {x : Str} {op : Operator} {r : R2} {g : D → D → AH → ER} {pos' : Pos} (ho : OpR C.X (inplaceOp op) r) (hs : OpS C r g) (hN : C.X.N.Nodup) (hi : C.X.N[i]? = some x) (hx : Loc C.X.env.scope x) (ha : ME C e m)
    (hne : ∀ y, C.ea = some y → y.i ≠ i := by exact fun _ z => nomatch z) (hf : C.X.fn x = true ∨ C.X.env.scope.names.lookup x = some .local := by first | exact .inl rfl | exact .inr rfl | assumption) : MS C (.AugAssign (.Name x pos') op e pos) (sAug i g m) := by
  obtain ⟨t, p, s1⟩ := ha
  have hp : PIp C.X op r := fun pins s σ H x y v u Q I rx ry hh => ho pins s σ H x y v u Q I rx ry hh
  refine ⟨_, ps_aug hN hi hx p hp hf, ⟨fun env h σ H ι D R V p => ?_⟩⟩
  unfold sAug at p
  split at p
  · rename_i d0 e0
    obtain ⟨v0, e1, r0⟩ := V.re.at_ i d0 e0
    refine ⟨v0, e1, ?_⟩
    refine s1.thenS R V p fun d h1 ι1 H1 v1 x1 R1 V1 r1 p1 => ?_
    refine hs ι1 h1 H1 σ v0 v1 d0 d _ R1 (r0.mono (x1.grow R)) r1 ?_
    cases hm : g d0 d h1 with
    | ok d3 h2 =>
      rw [hm] at p1
      exact fun ι2 H2 v2 x2 R2 r2 => p1 ι2 H2 _ x2 R2 ((V1.ext R1 x2).set i r2 hne)
    | exc c fs h2 => rw [hm] at p1; exact fun ι' H' Cl dd x R' mc xd => p1 ι' H' σ Cl dd x R' (V1.ext R1 x) mc xd
    | stuck => rw [hm] at p1; exact p1
  · exact p.elim
end

/-! ### while -/
/-- behind a turn's body: once more, or out -/
def again (r : SR) (k : SM) : SR := match r with
  | .nx e h => k e h
  | .ct e h => k e h
  | .bk e h => .nx e h
  | .rt d h => .rt d h
  | .exc c fs e h => .exc c fs e h
  | .stuck => .stuck
def whileN (c : EM) (b : SM) : Nat → SM
  | 0 => fun _ _ => .stuck
  | k + 1 => fun e h => (c e h).thenS e fun d h1 => match d with
    | .bl true => again (b e h1) (whileN c b k)
    | .bl false => .nx e h1
    | _ => .stuck
open Classical in
noncomputable def sWhile (c : EM) (b : SM) : SM := fun e h => if hk : ∃ k, whileN c b k e h ≠ .stuck then whileN c b hk.choose e h else .stuck
section
variable {C : Ct} {c : Expr} {st : List Stmt} {mc : EM} {q : SM} {pos : Pos}
/-- a body of a loop: k is what the next turns do -/
theorem PostS.again {ι : Nat → Addr} {n : Nat} {H : Hp} {r : SR} {k : SM} {D : Ends} {N : List (Option V) → Hp → Prop} (p : PostS C ι n H (again r k) D)
    (hN : ∀ env h ι' H' σ, Ext ι n H ι' h.length H' → Rel C.X.K ι' h H' → RV C ι' h.length H' env σ → PostS C ι' h.length H' (k env h) D → N σ H') : PostS C ι n H r { D with nx := N, ct := N, bk := D.nx } := by
  cases r with
  | nx e h => exact fun ι' H' σ x R V => hN e h ι' H' σ x R V (PostS.shift p x)
  | ct e h => exact fun ι' H' σ x R V => hN e h ι' H' σ x R V (PostS.shift p x)
  | bk e h => exact p
  | rt e h => exact p
  | exc c fs e h => exact p
  | stuck => exact p
theorem ms_while (hp : PassesOwn (model C.X.prog C.X.w) C.X.A C.X.env C.X.xe) (hc : MT C c mc) (hb : MB C st q) : MS C (.While c st [] pos) (sWhile mc q) := by
  obtain ⟨tc, pc, sc⟩ := hc
  obtain ⟨tb, pb, sb⟩ := hb
  refine ⟨_, ps_while hp pc pb, ⟨fun env h σ H ι D R V p => ?_⟩⟩
  unfold sWhile at p
  split at p
  · rename_i hk
    generalize hk.choose = k at p
    refine ⟨fun k σ H => ∃ env h ι, Rel C.X.K ι h H ∧ RV C ι h.length H env σ ∧ PostS C ι h.length H (whileN mc q k env h) D, ⟨k, env, h, ι, R, V, p⟩, ?_⟩
    rintro k σ H ⟨env, h, ι, R, V, p⟩
    cases k with
    | zero => exact (show False from p).elim
    | succ k =>
      refine sc.run env h σ H ι _ R V ?_
      unfold whileN at p
      cases hm : mc env h with
      | ok d h1 =>
        rw [hm] at p
        cases d with
        | bl b =>
          refine ⟨b, rfl, fun ι' H' x R' => ?_⟩
          cases b with
          | true =>
            refine iteT ⟨fun σ H => ∃ env h ι, Rel C.X.K ι h H ∧ RV C ι h.length H env σ ∧ PostS C ι h.length H (whileN mc q k env h) D, fun σ' H' hq => ⟨k, Nat.lt_succ_self k, hq⟩, ?_⟩
            refine sb.run env h1 σ H' ι' _ R' (V.ext R x) ?_
            exact PostS.again (PostS.shift (o := again (q env h1) (whileN mc q k)) p x) fun e2 h2 ι2 H2 σ2 x2 R2 V2 p2 => ⟨e2, h2, ι2, R2, V2, p2⟩
          | false => exact iteF (p ι' H' σ x R' (V.ext R x))
        | _ => exact (show False from p).elim
      | exc c fs h1 => rw [hm] at p; exact fun ι' H' Cl dd x R' mc xd => p ι' H' σ Cl dd x R' (V.ext R x) mc xd
      | stuck => rw [hm] at p; exact p
  · exact p.elim
end
/-- once it ends within k turns, it ends so -/
theorem whileN_mono {c : EM} {b : SM} : ∀ {k j : Nat} {e : AE} {h : AH}, k ≤ j → whileN c b k e h ≠ .stuck → whileN c b j e h = whileN c b k e h
  | 0, j, e, h, _, hn => absurd rfl hn
  | k + 1, 0, e, h, hj, _ => absurd hj (Nat.not_succ_le_zero k)
  | k + 1, j + 1, e, h, hj, hn => by
    unfold whileN at hn ⊢
    cases hc : c e h with
    | ok d h1 =>
      rw [hc] at hn
      cases d with
      | bl v =>
        cases v with
        | true =>
          show again (b e h1) (whileN c b j) = again (b e h1) (whileN c b k)
          have hn : again (b e h1) (whileN c b k) ≠ .stuck := hn
          cases hb : b e h1 with
          | nx e2 h2 => rw [hb] at hn; exact whileN_mono (Nat.le_of_succ_le_succ hj) hn
          | ct e2 h2 => rw [hb] at hn; exact whileN_mono (Nat.le_of_succ_le_succ hj) hn
          | bk e2 h2 => rfl
          | rt e2 h2 => rfl
          | exc c2 f2 e2 h2 => rfl
          | stuck => rfl
        | false => rfl
      | _ => rfl
    | exc c2 fs h1 => rfl
    | stuck => rfl
theorem sWhile_eq {c : EM} {b : SM} {k : Nat} {e : AE} {h : AH} {r : SR} (hr : whileN c b k e h = r) (hn : r ≠ .stuck) : sWhile c b e h = r := by
  have hk : ∃ k, whileN c b k e h ≠ .stuck := ⟨k, by rw [hr]; exact hn⟩
  unfold sWhile
  rw [dif_pos hk]
  have h1 := hk.choose_spec
  rcases Nat.le_total k hk.choose with l | l
  · rw [whileN_mono l (by rw [hr]; exact hn)]; exact hr
  · rw [← whileN_mono l h1]; exact hr
end Rf

set_option maxHeartbeats 1000000
namespace Rf
open PySem PySem.Spec PyProof.Rows L2

/-! ### what is walked -/
/-- n: at most so many turns; nxt: at a turn, in a heap: the item, or none at the end -/
structure AIt where
  n : Nat
  nxt : Nat → AH → Option (Option D)
inductive IR where
  | ok (it : AIt) (h : AH)
  | exc (c : Str) (fs : List (Str × D)) (h : AH)
  | stuck
abbrev IM := AE → AH → IR
def forN (it : AIt) (g : GM) (b : SM) : Nat → Nat → SM
  | 0, _ => fun _ _ => .stuck
  | k + 1, i => fun e h => match it.nxt i h with
    | some none => .nx e h
    | some (some d) => again ((onlyNx (g d e h)).then b) (forN it g b k (i + 1))
    | none => .stuck
def sFor (mi : IM) (g : GM) (b : SM) : SM := fun e h => match mi e h with
  | .ok it h1 => forN it g b (it.n + 1) 0 e h1
  | .exc c fs h1 => .exc c fs e h1
  | .stuck => .stuck
/-- J does what it tells, from this heap on -/
def ItR (K : PySem.W.Frag) (J : It) (it : AIt) (ι : Nat → Addr) (n : Nat) (H : Hp) : Prop := ∀ i ι' h' H', Ext ι n H ι' h'.length H' → Rel K ι' h' H' →
  (it.nxt i h' = some none → J.stop i H') ∧
  ∀ d, it.nxt i h' = some (some d) → J.go i H' ∧ ∀ x H2, J.yld i H' x H2 → ∃ ι2, Ext ι' h'.length H' ι2 h'.length H2 ∧ Rel K ι2 h' H2 ∧ RD K ι2 h'.length H2 d x
def PostI (C : Ct) (ι : Nat → Addr) (n : Nat) (H : Hp) (σ : List (Option V)) (o : IR) (Q : It → Hp → Prop) : Prop := match o with
  | .ok it h' => ∀ ι' H' J, Ext ι n H ι' h'.length H' → Rel C.X.K ι' h' H' → ItR C.X.K J it ι' h'.length H' → Q J H'
  | .exc c fs h' => ∀ ι' H' Cl dd, Ext ι n H ι' h'.length H' → Rel C.X.K ι' h' H' → C.X.mg c = some (.ref Cl) → XD C.X.K ι' h'.length H' dd fs → C.W (.ref Cl) dd σ H'
  | .stuck => False
structure SimI (C : Ct) (t : TI) (m : IM) : Prop where
  run : ∀ (env : AE) (h : AH) (σ : List (Option V)) (H : Hp) (ι : Nat → Addr) (Q : It → Hp → Prop), Rel C.X.K ι h H → RV C ι h.length H env σ → PostI C ι h.length H σ (m env h) Q → t σ H Q
def MI (C : Ct) (tg e : Expr) (m : IM) : Prop := ∃ t, PI C.X tg e t ∧ SimI C t m

section
variable {C : Ct} {e tg iter : Expr} {st : List Stmt} {m : EM} {mi : IM} {g : GM} {q : SM} {pos : Pos}
theorem ms_for (hp : PassesOwn (model C.X.prog C.X.w) C.X.A C.X.env C.X.xe) (hc : C.X.calm = true) (hi : MI C tg iter mi) (hg : MG C tg g) (hb : MB C st q) (hs : ∀ x, foldedSetIterable iter C.X.env x = pure x := by intro _; rfl) :
    MS C (.For tg iter st [] pos) (sFor mi g q) := by
  obtain ⟨ti, pi, si⟩ := hi
  obtain ⟨tg', pg, sg⟩ := hg
  obtain ⟨tb, pb, sb⟩ := hb
  refine ⟨_, ps_for hp hc pi pg pb hs, ⟨fun env h σ H ι D R V p => ?_⟩⟩
  refine si.run env h σ H ι _ R V ?_
  unfold sFor at p
  cases hm : mi env h with
  | ok it h1 =>
    rw [hm] at p
    refine fun ι0 H0 J x0 R0 J0 => ?_
    refine ⟨fun i m σ H => ∃ env h ι, Ext ι0 h1.length H0 ι h.length H ∧ Rel C.X.K ι h H ∧ RV C ι h.length H env σ ∧ PostS C ι h.length H (forN it g q m i env h) D,
      ⟨it.n + 1, env, h1, ι0, .refl, R0, V.ext R x0, PostS.shift p x0⟩, ?_⟩
    rintro i m σ H ⟨env, h, ι, x, R, V, p⟩
    cases m with
    | zero => exact (show False from p).elim
    | succ m =>
      unfold forN at p
      obtain ⟨j1, j2⟩ := J0 i ι h H x R
      cases hn : it.nxt i h with
      | none => rw [hn] at p; exact (show False from p).elim
      | some od =>
        rw [hn] at p
        cases od with
        | none => exact .inl ⟨j1 hn, p ι H σ .refl R V⟩
        | some d =>
          obtain ⟨go, y⟩ := j2 d hn
          refine .inr ⟨go, fun σ H => ∃ env h ι, Ext ι0 h1.length H0 ι h.length H ∧ Rel C.X.K ι h H ∧ RV C ι h.length H env σ ∧ PostS C ι h.length H (forN it g q m (i + 1) env h) D,
            fun σ' H' hq => ⟨m, Nat.lt_succ_self m, hq⟩, fun xv H2 hy => ?_⟩
          obtain ⟨ι2, x2, R2, r2⟩ := y xv H2 hy
          have p : PostS C ι h.length H (again ((onlyNx (g d env h)).then q) (forN it g q m (i + 1))) D := p
          have p2 := PostS.shift p x2
          refine sg.run d xv env h σ H2 ι2 _ R2 (V.ext R x2) r2 ?_
          cases hgd : g d env h with
          | nx e3 h3 =>
            rw [hgd] at p2
            refine fun ι3 H3 σ3 x3 R3 V3 => ?_
            refine sb.run e3 h3 σ3 H3 ι3 _ R3 V3 ?_
            exact PostS.again (PostS.shift p2 x3) fun e4 h4 ι4 H4 σ4 x4 R4 V4 p4 => ⟨e4, h4, ι4, x.trans (x2.trans (x3.trans x4)), R4, V4, p4⟩
          | _ => rw [hgd] at p2; exact (show False from p2).elim
  | exc c fs h1 => rw [hm] at p; exact fun ι' H' Cl dd x R' mc xd => p ι' H' σ Cl dd x R' (V.ext R x) mc xd
  | stuck => rw [hm] at p; exact p
end

/-! ### the weakest reading of a plain function -/
def canE (C : Ct) (m : EM) : TE := fun σ H Q => ∃ env h ι, Rel C.X.K ι h H ∧ RV C ι h.length H env σ ∧ PostE C ι h.length H σ (m env h) Q
def canT (C : Ct) (m : EM) : TT := fun σ H Q => ∃ env h ι, Rel C.X.K ι h H ∧ RV C ι h.length H env σ ∧ PostT C ι h.length H σ (m env h) Q
theorem ME.can {C : Ct} {e : Expr} {m : EM} (h : ME C e m) : PE C.X e (canE C m) := by
  obtain ⟨t, p, s⟩ := h
  exact ⟨fun pins st σ H Q I ⟨env, h, ι, R, V, q⟩ => p.run pins st σ H Q I (s.run env h σ H ι Q R V q)⟩
theorem MT.can {C : Ct} {e : Expr} {m : EM} (h : MT C e m) : PT C.X e (canT C m) := by
  obtain ⟨t, p, s⟩ := h
  exact ⟨fun pins st σ H Q I ⟨env, h, ι, R, V, q⟩ => p.run pins st σ H Q I (s.run env h σ H ι Q R V q)⟩

/-! ### comprehensions -/
/-- the context of a comprehension's block -/
abbrev Ct.blk (C : Ct) (s : Shared) (H : Hp) (scope : Scope) (Cc : Addr) (cl : List (Str × Addr)) (fp : List Addr) : Ct := ⟨C.X.blk s H scope (compEnvC scope cl Cc C.X.env) fp, fun _ _ _ _ => False, none⟩
/-- what the readings of a block's parts lean on -/
abbrev Ct.flat (C : Ct) : Ct := ⟨C.X, fun _ _ _ _ => False, none⟩
/-- of a length that a list, a tuple, a text may have -/
def Fits (n : Nat) : Prop := n ≤ sizeLine
def FitsL (n : Nat) : Prop := n < sizeLine
noncomputable instance {n : Nat} : Decidable (Fits n) := Classical.propDecidable _
noncomputable instance {n : Nat} : Decidable (FitsL n) := Classical.propDecidable _
def wipeE (e : AE) : List Nat → AE
  | [] => e
  | v :: vs => (wipeE e vs).set v none
/-- the tests and the element at the items from i on -/
noncomputable def lcN (it : AIt) (g : GM) (tt : EM) (te : EM) (e0 : AE) : Nat → Nat → List D → AH → ER ⊕ (List D × AH)
  | 0, _ => fun _ _ => .inl .stuck
  | k + 1, i => fun acc h => match it.nxt i h with
    | some none => .inr (acc, h)
    | some (some d) => (match g d e0 h with
      | .nx e1 h1 => (match tt e1 h1 with
        | .ok (.bl true) h2 => (match te e1 h2 with
          | .ok d2 h3 => if FitsL acc.length then lcN it g tt te e0 k (i + 1) (acc ++ [d2]) h3 else .inl .stuck
          | _ => .inl .stuck)
        | .ok (.bl false) h2 => lcN it g tt te e0 k (i + 1) acc h2
        | _ => .inl .stuck)
      | _ => .inl .stuck)
    | none => .inl .stuck
noncomputable def eLc (mi : IM) (g : GM) (tt : EM) (te : EM) (vs : List Nat) : EM := fun e h => match mi e h with
  | .ok it h1 => (match lcN it g tt te (wipeE e vs) (it.n + 1) 0 [] h1 with
    | .inr (acc, h2) => .ok (.ref h2.length) (h2 ++ [.lst acc])
    | .inl _ => .stuck)
  | .exc c fs h1 => .exc c fs h1
  | .stuck => .stuck
section
variable {K : PySem.W.Frag} {C : Ct} {ι ι' : Nat → Addr} {n n' : Nat} {H H' : Hp} {h h' : AH} {env : AE} {σ : List (Option V)} {d : D} {ds : List D} {v : V} {xs : List V} {a p : Addr} {i : Nat} {o : AO} {ho : HO}
theorem RE.wipe (r : RE K ι n H env σ) : ∀ vs : List Nat, RE K ι n H (wipeE env vs) (L2.wipe σ vs)
  | [] => r
  | v :: vs => (RE.wipe r vs).forget v none
/-- a fresh number -/
def ιset (ι : Nat → Addr) (n : Nat) (p : Addr) : Nat → Addr := fun i => if i = n then p else ι i
theorem ιset_same : ιset ι n p n = p := if_pos rfl
theorem ιset_ne (hi : i ≠ n) : ιset ι n p i = ι i := if_neg hi
theorem ιset_lt (hi : i < n) : ιset ι n p i = ι i := if_neg (Nat.ne_of_lt hi)
theorem Ext.tup (hp : H p = none) : Ext ι n H ι n (upd H p ho) := by
  refine ⟨Nat.le_refl _, fun _ _ => rfl, fun i h1 h2 => absurd h2 (Nat.not_lt.mpr h1), fun b o e _ => ?_, fun b e => ?_⟩
  · rw [upd_ne (ne_of_none e hp)]; exact e
  · unfold upd at e
    split at e
    · cases e
    · exact e
theorem Rel.at_ne (R : Rel K ι h H) (hi : i < h.length) (hp : H p = none) : ι i ≠ p := fun e => by
  have q := R.mut hi
  rw [e, hp] at q
  exact q
theorem Rel.tup (R : Rel K ι h H) (hp : H p = none) (x : Ext ι h.length H ι h.length (upd H p ho)) : Rel K ι h (upd H p ho) := by
  refine ⟨R.inj, fun i o e => ?_⟩
  have hi : i < h.length := (List.getElem?_eq_some_iff.mp e).1
  exact RO.mono (H0 := H) (x.grow R) (upd_ne (R.at_ne hi hp)) (R.ob i o e)
/-- a new thing of the abstract heap -/
theorem Ext.new (hp : H p = none) : Ext ι n H (ιset ι n p) (n + 1) (upd H p ho) := by
  refine ⟨Nat.le_succ _, fun i hi => ιset_lt hi, fun i h1 h2 => ?_, fun b o e _ => ?_, fun b e => ?_⟩
  · have e : i = n := by omega
    rw [e, ιset_same]; exact hp
  · rw [upd_ne (ne_of_none e hp)]; exact e
  · unfold upd at e
    split at e
    · cases e
    · exact e
theorem Rel.new (R : Rel K ι h H) (hp : H p = none) (hn : Ext ι h.length H (ιset ι h.length p) (h.length + 1) (upd H p ho) → RO K (ιset ι h.length p) (h.length + 1) (upd H p ho) o p) : Rel K (ιset ι h.length p) (h ++ [o]) (upd H p ho) := by
  have x : Ext ι h.length H (ιset ι h.length p) (h.length + 1) (upd H p ho) := Ext.new hp
  refine ⟨fun i j hi hj e => ?_, fun i o' e => ?_⟩
  · simp only [List.length_append, List.length_cons, List.length_nil] at hi hj
    by_cases h1 : i = h.length
    · by_cases h2 : j = h.length
      · rw [h1, h2]
      · rw [h1, ιset_same, ιset_ne h2] at e
        exact absurd e.symm (R.at_ne (by omega) hp)
    · by_cases h2 : j = h.length
      · rw [h2, ιset_same, ιset_ne h1] at e
        exact absurd e (R.at_ne (by omega) hp)
      · rw [ιset_ne h1, ιset_ne h2] at e
        exact R.inj i j (by omega) (by omega) e
  · simp only [List.length_append, List.length_cons, List.length_nil]
    by_cases h1 : i < h.length
    · rw [List.getElem?_append_left h1] at e
      have q := R.ob i o' e
      rw [ιset_lt h1]
      exact RO.mono (H0 := H) (x.grow R) (upd_ne (R.at_ne h1 hp)) q
    · have hi : i = h.length := by
        have := (List.getElem?_eq_some_iff.mp e).1
        simp only [List.length_append, List.length_cons, List.length_nil] at this
        omega
      subst hi
      rw [List.getElem?_append_right (Nat.le_refl _)] at e
      simp only [Nat.sub_self, List.getElem?_cons_zero, Option.some.injEq] at e
      subst e
      rw [ιset_same]
      exact hn x
/-- a thing changed -/
theorem Ext.put (R : Rel K ι h H) (hi : i < h.length) : Ext ι h.length H ι h.length (upd H (ι i) ho) := by
  refine ⟨Nat.le_refl _, fun _ _ => rfl, fun j h1 h2 => absurd h2 (Nat.not_lt.mpr h1), fun b o e hb => ?_, fun b e => ?_⟩
  · rw [upd_ne (Ne.symm (hb i hi))]; exact e
  · unfold upd at e
    split at e
    · cases e
    · exact e
theorem Rel.put (R : Rel K ι h H) (hi : i < h.length) (hn : Ext ι h.length H ι h.length (upd H (ι i) ho) → RO K ι h.length (upd H (ι i) ho) o (ι i)) : Rel K ι (h.set i o) (upd H (ι i) ho) := by
  have x : Ext ι h.length H ι h.length (upd H (ι i) ho) := Ext.put R hi
  refine ⟨fun a b ha hb => R.inj a b (by simpa using ha) (by simpa using hb), fun j o' e => ?_⟩
  rw [List.length_set]
  by_cases hj : i = j
  · subst hj
    rw [List.getElem?_set_self hi] at e
    simp only [Option.some.injEq] at e
    subst e
    exact hn x
  · rw [List.getElem?_set_ne hj] at e
    have hjl : j < h.length := (List.getElem?_eq_some_iff.mp e).1
    have q := R.ob j o' e
    exact RO.mono (H0 := H) (x.grow R) (upd_ne fun z => hj (R.inj i j hi hjl z.symm)) q
/-- a list that the abstract heap does not know is laid there -/
theorem Rel.take (R : Rel K ι h H) (hD : H p = some (.lst xs)) (hne : ∀ i, i < h.length → ι i ≠ p) (r : RDs K ι h.length H ds xs) : Rel K (ιset ι h.length p) (h ++ [.lst ds]) H := by
  have g : Grow K ι h.length H (ιset ι h.length p) (h.length + 1) H := ⟨Nat.le_succ _, fun i hi => ιset_lt hi, fun _ _ q => q, fun _ _ q => q⟩
  refine ⟨fun i j hi hj e => ?_, fun i o' e => ?_⟩
  · simp only [List.length_append, List.length_cons, List.length_nil] at hi hj
    by_cases h1 : i = h.length
    · by_cases h2 : j = h.length
      · rw [h1, h2]
      · rw [h1, ιset_same, ιset_ne h2] at e
        exact absurd e.symm (hne j (by omega))
    · by_cases h2 : j = h.length
      · rw [h2, ιset_same, ιset_ne h1] at e
        exact absurd e (hne i (by omega))
      · rw [ιset_ne h1, ιset_ne h2] at e
        exact R.inj i j (by omega) (by omega) e
  · simp only [List.length_append, List.length_cons, List.length_nil]
    by_cases h1 : i < h.length
    · rw [List.getElem?_append_left h1] at e
      rw [ιset_lt h1]
      exact RO.mono (H0 := H) g rfl (R.ob i o' e)
    · have hi : i = h.length := by
        have := (List.getElem?_eq_some_iff.mp e).1
        simp only [List.length_append, List.length_cons, List.length_nil] at this
        omega
      subst hi
      rw [List.getElem?_append_right (Nat.le_refl _)] at e
      simp only [Nat.sub_self, List.getElem?_cons_zero, Option.some.injEq] at e
      subst e
      rw [ιset_same]
      exact ⟨xs, hD, r.mono g⟩
end
/-- a target that stores to the slots vs alone -/
def OnlyAt (t : TG) (vs : List Nat) : Prop := ∀ v σ H Q, t v σ H Q → t v σ H fun σ' H' => L2.wipe σ' vs = L2.wipe σ vs ∧ Q σ' H'
theorem wipe_set {σ : L2.St} {i : Nat} {x : Option V} : ∀ {vs : List Nat}, i ∈ vs → L2.wipe (σ.set i x) vs = L2.wipe σ vs
  | v :: vs, h => by
    unfold L2.wipe
    by_cases hv : i = v
    · subst hv
      by_cases hm : i ∈ vs
      · rw [wipe_set hm]
      · have : ∀ vs : List Nat, L2.wipe (List.set σ i x) vs = List.set (L2.wipe σ vs) i (if i ∈ vs then none else x) ∨ True := fun _ => .inr trivial
        have key : ∀ vs : List Nat, i ∉ vs → L2.wipe (List.set σ i x) vs = List.set (L2.wipe σ vs) i x := by
          intro vs
          induction vs with
          | nil => intro _; rfl
          | cons w ws ih =>
            intro hn
            have h1 : i ≠ w := fun e => hn (by rw [e]; exact List.mem_cons_self)
            have h2 : i ∉ ws := fun e => hn (List.mem_cons_of_mem _ e)
            unfold L2.wipe
            rw [ih h2, List.set_comm _ _ h1]
        rw [key vs hm, List.set_set]
    · have hm : i ∈ vs := by
        rcases List.mem_cons.mp h with e | e
        · exact absurd e hv
        · exact e
      rw [wipe_set hm]
theorem wipe_wipe {σ : L2.St} {vs : List Nat} : ∀ {ws : List Nat}, (∀ i ∈ ws, i ∈ vs) → L2.wipe (L2.wipe σ ws) vs = L2.wipe σ vs
  | [], _ => rfl
  | w :: ws, h => by
    show L2.wipe (List.set (L2.wipe σ ws) w none) vs = _
    rw [wipe_set (h w List.mem_cons_self)]
    exact wipe_wipe fun i hi => h i (List.mem_cons_of_mem _ hi)
theorem OnlyAt.at_ {t : TG} {vs : List Nat} (o : OnlyAt t vs) {v : V} {σ W : L2.St} {H : Hp} {Q : L2.St → Hp → Prop} (h : L2.wipe σ vs = W) (q : t v σ H Q) : t v σ H fun σ' H' => L2.wipe σ' vs = W ∧ Q σ' H' := by
  subst h
  exact o v σ H Q q
def MGc (C : Ct) (tg : Expr) (g : GM) (t : TG) (vs : List Nat) : Prop := PG C.X tg t ∧ SimG C t g ∧ OnlyAt t vs
def MGcs (C : Ct) (tg : List Expr) (g : List D → AE → AH → SR) (t : TGs) (vs : List Nat) : Prop := PGs C.X tg t ∧ SimGs C t g ∧ ∀ v σ H Q, t v σ H Q → t v σ H fun σ' H' => L2.wipe σ' vs = L2.wipe σ vs ∧ Q σ' H'
section
variable {C : Ct} {pos : Pos} {vs : List Nat}
theorem mgc_var {i : Nat} {x : Str} (hN : C.X.N.Nodup) (hi : C.X.N[i]? = some x) (hx : Loc C.X.env.scope x) (hv : i ∈ vs) (hne : ∀ y, C.ea = some y → y.i ≠ i := by exact fun _ z => nomatch z) (hf : C.X.fn x = true ∨ C.X.env.scope.names.lookup x = some .local := by first | exact .inl rfl | exact .inr rfl | assumption) : MGc C (.Name x pos) (gVar i) (gName i) vs :=
  ⟨pg_name hN hi hx hf, ⟨fun d v env h σ H ι Q R V r p => p ι H _ .refl R (V.set i r hne)⟩, fun v σ H Q q => ⟨wipe_set hv, q⟩⟩
theorem mgcs_nil : MGcs C [] gNils L2.gNil vs := by
  refine ⟨pgs_nil, ⟨fun ds vs env h σ H ι Q R V r p => ?_⟩, fun v σ H Q q => ⟨q.1, rfl, q.2⟩⟩
  cases ds with
  | nil => exact ⟨RDs.nil.mp r, p ι H σ .refl R V⟩
  | cons _ _ => exact (show False from p).elim
theorem mgcs_cons {e : Expr} {es : List Expr} {g : GM} {r : List D → AE → AH → SR} {t : TG} {u : TGs} (h1 : MGc C e g t vs) (h2 : MGcs C es r u vs) (hs : (assignEach (e :: es) C.X.env).map (·.2) = assign e C.X.env :: (assignEach es C.X.env).map (·.2) := by rfl)
    (mono : ∀ v σ H (Q Q' : List (Option V) → Hp → Prop), (∀ a b, Q a b → Q' a b) → t v σ H Q → t v σ H Q') : MGcs C (e :: es) (gCons g r) (L2.gCons t u) vs := by
  obtain ⟨p, s1, o1⟩ := h1
  obtain ⟨p', s2, o2⟩ := h2
  refine ⟨pgs_cons p p' hs, ⟨fun ds vs env h σ H ι Q R V rr pp => ?_⟩, fun v σ H Q q => ?_⟩
  · cases ds with
    | nil => exact (show False from pp).elim
    | cons d ds =>
      obtain ⟨v, vr, rfl, r1, r2⟩ := RDs.cons.mp rr
      refine ⟨v, vr, rfl, ?_⟩
      obtain ⟨e1, h1, eg, pq⟩ := SR.then_only pp
      refine s1.run d v env h σ H ι _ R V r1 ?_
      rw [eg]
      exact fun ι' H' σ' x R' V' => s2.run ds vr e1 h1 σ' H' ι' Q R' V' (r2.mono (x.grow R)) (PostS.shift pq x)
  · obtain ⟨x, r, rfl, q⟩ := q
    refine ⟨x, r, rfl, ?_⟩
    refine mono _ _ _ _ _ (fun a b hq => ?_) (o1 _ _ _ _ q)
    obtain ⟨e1, q1⟩ := hq
    have := o2 r a b Q q1
    rw [e1] at this
    exact this
theorem mono_name {i : Nat} : ∀ v σ H (Q Q' : List (Option V) → Hp → Prop), (∀ a b, Q a b → Q' a b) → gName i v σ H Q → gName i v σ H Q' := fun _ _ _ _ _ f q => f _ _ q
theorem mgc_tup {es : List Expr} {kk k : Nat} {r : List D → AE → AH → SR} {u : TGs} (hc : C.X.calm = true) (h : MGcs C es r u vs) (hn : (assignEach es C.X.env).length = k := by rfl) (hst : (assignEach es C.X.env).findIdx? (·.1) = none := by rfl) : MGc C (.Tuple es kk pos) (gTup k r) (L2.gTup C.X.K k u) vs := by
  obtain ⟨p, s1, o1⟩ := h
  refine ⟨pg_tup hc p hn hst, ⟨fun d v env h σ H ι Q R V rr pp => ?_⟩, fun v σ H Q q => ?_⟩
  · cases d with
    | tup ds =>
      obtain ⟨a, vs, rfl, q, r2⟩ := RD.tup.mp rr
      unfold gTup at pp
      dsimp only at pp
      by_cases hk : ds.length = k
      · rw [if_pos hk] at pp
        exact ⟨a, vs, rfl, q, by rw [← r2.length]; exact hk, s1.run ds vs env h σ H ι Q R V r2 pp⟩
      · rw [if_neg hk] at pp; exact (show False from pp).elim
    | _ => exact (show False from pp).elim
  · obtain ⟨a, xs, e, hq, l, q⟩ := q
    exact ⟨a, xs, e, hq, l, o1 _ _ _ _ q⟩
end
/-- a comprehension's tests -/
def MTs (C : Ct) (es : List Expr) (m : EM) : Prop := ∃ t, PTs C.X es t ∧ SimT C t m
theorem mts_nil {C : Ct} : MTs C [] (eC (.bl true)) := ⟨_, pts_nil, ⟨fun env h σ H ι Q R V p => by
  obtain ⟨b, e, p⟩ := p
  cases e
  exact p ι H .refl R⟩⟩
theorem mts_one {C : Ct} {c : Expr} {m : EM} (h : MT C c m) : MTs C [c] m := by
  obtain ⟨t, p, s⟩ := h
  exact ⟨t, pts_one p, s⟩
theorem MTs.can {C : Ct} {e : List Expr} {m : EM} (h : MTs C e m) : PTs C.X e (canT C m) := by
  obtain ⟨t, p, s⟩ := h
  exact ⟨fun pins st σ H Q I ⟨env, h, ι, R, V, q⟩ => p.run pins st σ H Q I (s.run env h σ H ι Q R V q)⟩
section
variable {C : Ct} {elt tg iter : Expr} {ifs : List Expr} {scope : Scope} {own : List (Str × Nat)} {pos : Pos} {mi : IM} {g : GM} {t : TG} {mt me : EM}
theorem SimE.lc {ti : TI} (si : SimI C ti mi) (sg : ∀ s H Cc cl fp, SimG (C.blk s H scope Cc cl fp) t g ∧ OnlyAt t (own.map (·.2))) : SimE C (tLc ti t (canT C.flat mt) (canE C.flat me) (own.map (·.2))) (eLc mi g mt me (own.map (·.2))) := by
  refine ⟨fun env h σ H ι Q R V p => ?_⟩
  refine si.run env h σ H ι _ R V ?_
  unfold eLc at p
  cases hm : mi env h with
  | ok it h1 =>
    rw [hm] at p
    dsimp only at p
    refine fun ι0 H0 J x0 R0 J0 Dp hD => ?_
    have V0 := V.ext R x0
    cases hl : lcN it g mt me (wipeE env (own.map (·.2))) (it.n + 1) 0 [] h1 with
    | inl o => rw [hl] at p; exact (show False from p).elim
    | inr pr =>
      obtain ⟨accF, h2⟩ := pr
      rw [hl] at p
      dsimp only at p
      refine ⟨fun i m H => ∃ h ι acc xs, Ext ι0 h1.length H0 ι h.length H ∧ Rel C.X.K ι h H ∧ RE C.X.K ι h.length H (wipeE env (own.map (·.2))) (L2.wipe σ (own.map (·.2))) ∧ H Dp = some (.lst xs) ∧ RDs C.X.K ι h.length H acc xs ∧ (∀ i, i < h.length → ι i ≠ Dp) ∧
        lcN it g mt me (wipeE env (own.map (·.2))) m i acc h = .inr (accF, h2), ⟨it.n + 1, h1, ι0, [], [], Ext.tup hD, Rel.tup R0 hD (Ext.tup hD), (V0.re.wipe _).mono ((Ext.tup hD).grow R0), upd_same, RDs.nil', fun i hi => R0.at_ne hi hD, hl⟩, ?_⟩
      rintro i m H ⟨h, ι', acc, xs, x, R, E, hDl, ra, hne, hq⟩
      cases m with
      | zero => cases hq
      | succ m =>
        obtain ⟨j1, j2⟩ := J0 i ι' h H x R
        unfold lcN at hq
        cases hn : it.nxt i h with
        | none => rw [hn] at hq; cases hq
        | some od =>
          rw [hn] at hq
          cases od with
          | none =>
            refine .inl ⟨j1 hn, ?_⟩
            dsimp only at hq
            cases hq
            have e1 : ((h2 ++ [AO.lst accF]).length) = h2.length + 1 := by simp
            refine p (ιset ι' h2.length Dp) H (.ref Dp) ?_ (R.take hDl hne ra) ?_
            · have hle := x.le
              have hle0 := x0.le
              rw [e1]
              refine ⟨by omega, fun j hj => ?_, fun j j1 j2 => ?_, fun b o e hb => ?_, fun b e => x0.st b (x.st b e)⟩
              · rw [ιset_lt (by omega), x.ag j (by omega), x0.ag j hj]
              · by_cases hj : j = h2.length
                · rw [hj, ιset_same]; exact x0.st _ hD
                · rw [ιset_ne hj]; exact (x0.trans x).nw j j1 (by omega)
              · exact (x0.trans x).fr b o e hb
            · rw [e1]
              exact RD.ref.mpr ⟨Nat.lt_succ_self _, by rw [ιset_same]⟩
          | some d =>
            dsimp only at hq
            obtain ⟨go, y⟩ := j2 d hn
            refine .inr ⟨go, _, fun H' hN => ⟨m, Nat.lt_succ_self m, hN⟩, fun xv H2 hy => ?_⟩
            obtain ⟨ι2, x2, R2, r2⟩ := y xv H2 hy
            have hD2 : H2 Dp = some (.lst xs) := x2.fr Dp _ hDl hne
            have hne2 : ∀ i, i < h.length → ι2 i ≠ Dp := fun i hi => by rw [x2.ag i hi]; exact hne i hi
            have E2 := E.mono (x2.grow R)
            have sgo := sg C.X.s_0 H2 0 [] []
            cases hgd : g d (wipeE env (own.map (·.2))) h with
            | nx e3 h3 =>
              rw [hgd] at hq
              dsimp only at hq
              refine sgo.2.at_ (wipe_wipe fun _ h => h) (sgo.1.run d xv _ h _ H2 ι2 _ R2 ⟨E2, trivial⟩ r2 ?_)
              rw [hgd]
              refine fun ι3 H3 σ3 x3 R3 V3 => ?_
              have hD3 : H3 Dp = some (.lst xs) := x3.fr Dp _ hD2 hne2
              have hne3 : ∀ i, i < h3.length → ι3 i ≠ Dp := fun i hi => by
                by_cases hlt : i < h.length
                · rw [x3.ag i hlt]; exact hne2 i hlt
                · intro e
                  have := x3.nw i (Nat.not_lt.mp hlt) hi
                  rw [e, hD2] at this; cases this
              have V3' : RV C.flat ι3 h3.length H3 e3 σ3 := ⟨V3.re, trivial⟩
              refine ⟨e3, h3, ι3, R3, V3', ?_⟩
              cases htt : mt e3 h3 with
              | ok db h4 =>
                rw [htt] at hq
                cases db with
                | bl b =>
                  refine ⟨b, rfl, fun ι4 H4 x4 R4 => ?_⟩
                  have hD4 : H4 Dp = some (.lst xs) := x4.fr Dp _ hD3 hne3
                  have hne4 : ∀ i, i < h4.length → ι4 i ≠ Dp := fun i hi => by
                    by_cases hlt : i < h3.length
                    · rw [x4.ag i hlt]; exact hne3 i hlt
                    · intro e
                      have := x4.nw i (Nat.not_lt.mp hlt) hi
                      rw [e, hD3] at this; cases this
                  have xx := x2.trans (x3.trans x4)
                  cases b with
                  | true =>
                    dsimp only at hq
                    refine iteT ?_
                    refine ⟨e3, h4, ι4, R4, V3'.ext R3 x4, ?_⟩
                    cases hte : me e3 h4 with
                    | ok d5 h5 =>
                      rw [hte] at hq
                      dsimp only at hq
                      by_cases hz : FitsL acc.length
                      · rw [if_pos hz] at hq
                        refine fun ι5 H5 v5 x5 R5 r5 => ?_
                        have hD5 : H5 Dp = some (.lst xs) := x5.fr Dp _ hD4 hne4
                        have hne5 : ∀ i, i < h5.length → ι5 i ≠ Dp := fun i hi => by
                          by_cases hlt : i < h4.length
                          · rw [x5.ag i hlt]; exact hne4 i hlt
                          · intro e
                            have := x5.nw i (Nat.not_lt.mp hlt) hi
                            rw [e, hD4] at this; cases this
                        have x25 := xx.trans x5
                        refine ⟨xs, hD5, by rw [← ra.length]; exact hz, h5, ι5, acc ++ [d5], xs ++ [v5], ?_, ?_, ?_, upd_same, ?_, hne5, hq⟩
                        · have xa := x.trans x25
                          refine ⟨xa.le, xa.ag, xa.nw, fun b o e hb => ?_, fun b e => ?_⟩
                          · have hbD : b ≠ Dp := ne_of_none e hD
                            rw [upd_ne hbD]; exact xa.fr b o e hb
                          · by_cases hb : b = Dp
                            · subst hb; rw [upd_same] at e; cases e
                            · rw [upd_ne hb] at e; exact xa.st b e
                        all_goals
                          have gg : Grow C.X.K ι5 h5.length H5 ι5 h5.length (upd H5 Dp (.lst (xs ++ [v5]))) := ⟨Nat.le_refl _, fun _ _ => rfl, fun a vs q => by
                              rcases q with (q | ⟨o, q⟩) | q
                              · exact .inl (.inl (by rw [upd_ne (ne_of q hD5 (by intro z; cases z))]; exact q))
                              · exact .inl (.inr ⟨o, by rw [upd_ne (ne_of q hD5 (by intro z; cases z))]; exact q⟩)
                              · exact .inr q, fun a vs q => by
                              rcases q with ⟨o, q⟩ | q
                              · exact .inl ⟨o, by rw [upd_ne (ne_of q hD5 (by intro z; cases z))]; exact q⟩
                              · exact .inr q⟩
                        · refine ⟨R5.inj, fun i o e => ?_⟩
                          have hi : i < h5.length := (List.getElem?_eq_some_iff.mp e).1
                          exact RO.mono (H0 := H5) gg (upd_ne (hne5 i hi)) (R5.ob i o e)
                        · exact ((E2.mono (x3.grow R2)).mono ((x4.trans x5).grow R3)).mono gg
                        · exact RDs.append ((ra.mono (x25.grow R)).mono gg) (RDs.cons' (r5.mono gg) RDs.nil')
                      · rw [if_neg hz] at hq; cases hq
                    | exc c fs h5 => rw [hte] at hq; cases hq
                    | stuck => rw [hte] at hq; cases hq
                  | false =>
                    dsimp only at hq
                    refine iteF ?_
                    exact ⟨h4, ι4, acc, xs, x.trans xx, R4, (E2.mono (x3.grow R2)).mono (x4.grow R3), hD4, ra.mono (xx.grow R), hne4, hq⟩
                | _ => cases hq
              | exc c fs h4 => rw [htt] at hq; cases hq
              | stuck => rw [htt] at hq; cases hq
            | _ => rw [hgd] at hq; cases hq
  | exc c fs h1 => rw [hm] at p; exact p
  | stuck => rw [hm] at p; exact p
end
end Rf

set_option maxHeartbeats 1000000
namespace Rf
open PySem PySem.Spec PyProof.Rows L2

section
variable {C : Ct} {elt tg iter : Expr} {ifs : List Expr} {scope : Scope} {own : List (Str × Nat)} {pos : Pos} {mi : IM} {g : GM} {t : TG} {mt me : EM}
theorem me_lc (hc : C.X.calm = true) (hN : C.X.N.Nodup) (hi : MI C tg iter mi) (ok : BlkOk C.X.N C.X.env.scope scope own)
    (hg : ∀ s H Cc cl fp, MGc (C.blk s H scope Cc cl fp) tg g t (own.map (·.2)))
    (ht : ∀ s H Cc cl fp, MTs (C.blk s H scope Cc cl fp) ifs mt) (he : ∀ s H Cc cl fp, ME (C.blk s H scope Cc cl fp) elt me) (hs : ∀ x, foldedSetIterable iter C.X.env x = pure x := by intro _; rfl) :
    ME C (.ListComp elt [⟨tg, iter, ifs, 0⟩] scope pos) (eLc mi g mt me (own.map (·.2))) := by
  obtain ⟨ti, pi, si⟩ := hi
  exact ⟨_, pe_lc hc hN pi ok (fun s H Cc cl fp => (hg s H Cc cl fp).1) (fun s H Cc cl fp => (ht s H Cc cl fp).can) (fun s H Cc cl fp => (he s H Cc cl fp).can) hs, SimE.lc si fun s H Cc cl fp => (hg s H Cc cl fp).2⟩
theorem ms_setLc {i : Nat} {y : Str} {py spos : Pos} (hc : C.X.calm = true) (hN : C.X.N.Nodup) (hy : C.X.N[i]? = some y) (hyl : C.X.env.scope.names.lookup y = some .local)
    (hsw : swapsWith (.ListComp elt [⟨tg, iter, ifs, 0⟩] scope pos) (some (.Name y py)) spos.line C.X.env = pure true) (hi : MI C tg iter mi) (ok : BlkOk C.X.N C.X.env.scope scope own)
    (hg : ∀ s H Cc cl fp, MGc (C.blk s H scope Cc cl fp) tg g t (own.map (·.2)))
    (ht : ∀ s H Cc cl fp, MTs (C.blk s H scope Cc cl fp) ifs mt) (he : ∀ s H Cc cl fp, ME (C.blk s H scope Cc cl fp) elt me) (hne : ∀ y, C.ea = some y → y.i ≠ i := by exact fun _ z => nomatch z) (hs : ∀ x, foldedSetIterable iter C.X.env x = pure x := by intro _; rfl) :
    MS C (.Assign [.Name y py] (.ListComp elt [⟨tg, iter, ifs, 0⟩] scope pos) spos) (sSet i (eLc mi g mt me (own.map (·.2)))) := by
  obtain ⟨ti, pi, si⟩ := hi
  refine ⟨_, ps_setLc (te := canE C.flat me) (tt := canT C.flat mt) hc hN hy hyl hsw pi ok (fun s H Cc cl fp => (hg s H Cc cl fp).1) (fun s H Cc cl fp => (ht s H Cc cl fp).can) (fun s H Cc cl fp => (he s H Cc cl fp).can) hs, ⟨fun env h σ H ι D R V p => ?_⟩⟩
  have s1 : SimE C _ (eLc mi g mt me (own.map (·.2))) := SimE.lc si fun s H Cc cl fp => (hg s H Cc cl fp).2
  exact s1.thenS R V p fun d h1 ι1 H1 v1 x1 R1 V1 r1 p1 => p1 ι1 H1 _ .refl R1 (V1.set i r1 hne)
end

/-! ### no numbers within -/
mutual
def D.pure : D → Bool
  | .ref _ => false
  | .tup ds => pures ds
  | .rol ds => pures ds
  | .non => true
  | .bl _ => true
  | .int _ => true
  | .str _ => true
  | .ty _ => true
def pures : List D → Bool
  | [] => true
  | d :: ds => d.pure && pures ds
end
def AO.flat : AO → Bool
  | .lst ds => pures ds
  | .dK kvs => pures (kvs.map (·.2))
  | .dT kvs => pures (kvs.map (·.2))
theorem pures_iff : ∀ {ds : List D}, pures ds = true ↔ ∀ d ∈ ds, d.pure = true
  | [] => by simp [pures]
  | d :: ds => by simp [pures, pures_iff (ds := ds)]
mutual
def D.lt_ (n : Nat) : D → Prop
  | .ref i => i < n
  | .tup ds => lts_ n ds
  | .rol ds => lts_ n ds
  | .non => True
  | .bl _ => True
  | .int _ => True
  | .str _ => True
  | .ty _ => True
def lts_ (n : Nat) : List D → Prop
  | [] => True
  | d :: ds => d.lt_ n ∧ lts_ n ds
end
section
variable {K : PySem.W.Frag} {ι ι' : Nat → Addr} {n n' : Nat} {H H' : Hp} {h h' : AH} {d : D} {ds : List D} {v : V} {vs : List V}
mutual
theorem RD.lt_ : ∀ {d : D} {v : V}, RD K ι n H d v → d.lt_ n
  | .ref i, v, r => (RD.ref.mp r).1
  | .tup ds, v, r => by obtain ⟨_, _, _, _, r⟩ := RD.tup.mp r; exact RDs.below r
  | .rol ds, v, r => by obtain ⟨_, _, _, _, r⟩ := RD.rol.mp r; exact RDs.below r
  | .non, _, _ => trivial
  | .bl _, _, _ => trivial
  | .int _, _, _ => trivial
  | .str _, _, _ => trivial
  | .ty _, _, _ => trivial
theorem RDs.below : ∀ {ds : List D} {vs : List V}, RDs K ι n H ds vs → lts_ n ds
  | [], _, _ => trivial
  | d :: ds, vs, r => by
    obtain ⟨v, r', _, h1, h2⟩ := RDs.cons.mp r
    exact ⟨RD.lt_ h1, RDs.below h2⟩
end
mutual
theorem D.pure_lt : ∀ {d : D}, d.pure = true → d.lt_ n
  | .ref i, r => by cases r
  | .tup ds, r => pures_lt (by unfold D.pure at r; exact r)
  | .rol ds, r => pures_lt (by unfold D.pure at r; exact r)
  | .non, _ => trivial
  | .bl _, _ => trivial
  | .int _, _ => trivial
  | .str _, _ => trivial
  | .ty _, _ => trivial
theorem pures_lt : ∀ {ds : List D}, pures ds = true → lts_ n ds
  | [], _ => trivial
  | d :: ds, r => by
    unfold pures at r
    simp only [Bool.and_eq_true] at r
    exact ⟨D.pure_lt r.1, pures_lt r.2⟩
end
mutual
/-- numbers below n alone matter -/
theorem RD.cut (ag : ∀ i, i < n → ι' i = ι i) : ∀ {d : D} {v : V}, RD K ι n' H d v → d.lt_ n → RD K ι' n H d v
  | .ref i, v, r, b => RD.ref.mpr ⟨b, by rw [ag i b]; exact (RD.ref.mp r).2⟩
  | .tup ds, v, r, b => by
    obtain ⟨a, vs, e, q, r⟩ := RD.tup.mp r
    exact RD.tup.mpr ⟨a, vs, e, q, RDs.cut ag r (by unfold D.lt_ at b; exact b)⟩
  | .rol ds, v, r, b => by
    obtain ⟨a, vs, e, q, r⟩ := RD.rol.mp r
    exact RD.rol.mpr ⟨a, vs, e, q, RDs.cut ag r (by unfold D.lt_ at b; exact b)⟩
  | .non, _, r, _ => by unfold RD at r ⊢; exact r
  | .bl _, _, r, _ => by unfold RD at r ⊢; exact r
  | .int _, _, r, _ => by unfold RD at r ⊢; exact r
  | .str _, _, r, _ => by unfold RD at r ⊢; exact r
  | .ty _, _, r, _ => by unfold RD at r ⊢; exact r
theorem RDs.cut (ag : ∀ i, i < n → ι' i = ι i) : ∀ {ds : List D} {vs : List V}, RDs K ι n' H ds vs → lts_ n ds → RDs K ι' n H ds vs
  | [], _, r, _ => by unfold RDs at r ⊢; exact r
  | d :: ds, vs, r, b => by
    obtain ⟨v, r', e, h1, h2⟩ := RDs.cons.mp r
    exact RDs.cons.mpr ⟨v, r', e, RD.cut ag h1 b.1, RDs.cut ag h2 b.2⟩
end
def AO.lt_ (n : Nat) : AO → Prop
  | .lst ds => lts_ n ds
  | .dK kvs => lts_ n (kvs.map (·.2))
  | .dT kvs => lts_ n (kvs.map (·.2))
theorem AO.flat_lt {o : AO} (f : o.flat = true) : o.lt_ n := by
  cases o <;> exact pures_lt f
theorem RO.below {o : AO} {a : Addr} (r : RO K ι n H o a) : o.lt_ n := by
  cases o with
  | lst ds => obtain ⟨_, _, r⟩ := r; exact r.below
  | dK ds => obtain ⟨_, _, _, r⟩ := r; exact r.below
  | dT ds => obtain ⟨_, _, _, r⟩ := r; exact r.below
theorem RO.cut (ag : ∀ i, i < n → ι' i = ι i) {o : AO} {a : Addr} (r : RO K ι n' H o a) (b : o.lt_ n) : RO K ι' n H o a := by
  cases o with
  | lst ds => obtain ⟨vs, e, r⟩ := r; exact ⟨vs, e, r.cut ag b⟩
  | dK ds => obtain ⟨vs, e, k, r⟩ := r; exact ⟨vs, e, k, r.cut ag b⟩
  | dT ds => obtain ⟨vs, e, k, r⟩ := r; exact ⟨vs, e, k, r.cut ag b⟩
end

/-! ### what a def leaves: its own things are dropped where nothing leads to them -/
/-- the things of h stand as they stood, or are flat -/
def Keep (h h' : AH) : Prop := h.length ≤ h'.length ∧ ∀ i o, i < h.length → h'[i]? = some o → h[i]? = some o ∨ o.flat = true
open Classical in
noncomputable def gc (h : AH) (o : ER) : ER := match o with
  | .ok d h' => if Keep h h' then (if d.pure = true then .ok d (h'.take h.length) else match d with
      | .ref i => if h.length ≤ i ∧ ∃ o, h'[i]? = some o ∧ o.flat = true then .ok (.ref h.length) (h'.take h.length ++ (h'[i]?).toList) else .ok d h'
      | _ => .ok d h') else .ok d h'
  | r => r
theorem gc_pure {h h' : AH} {d : D} (k : Keep h h') (p : d.pure = true) : gc h (.ok d h') = .ok d (h'.take h.length) := by
  unfold gc
  simp only [if_pos k, if_pos p]
theorem gc_list {h h' : AH} {i : Nat} {o : AO} (k : Keep h h') (hi : h.length ≤ i) (e : h'[i]? = some o) (f : o.flat = true) : gc h (.ok (.ref i) h') = .ok (.ref h.length) (h'.take h.length ++ [o]) := by
  unfold gc
  simp only [if_pos k]
  rw [if_neg (by unfold D.pure; exact Bool.false_ne_true), if_pos ⟨hi, o, e, f⟩, e]
  rfl
/-- the end of a def's body as the end of its call -/
def outS (r : SR) : ER := match r with
  | .rt d h => .ok d h
  | .nx _ h => .ok .non h
  | .exc c fs _ h => .exc c fs h
  | _ => .stuck
/-- a def of N slots, by its body -/
noncomputable def fsem (N : Nat) (m : SM) : List D → AH → ER := fun ds h => gc h (outS (m (ds.map some ++ List.replicate (N - ds.length) none) h))

def PostF (K : PySem.W.Frag) (mg : Str → Option Value) (ι : Nat → Addr) (n : Nat) (H : Hp) (o : ER) (Q : VK) (E : XK) : Prop := match o with
  | .ok d h' => ∀ ι' H' v, Ext ι n H ι' h'.length H' → Rel K ι' h' H' → RD K ι' h'.length H' d v → Q v H'
  | .exc c fs h' => ∀ ι' H' Cl dd, Ext ι n H ι' h'.length H' → Rel K ι' h' H' → mg c = some (.ref Cl) → XD K ι' h'.length H' dd fs → E (.ref Cl) dd H'
  | .stuck => False
/-- the promise of a def that does F -/
def spF (K : PySem.W.Frag) (mg : Str → Option Value) (pl : Nat) (F : List D → AH → ER) : Sp := fun vs H Q E => vs.length = pl ∧ ∃ ι h ds, Rel K ι h H ∧ RDs K ι h.length H ds vs ∧ PostF K mg ι h.length H (F ds h) Q E
section
variable {K : PySem.W.Frag} {mg : Str → Option Value} {ι ι' : Nat → Addr} {H H' : Hp} {h h' : AH} {Q : VK} {E : XK} {o : ER}
theorem PostF.gc (R0 : Rel K ι h H) (p : PostF K mg ι h.length H (Rf.gc h o) Q E) : PostF K mg ι h.length H o Q E := by
  cases o with
  | exc c fs h' => exact p
  | stuck => exact p
  | ok d h' =>
    by_cases k : Keep h h'
    · obtain ⟨kl, kk⟩ := k
      have lt : (h'.take h.length).length = h.length := by rw [List.length_take]; omega
      -- the first things alone
      have cutR : ∀ {ι' : Nat → Addr} {H' : Hp}, Ext ι h.length H ι' h'.length H' → Rel K ι' h' H' → Rel K ι' (h'.take h.length) H' := fun {ι' H'} x R => by
        refine ⟨fun i j hi hj => R.inj i j (by omega) (by omega), fun i o e => ?_⟩
        rw [lt]
        have hi : i < h.length := by have := (List.getElem?_eq_some_iff.mp e).1; omega
        rw [List.getElem?_take_of_lt hi] at e
        refine (R.ob i o e).cut (fun _ _ => rfl) ?_
        rcases kk i o hi e with e0 | f
        · exact (R0.ob i o e0).below
        · exact AO.flat_lt f
      have cutX : ∀ {ι' : Nat → Addr} {H' : Hp}, Ext ι h.length H ι' h'.length H' → Ext ι h.length H ι' h.length H' := fun {ι' H'} x =>
        ⟨Nat.le_refl _, x.ag, fun i h1 h2 => absurd h2 (Nat.not_lt.mpr h1), x.fr, x.st⟩
      by_cases hp : d.pure = true
      · rw [gc_pure ⟨kl, kk⟩ hp] at p
        refine fun ι' H' v x R r => p ι' H' v (by rw [lt]; exact cutX x) (cutR x R) ?_
        rw [lt]
        exact r.cut (fun _ _ => rfl) (D.pure_lt hp)
      · unfold Rf.gc at p
        simp only [if_pos (show Keep h h' from ⟨kl, kk⟩), if_neg hp] at p
        cases d with
        | ref i =>
          dsimp only at p
          by_cases hc : h.length ≤ i ∧ ∃ o, h'[i]? = some o ∧ o.flat = true
          · rw [if_pos hc] at p
            obtain ⟨hi, o, e, f⟩ := hc
            rw [e] at p
            refine fun ι' H' v x R r => ?_
            obtain ⟨hil, rfl⟩ := RD.ref.mp r
            have le : (h'.take h.length ++ [o]).length = h.length + 1 := by rw [List.length_append, lt]; rfl
            have ag : ∀ j, j < h.length → ιset ι' h.length (ι' i) j = ι' j := fun j hj => ιset_lt hj
            refine p (ιset ι' h.length (ι' i)) H' (.ref (ι' i)) ?_ ?_ ?_
            · rw [show (List.take (List.length h) h' ++ (some o).toList) = h'.take h.length ++ [o] from rfl, le]
              refine ⟨Nat.le_succ _, fun j hj => by rw [ag j hj]; exact x.ag j hj, fun j h1 h2 => ?_, x.fr, x.st⟩
              have ej : j = h.length := by omega
              rw [ej, ιset_same]
              exact x.nw i hi hil
            · show Rel K _ (h'.take h.length ++ [o]) H'
              have RT := cutR x R
              refine ⟨fun a b ha hb eab => ?_, fun j o' e' => ?_⟩
              · rw [le] at ha hb
                by_cases h1 : a = h.length
                · by_cases h2 : b = h.length
                  · rw [h1, h2]
                  · rw [h1, ιset_same, ιset_ne h2] at eab
                    have := R.inj i b hil (by omega) eab
                    omega
                · by_cases h2 : b = h.length
                  · rw [h2, ιset_same, ιset_ne h1] at eab
                    have := R.inj a i (by omega) hil eab
                    omega
                  · rw [ιset_ne h1, ιset_ne h2] at eab
                    exact R.inj a b (by omega) (by omega) eab
              · rw [le]
                by_cases h1 : j < h.length
                · rw [List.getElem?_append_left (by omega)] at e'
                  have q := RT.ob j o' e'
                  rw [lt] at q
                  rw [ag j h1]
                  exact RO.mono (H0 := H') ⟨Nat.le_succ _, ag, fun _ _ q => q, fun _ _ q => q⟩ rfl q
                · have ej : j = h.length := by have := (List.getElem?_eq_some_iff.mp e').1; omega
                  subst ej
                  rw [List.getElem?_append_right (by omega), lt] at e'
                  simp only [Nat.sub_self, List.getElem?_cons_zero, Option.some.injEq] at e'
                  subst e'
                  rw [ιset_same]
                  have q := R.ob i o e
                  refine RO.mono (H0 := H') (ι := ι') (n := h.length) ⟨Nat.le_succ _, ag, fun _ _ q => q, fun _ _ q => q⟩ rfl (q.cut (fun _ _ => rfl) (AO.flat_lt f))
            · show RD K _ (h'.take h.length ++ [o]).length H' _ _
              rw [le]
              exact RD.ref.mpr ⟨Nat.lt_succ_self _, by rw [ιset_same]⟩
          · rw [if_neg hc] at p; exact p
        | _ => exact p
    · unfold Rf.gc at p
      simp only [if_neg k] at p
      exact p
end

/-! ### a def -/
/-- the context of a def's body -/
abbrev ctOf (P : Program) (w : World) (K : PySem.W.Frag) (mg : Str → Option Value) (base : Heap) (N : List Str) (qual : Str) (scope : Scope) (f : Addr) (cdv : Value) (A : Around) (outer : List Env) (s : Shared) (H : Hp) (E : XK) : Ct :=
  ⟨cxOf (L2.CX P w) P w K mg base N qual scope f cdv A outer s H E, fun cls d _ H => E cls d H, none⟩
theorem start_re {K : PySem.W.Frag} {ι : Nat → Addr} {n : Nat} {H : Hp} {ds : List D} {vs : List V} (N : Nat) (r : RDs K ι n H ds vs) : RE K ι n H (ds.map some ++ List.replicate (N - ds.length) none) (vs.map some ++ List.replicate (N - vs.length) none) := by
  have hl := r.length
  refine ⟨by simp [hl], fun i d e => ?_⟩
  by_cases hi : i < ds.length
  · rw [List.getElem?_append_left (by simpa using hi), List.getElem?_map] at e
    cases q : ds[i]? with
    | none => rw [q] at e; cases e
    | some d' =>
      rw [q] at e
      have e' : d' = d := by simpa using e
      subst e'
      obtain ⟨v, e2, r2⟩ := r.get q
      exact ⟨v, by rw [List.getElem?_append_left (by simp; omega), List.getElem?_map, e2]; rfl, r2⟩
  · rw [List.getElem?_append_right (by simpa using hi)] at e
    have := List.mem_of_getElem? e
    rw [List.mem_replicate] at this
    cases this.2
theorem fn_ok {P : Program} {w : World} {K : PySem.W.Frag} {mg : Str → Option Value} {base : Heap} {x qual : Str} {st : Stmt} {f : Addr} {fd : FuncData} {N ps : List Str} {k n pl : Nat} {m : SM} (F : Fun K x qual st f fd) (S : FnScope N ps (defScope st)) (hN : N.length = n) (hp : ps.length = pl)
    (hm : ∀ cdv A outer s H E, Room k (A.deeper (envOfC qual (defScope st) s.heap.objs.size f cdv)) → MB (ctOf P w K mg base N qual (defScope st) f cdv A outer s H E) (defBody st) m) :
    FnOk P w K mg base (L2.CX P w) (k + 1) f fd ps (spF K mg pl (fsem n m)) := by
  subst hN hp
  refine F.okX S (fun vs H Q E h => h.1) (fun cdv A outer s H vs Q E hr h => ?_)
  obtain ⟨hl, ι, h, ds, R, r, p⟩ := h
  obtain ⟨t, pt, s1⟩ := hm cdv A outer s H E hr
  refine ⟨t, pt, ?_⟩
  have V : RV (ctOf P w K mg base N qual (defScope st) f cdv A outer s H E) ι h.length H (ds.map some ++ List.replicate (N.length - ds.length) none) (L2.start N vs) := ⟨start_re N.length r, trivial⟩
  refine s1.run _ h _ H ι _ R V ?_
  have q := PostF.gc R p
  cases hq : m (ds.map some ++ List.replicate (N.length - ds.length) none) h with
  | nx e h1 =>
    rw [hq] at q
    exact fun ι' H' σ' x R' V' => q ι' H' .non x R' (RD.non.mpr rfl)
  | rt d h1 => rw [hq] at q; exact q
  | exc c fs e h1 => rw [hq] at q; exact fun ι' H' σ' Cl dd x R' V' mc xd => q ι' H' Cl dd x R' mc xd
  | bk e h1 => rw [hq] at q; exact q.elim
  | ct e h1 => rw [hq] at q; exact q.elim
  | stuck => rw [hq] at q; exact q.elim

/-! ### calls of defs -/
/-- called with n arguments -/
def argn (n : Nat) (F : List D → AH → ER) : List D → AH → ER := fun ds h => if ds.length = n then F ds h else .stuck
section
variable {C : Ct} {k pl : Nat} {f : Addr} {fd : FuncData} {ps : List Str} {F : List D → AH → ER} {x : Str} {p pos : Pos} {e : Expr} {es : List Expr} {ml : LM}
theorem spF.of {ι : Nat → Addr} {h : AH} {H : Hp} {σ : List (Option V)} {ds : List D} {vs : List V} {Q : VK} (R : Rel C.X.K ι h H) (r : RDs C.X.K ι h.length H ds vs) (hl : vs.length = pl) (q : PostE C ι h.length H σ (F ds h) Q) : spF C.X.K C.X.mg pl F vs H Q (WE C.W σ) := by
  refine ⟨hl, ι, h, ds, R, r, ?_⟩
  cases hf : F ds h with
  | ok d h' => rw [hf] at q; exact q
  | exc c fs h' => rw [hf] at q; exact q
  | stuck => rw [hf] at q; exact q
theorem me_call (F0 : FnOk C.X.prog C.X.w C.X.K C.X.mg C.X.base (L2.CX C.X.prog C.X.w) k f fd ps (spF C.X.K C.X.mg pl F)) (hr : Room k C.X.A) (hm : C.X.mg x = some (.ref f)) (hk : PySem.W.keepIn C.X.K (.ref f) = true) (hb : Binds C.X.K fd ps []) (tk : Takes C.X C.W)
    (ha : MA C (e :: es) ml) (hlen : (e :: es).length = pl := by rfl) (hg : Gl C.X x := by rfl) (hdb : (x == ("__debug__" : Str)) = false := by decide) (he : starEach (e :: es) C.X.env = (false, eval e C.X.env) :: starEach es C.X.env := by rfl) (hpl : (backTo pos (starEach es C.X.env)).any (·.1) = false := by rfl) :
    ME C (.Call (.Name x p) (e :: es) [] pos) (eCall (argn pl F) ml) := by
  obtain ⟨t, pa, s⟩ := ha
  refine ⟨_, pe_callSD F0 hr hg hm hk hb (dvs := []) .nil (fun σ => passAt tk σ) pa hdb he hpl, ⟨fun env h σ H ι Q R V q => ?_⟩⟩
  refine s.run env h σ H ι _ R V ?_
  unfold eCall at q
  cases hm : ml env h with
  | ok ds h1 =>
    rw [hm] at q
    refine fun ι' H' vs x R' r => ?_
    show spF C.X.K C.X.mg pl F (vs ++ []) H' Q (WE C.W σ)
    rw [List.append_nil]
    have q2 : PostE C ι h.length H σ (if ds.length = pl then F ds h1 else .stuck) Q := q
    by_cases hd : ds.length = pl
    · rw [if_pos hd] at q2
      exact spF.of R' r (by rw [← r.length]; exact hd) (PostE.shift q2 x)
    · rw [if_neg hd] at q2; exact q2.elim
  | exc c fs h1 => rw [hm] at q; exact q
  | stuck => rw [hm] at q; exact q
end
end Rf

set_option maxHeartbeats 1000000
namespace Rf
open PySem PySem.Spec PyProof.Rows L2

/-! ### values made -/
section
variable {C : Ct} {ι : Nat → Addr} {h : AH} {H : Hp} {σ : List (Option V)} {Q : VK} {ds : List D} {vs : List V} {d : D} {v : V}
theorem PostE.here (p : PostE C ι h.length H σ (.ok d h) Q) (R : Rel C.X.K ι h H) (r : RD C.X.K ι h.length H d v) : Q v H := p ι H v .refl R r
theorem PostE.tup (p : PostE C ι h.length H σ (.ok (.tup ds) h) Q) (R : Rel C.X.K ι h H) (r : RDs C.X.K ι h.length H ds vs) {a : Addr} (ha : H a = none) : Q (.ref a) (upd H a (.tup vs)) := by
  have x : Ext ι h.length H ι h.length (upd H a (.tup vs)) := Ext.tup ha
  exact p ι _ (.ref a) x (R.tup ha x) (RD.tup.mpr ⟨a, vs, rfl, .inl (.inl upd_same), r.mono (x.grow R)⟩)
theorem PostE.lst (p : PostE C ι h.length H σ (.ok (.ref h.length) (h ++ [.lst ds])) Q) (R : Rel C.X.K ι h H) (r : RDs C.X.K ι h.length H ds vs) {a : Addr} (ha : H a = none) : Q (.ref a) (upd H a (.lst vs)) := by
  have el : (h ++ [AO.lst ds]).length = h.length + 1 := by simp
  have x : Ext ι h.length H (ιset ι h.length a) (h.length + 1) (upd H a (.lst vs)) := Ext.new ha
  refine p (ιset ι h.length a) _ (.ref a) (by rw [el]; exact x) (R.new ha fun x => ⟨vs, upd_same, r.mono (x.grow R)⟩) ?_
  rw [el]
  exact RD.ref.mpr ⟨Nat.lt_succ_self _, by rw [ιset_same]⟩
theorem RD.list {K : PySem.W.Frag} (R : Rel K ι h H) {i : Nat} (r : RD K ι h.length H (.ref i) v) (e : h[i]? = some (.lst ds)) : ∃ vs, v = .ref (ι i) ∧ H (ι i) = some (.lst vs) ∧ RDs K ι h.length H ds vs := by
  obtain ⟨_, e2⟩ := RD.ref.mp r
  obtain ⟨vs, e3, r3⟩ := R.ob i _ e
  exact ⟨vs, e2, e3, r3⟩
end
/-- what a value holds as a row that may be read -/
def seqOf (h : AH) : D → Option (List D)
  | .tup ds => some ds
  | .rol ds => some ds
  | .ref i => match h[i]? with
    | some (.lst ds) => some ds
    | _ => none
  | _ => none
/-- .. a list alone -/
def listOf (h : AH) : D → Option (List D)
  | .rol ds => some ds
  | .ref i => match h[i]? with
    | some (.lst ds) => some ds
    | _ => none
  | _ => none
section
variable {K : PySem.W.Frag} {ι : Nat → Addr} {h : AH} {H : Hp} {ds : List D} {d : D} {v : V}
theorem listOf_sq (R : Rel K ι h H) (r : RD K ι h.length H d v) (e : listOf h d = some ds) : ∃ a vs, v = .ref a ∧ SqL K H a vs ∧ RDs K ι h.length H ds vs := by
  cases d with
  | rol es =>
    cases e
    obtain ⟨a, vs, e, q, r⟩ := RD.rol.mp r
    exact ⟨a, vs, e, q.sq, r⟩
  | ref i =>
    simp only [listOf] at e
    cases he : h[i]? with
    | none => rw [he] at e; cases e
    | some o =>
      rw [he] at e
      cases o with
      | lst es =>
        cases e
        obtain ⟨vs, e1, e2, r2⟩ := r.list R he
        exact ⟨_, vs, e1, SqL.of e2, r2⟩
      | _ => cases e
  | _ => cases e
theorem seqOf_sq (R : Rel K ι h H) (r : RD K ι h.length H d v) (e : seqOf h d = some ds) : ∃ a vs, v = .ref a ∧ (SqL K H a vs ∨ SqT K H a vs) ∧ RDs K ι h.length H ds vs := by
  cases d with
  | tup es =>
    cases e
    obtain ⟨a, vs, e, q, r⟩ := RD.tup.mp r
    exact ⟨a, vs, e, .inr q, r⟩
  | rol es =>
    cases e
    obtain ⟨a, vs, e, q, r⟩ := RD.rol.mp r
    exact ⟨a, vs, e, .inl q.sq, r⟩
  | ref i =>
    have e' : listOf h (.ref i) = some ds := e
    obtain ⟨a, vs, e1, q, r⟩ := listOf_sq R r e'
    exact ⟨a, vs, e1, .inl q, r⟩
  | _ => cases e
theorem RDs.ints : ∀ {ns : List Int} {vs : List V} {n : Nat}, RDs K ι n H (ns.map D.int) vs → vs = ns.map V.int
  | [], vs, n, r => RDs.nil.mp r
  | k :: ns, vs, n, r => by
    obtain ⟨v, r', rfl, h1, h2⟩ := RDs.cons.mp r
    rw [RD.int.mp h1, RDs.ints h2]; rfl
theorem RDs.of_ints : ∀ {ns : List Int} {n : Nat}, RDs K ι n H (ns.map D.int) (ns.map V.int)
  | [], n => RDs.nil'
  | k :: ns, n => RDs.cons' (RD.int.mpr rfl) RDs.of_ints
theorem RDs.bls : ∀ {ns : List Bool} {vs : List V} {n : Nat}, RDs K ι n H (ns.map D.bl) vs → vs = ns.map V.bl
  | [], vs, n, r => RDs.nil.mp r
  | k :: ns, vs, n, r => by
    obtain ⟨v, r', rfl, h1, h2⟩ := RDs.cons.mp r
    rw [RD.bl.mp h1, RDs.bls h2]; rfl
theorem RDs.strs : ∀ {ns : List Str} {vs : List V} {n : Nat}, RDs K ι n H (ns.map D.str) vs → vs = ns.map V.str
  | [], vs, n, r => RDs.nil.mp r
  | k :: ns, vs, n, r => by
    obtain ⟨v, r', rfl, h1, h2⟩ := RDs.cons.mp r
    rw [RD.str.mp h1, RDs.strs h2]; rfl
theorem RDs.of_strs : ∀ {ns : List Str} {n : Nat}, RDs K ι n H (ns.map D.str) (ns.map V.str)
  | [], n => RDs.nil'
  | k :: ns, n => RDs.cons' (RD.str.mpr rfl) RDs.of_strs
theorem RDs.atI {n : Nat} {vs : List V} (r : RDs K ι n H ds vs) {i : Int} {d : D} (e : L2.atI ds i = some d) : ∃ v, L2.atI vs i = some v ∧ RD K ι n H d v := by
  unfold L2.atI at e ⊢
  rw [← r.length]
  cases q : L2.ixN ds.length i with
  | none => rw [q] at e; cases e
  | some j =>
    rw [q] at e
    exact r.get e
theorem RDs.cut_ {n : Nat} {vs : List V} (r : RDs K ι n H ds vs) (lo hi : Option Int) : RDs K ι n H ((ds.drop (HT.sIx ds.length 0 lo)).take (HT.sIx ds.length ds.length hi - HT.sIx ds.length 0 lo)) (cutV vs lo hi) := by
  unfold cutV
  rw [← r.length]
  exact (r.drop _).take _
end
/-- the ints of a row -/
def intsOf : List D → Option (List Int)
  | [] => some []
  | .int i :: r => (intsOf r).map (i :: ·)
  | _ => none
theorem intsOf_eq : ∀ {ds : List D} {ns : List Int}, intsOf ds = some ns → ds = ns.map D.int
  | [], ns, e => by cases e; rfl
  | .int i :: r, ns, e => by
    unfold intsOf at e
    cases q : intsOf r with
    | none => rw [q] at e; cases e
    | some ms =>
      rw [q] at e
      cases e
      rw [intsOf_eq q]; rfl
  | .non :: _, _, e => by cases e
  | .bl _ :: _, _, e => by cases e
  | .str _ :: _, _, e => by cases e
  | .ty _ :: _, _, e => by cases e
  | .tup _ :: _, _, e => by cases e
  | .rol _ :: _, _, e => by cases e
  | .ref _ :: _, _, e => by cases e
@[simp] theorem intsOf_map : ∀ ns : List Int, intsOf (ns.map D.int) = some ns
  | [] => rfl
  | k :: ns => by
    show (intsOf (ns.map D.int)).map (k :: ·) = _
    rw [intsOf_map ns]; rfl
def blsOf : List D → Option (List Bool)
  | [] => some []
  | .bl i :: r => (blsOf r).map (i :: ·)
  | _ => none
theorem blsOf_eq : ∀ {ds : List D} {ns : List Bool}, blsOf ds = some ns → ds = ns.map D.bl
  | [], ns, e => by cases e; rfl
  | .bl i :: r, ns, e => by
    unfold blsOf at e
    cases q : blsOf r with
    | none => rw [q] at e; cases e
    | some ms =>
      rw [q] at e
      cases e
      rw [blsOf_eq q]; rfl
  | .non :: _, _, e => by cases e
  | .int _ :: _, _, e => by cases e
  | .str _ :: _, _, e => by cases e
  | .ty _ :: _, _, e => by cases e
  | .tup _ :: _, _, e => by cases e
  | .rol _ :: _, _, e => by cases e
  | .ref _ :: _, _, e => by cases e
@[simp] theorem blsOf_map : ∀ ns : List Bool, blsOf (ns.map D.bl) = some ns
  | [] => rfl
  | k :: ns => by
    show (blsOf (ns.map D.bl)).map (k :: ·) = _
    rw [blsOf_map ns]; rfl
def strsOf : List D → Option (List Str)
  | [] => some []
  | .str i :: r => (strsOf r).map (i :: ·)
  | _ => none
theorem strsOf_eq : ∀ {ds : List D} {ns : List Str}, strsOf ds = some ns → ds = ns.map D.str
  | [], ns, e => by cases e; rfl
  | .str i :: r, ns, e => by
    unfold strsOf at e
    cases q : strsOf r with
    | none => rw [q] at e; cases e
    | some ms =>
      rw [q] at e
      cases e
      rw [strsOf_eq q]; rfl
  | .non :: _, _, e => by cases e
  | .int _ :: _, _, e => by cases e
  | .bl _ :: _, _, e => by cases e
  | .ty _ :: _, _, e => by cases e
  | .tup _ :: _, _, e => by cases e
  | .rol _ :: _, _, e => by cases e
  | .ref _ :: _, _, e => by cases e
@[simp] theorem strsOf_map : ∀ ns : List Str, strsOf (ns.map D.str) = some ns
  | [] => rfl
  | k :: ns => by
    show (strsOf (ns.map D.str)).map (k :: ·) = _
    rw [strsOf_map ns]; rfl

/-! ### + - * // % ** -/
def RepOk (n : Nat) (k : Int) : Prop := -(2 ^ 63) ≤ k ∧ k < 2 ^ 63 ∧ n * k.toNat ≤ sizeLine
noncomputable instance {n : Nat} {k : Int} : Decidable (RepOk n k) := Classical.propDecidable _
def DivOk (j : Int) : Prop := 0 < j ∧ j.natAbs.log2 < 9000
noncomputable instance {j : Int} : Decidable (DivOk j) := Classical.propDecidable _
def PowOk (i j : Int) : Prop := 0 ≤ j ∧ j ≤ 1000000 ∧ i.natAbs < 2 ^ 64
noncomputable instance {i j : Int} : Decidable (PowOk i j) := Classical.propDecidable _
noncomputable def oAdd (a b : D) (h : AH) : ER := match a, b with
  | .int i, .int j => .ok (.int (i + j)) h
  | .str x, .str y => if Fits (x.length + y.length) then .ok (.str (x ++ y)) h else .stuck
  | .tup xs, .tup ys => if Fits (xs.length + ys.length) then .ok (.tup (xs ++ ys)) h else .stuck
  | .ref i, .ref j => (match h[i]?, h[j]? with
    | some (.lst xs), some (.lst ys) => if Fits (xs.length + ys.length) then .ok (.ref h.length) (h ++ [.lst (xs ++ ys)]) else .stuck
    | _, _ => .stuck)
  | _, _ => .stuck
def oSub (a b : D) (h : AH) : ER := match a, b with
  | .int i, .int j => .ok (.int (i - j)) h
  | _, _ => .stuck
noncomputable instance {i j : Int} : Decidable (CMulX i j) := Classical.propDecidable _
noncomputable def oMul (a b : D) (h : AH) : ER := match a, b with
  | .int i, .int j => if CMulX i j then .ok (.int (i * j)) h else .stuck
  | .ref i, .int k => (match h[i]? with
    | some (.lst xs) => if RepOk xs.length k then .ok (.ref h.length) (h ++ [.lst (List.replicate k.toNat xs).flatten]) else .stuck
    | _ => .stuck)
  | _, _ => .stuck
noncomputable def oDiv (a b : D) (h : AH) : ER := match a, b with
  | .int i, .int j => if DivOk j then .ok (.int (i / j)) h else .stuck
  | _, _ => .stuck
def oMod (a b : D) (h : AH) : ER := match a, b with
  | .int i, .int j => if 0 < j then .ok (.int (i % j)) h else .stuck
  | _, _ => .stuck
noncomputable def oPow (a b : D) (h : AH) : ER := match a, b with
  | .int i, .int j => if PowOk i j then .ok (.int (i ^ j.toNat)) h else .stuck
  | _, _ => .stuck
def oNeg (a : D) (h : AH) : ER := match a with
  | .int i => .ok (.int (-i)) h
  | _ => .stuck
section
variable {C : Ct}
abbrev rAddAll (X : Cx) : R2 := fun x y H Q => (rI0 fun i j => V.int (i + j)) x y H Q ∨ (fun (x y : V) (H : Hp) (Q : VK) => ∃ i j, x = .str i ∧ y = .str j ∧ i.length + j.length ≤ sizeLine ∧ Q (.str (i ++ j)) H) x y H Q ∨ rCatA X.K x y H Q ∨ rCat x y H Q
theorem op_addAll {X : Cx} : OpR X (binaryOp .Add) (rAddAll X) := op_add.or (op_add_str.or (op_catA.or op_cat))
theorem os_add : OpS C (rAddAll C.X) oAdd := by
  intro ι h H σ x y d1 d2 Q R r1 r2 p
  unfold oAdd at p
  split at p
  · rename_i i j
    exact .inl ⟨i, j, RD.int.mp r1, RD.int.mp r2, p.here R (RD.int.mpr rfl)⟩
  · rename_i i j
    split at p
    · rename_i hl
      exact .inr (.inl ⟨i, j, RD.str.mp r1, RD.str.mp r2, hl, p.here R (RD.str.mpr rfl)⟩)
    · exact p.elim
  · rename_i xs ys
    split at p
    · rename_i hl
      change _ ≤ sizeLine at hl
      obtain ⟨a, us, rfl, s1, q1⟩ := RD.tup.mp r1
      obtain ⟨b, ws, rfl, s2, q2⟩ := RD.tup.mp r2
      have l1 := q1.length
      have l2 := q2.length
      refine .inr (.inr (.inl ⟨a, b, us, ws, rfl, rfl, s1, s2, by omega, fun e => ?_, fun _ e => ?_, fun _ _ a' ha => p.tup R (q1.append q2) ha⟩))
      · have e1 : xs = [] := List.eq_nil_of_length_eq_zero (by rw [l1, e]; rfl)
        subst e1
        exact p.here R r2
      · have e1 : ys = [] := List.eq_nil_of_length_eq_zero (by rw [l2, e]; rfl)
        subst e1
        rw [List.append_nil] at p
        exact p.here R r1
    · exact p.elim
  · rename_i i j
    split at p
    · rename_i xs ys e1 e2
      split at p
      · rename_i hl
        change _ ≤ sizeLine at hl
        obtain ⟨us, rfl, h1, q1⟩ := r1.list R e1
        obtain ⟨ws, rfl, h2, q2⟩ := r2.list R e2
        have l1 := q1.length
        have l2 := q2.length
        exact .inr (.inr (.inr ⟨_, _, us, ws, rfl, rfl, h1, h2, by omega, fun a ha => p.lst R (q1.append q2) ha⟩))
      · exact p.elim
    · exact p.elim
  · exact p.elim
theorem os_sub : OpS C (rI0 fun i j => .int (i - j)) oSub := by
  intro ι h H σ x y d1 d2 Q R r1 r2 p
  unfold oSub at p
  split at p
  · rename_i i j
    exact ⟨i, j, RD.int.mp r1, RD.int.mp r2, p.here R (RD.int.mpr rfl)⟩
  · exact p.elim
abbrev rMulAll : R2 := fun x y H Q => (rI CMulX fun i j => V.int (i * j)) x y H Q ∨ rRep x y H Q
theorem op_mulAll {X : Cx} : OpR X (binaryOp .Mult) rMulAll := op_mulX.or op_rep
theorem os_mul : OpS C rMulAll oMul := by
  intro ι h H σ x y d1 d2 Q R r1 r2 p
  unfold oMul at p
  split at p
  · rename_i i j
    split at p
    · rename_i hc
      exact .inl ⟨i, j, RD.int.mp r1, RD.int.mp r2, hc, p.here R (RD.int.mpr rfl)⟩
    · exact p.elim
  · rename_i i k
    split at p
    · rename_i xs e1
      split at p
      · rename_i hl
        obtain ⟨us, rfl, h1, q1⟩ := r1.list R e1
        have l1 := q1.length
        exact .inr ⟨_, k, us, rfl, RD.int.mp r2, h1, hl.1, hl.2.1, by rw [← l1]; exact hl.2.2, fun a ha => p.lst R (q1.rep _) ha⟩
      · exact p.elim
    · exact p.elim
  · exact p.elim
theorem os_div : OpS C (rI CDivW fun i j => .int (i / j)) oDiv := by
  intro ι h H σ x y d1 d2 Q R r1 r2 p
  unfold oDiv at p
  split at p
  · rename_i i j
    split at p
    · rename_i hc
      exact ⟨i, j, RD.int.mp r1, RD.int.mp r2, hc, p.here R (RD.int.mpr rfl)⟩
    · exact p.elim
  · exact p.elim
theorem os_mod : OpS C (rI (fun _ j => 0 < j) fun i j => .int (i % j)) oMod := by
  intro ι h H σ x y d1 d2 Q R r1 r2 p
  unfold oMod at p
  split at p
  · rename_i i j
    split at p
    · rename_i hc
      exact ⟨i, j, RD.int.mp r1, RD.int.mp r2, hc, p.here R (RD.int.mpr rfl)⟩
    · exact p.elim
  · exact p.elim
theorem os_pow : OpS C (rI CPow fun i j => .int (i ^ j.toNat)) oPow := by
  intro ι h H σ x y d1 d2 Q R r1 r2 p
  unfold oPow at p
  split at p
  · rename_i i j
    split at p
    · rename_i hc
      exact ⟨i, j, RD.int.mp r1, RD.int.mp r2, hc, p.here R (RD.int.mpr rfl)⟩
    · exact p.elim
  · exact p.elim
theorem us_neg : UnS C (rU fun i => .int (-i)) oNeg := by
  intro ι h H σ x d Q R r p
  unfold oNeg at p
  split at p
  · rename_i i
    exact ⟨i, RD.int.mp r, p.here R (RD.int.mpr rfl)⟩
  · exact p.elim

/-! ### truth -/
noncomputable def oTruth (d : D) (h : AH) : ER := match d with
  | .non => .ok (.bl false) h
  | .bl b => .ok (.bl b) h
  | .int i => .ok (.bl (i != 0)) h
  | .str x => if Fits (x.length) then .ok (.bl ((x.length : Int) != 0)) h else .stuck
  | .tup ds => .ok (.bl (!ds.isEmpty)) h
  | .rol ds => .ok (.bl (!ds.isEmpty)) h
  | .ref i => (match h[i]? with
    | some (.lst ds) => .ok (.bl (!ds.isEmpty)) h
    | some (.dK kvs) => .ok (.bl (!kvs.isEmpty)) h
    | _ => .stuck)
  | _ => .stuck
theorem isEmpty_len {α β : Type} {xs : List α} {ys : List β} (e : xs.length = ys.length) : xs.isEmpty = ys.isEmpty := by
  cases xs <;> cases ys <;> first | rfl | (simp at e)
theorem ts_truth : TruS C oTruth := by
  intro ι h H σ x d Q R r p
  have fin : ∀ {b : Bool}, PostT C ι h.length H σ (.ok (.bl b) h) Q → Q b H := fun {b} p => by
    obtain ⟨b', e, q⟩ := p
    cases e
    exact q ι H .refl R
  unfold oTruth at p
  split at p
  · exact ⟨_, by rw [RD.non.mp r]; exact rfl, fin p⟩
  · exact ⟨_, by rw [RD.bl.mp r]; exact rfl, fin p⟩
  · exact ⟨_, by rw [RD.int.mp r]; exact rfl, fin p⟩
  · split at p
    · rename_i hl
      exact ⟨_, by rw [RD.str.mp r]; exact ⟨hl, rfl⟩, fin p⟩
    · exact p.elim
  · obtain ⟨a, vs, rfl, q, rr⟩ := RD.tup.mp r
    exact ⟨_, .inr (.inl ⟨vs, q, by rw [isEmpty_len rr.length]⟩), fin p⟩
  · obtain ⟨a, vs, rfl, q, rr⟩ := RD.rol.mp r
    exact ⟨_, .inl ⟨vs, q.sq, by rw [isEmpty_len rr.length]⟩, fin p⟩
  · rename_i i
    split at p
    · rename_i ds e
      obtain ⟨vs, rfl, e1, rr⟩ := r.list R e
      exact ⟨_, .inl ⟨vs, SqL.of e1, by rw [isEmpty_len rr.length]⟩, fin p⟩
    · rename_i kvs e
      obtain ⟨_, rfl⟩ := RD.ref.mp r
      obtain ⟨ws, e1, k, rr⟩ := R.ob i _ e
      have : kvs.length = ws.length := by simpa using congrArg List.length k
      exact ⟨_, .inr (.inr ⟨ws, e1, by rw [isEmpty_len this]⟩), fin p⟩
    · exact p.elim
  · exact p.elim
end

/-! ### == -/
/-- data as the library's data, lists within looked up -/
def D.toP (h : AH) : Nat → D → Option PyData
  | _, .non => some .none
  | _, .bl b => some (.bool b)
  | _, .int i => some (.int i)
  | _, .str x => if PyData.strOk x then some (.str x) else none
  | k + 1, .tup ds => (ds.mapM (D.toP h k)).map .tuple
  | k + 1, .rol ds => (ds.mapM (D.toP h k)).map .list
  | k + 1, .ref i => (match h[i]? with
    | some (.lst ds) => (ds.mapM (D.toP h k)).map .list
    | _ => none)
  | _, _ => none
theorem mapM_cons {α β : Type} {f : α → Option β} {a : α} {l : List α} {r : List β} (e : (a :: l).mapM f = some r) : ∃ b r', f a = some b ∧ l.mapM f = some r' ∧ r = b :: r' := by
  rw [List.mapM_cons] at e
  cases h1 : f a with
  | none => rw [h1] at e; cases e
  | some b =>
    rw [h1] at e
    cases h2 : l.mapM f with
    | none => rw [h2] at e; cases e
    | some r' => rw [h2] at e; cases e; exact ⟨b, r', rfl, rfl, rfl⟩
section
variable {K : PySem.W.Frag} {ι : Nat → Addr} {h : AH} {H : Hp}
theorem toP_dp (R : Rel K ι h H) : ∀ (k : Nat) (d : D) (v : V) (p : PyData), RD K ι h.length H d v → d.toP h k = some p → Dp K H v p ∧ p.canLay0 = true ∧ p.depth ≤ k := by
  have many : ∀ (k : Nat), (∀ (d : D) (v : V) (p : PyData), RD K ι h.length H d v → d.toP h k = some p → Dp K H v p ∧ p.canLay0 = true ∧ p.depth ≤ k) →
      ∀ (ds : List D) (vs : List V) (ps : List PyData), RDs K ι h.length H ds vs → ds.mapM (D.toP h k) = some ps → DpAll K H vs ps ∧ PyData.canLayAll0 ps = true ∧ PyData.depthAll ps ≤ k := by
    intro k ih ds
    induction ds with
    | nil =>
      intro vs ps r e
      rw [RDs.nil.mp r]
      rw [List.mapM_nil] at e
      cases e
      exact ⟨.nil, by simp [PyData.canLayAll0], by simp [PyData.depthAll]⟩
    | cons d ds ihd =>
      intro vs ps r e
      obtain ⟨v, r', rfl, h1, h2⟩ := RDs.cons.mp r
      obtain ⟨p, ps', e1, e2, rfl⟩ := mapM_cons e
      obtain ⟨a1, a2, a3⟩ := ih d v p h1 e1
      obtain ⟨b1, b2, b3⟩ := ihd r' ps' h2 e2
      exact ⟨.cons a1 b1, by simp [PyData.canLayAll0, a2, b2], by simp only [PyData.depthAll]; omega⟩
  intro k
  induction k with
  | zero =>
    intro d v p r e
    cases d with
    | non => cases e; rw [RD.non.mp r]; exact ⟨.non, by simp [PyData.canLay0], by simp [PyData.depth]⟩
    | bl b => cases e; rw [RD.bl.mp r]; exact ⟨.bl b, by simp [PyData.canLay0], by simp [PyData.depth]⟩
    | int b => cases e; rw [RD.int.mp r]; exact ⟨.int b, by simp [PyData.canLay0], by simp [PyData.depth]⟩
    | str b =>
      unfold D.toP at e
      split at e
      · rename_i ok
        cases e; rw [RD.str.mp r]; exact ⟨.str b, by simp [PyData.canLay0, ok], by simp [PyData.depth]⟩
      · cases e
    | _ => cases e
  | succ k ih =>
    intro d v p r e
    cases d with
    | non => cases e; rw [RD.non.mp r]; exact ⟨.non, by simp [PyData.canLay0], by simp [PyData.depth]⟩
    | bl b => cases e; rw [RD.bl.mp r]; exact ⟨.bl b, by simp [PyData.canLay0], by simp [PyData.depth]⟩
    | int b => cases e; rw [RD.int.mp r]; exact ⟨.int b, by simp [PyData.canLay0], by simp [PyData.depth]⟩
    | str b =>
      unfold D.toP at e
      split at e
      · rename_i ok
        cases e; rw [RD.str.mp r]; exact ⟨.str b, by simp [PyData.canLay0, ok], by simp [PyData.depth]⟩
      · cases e
    | ty n => cases e
    | tup ds =>
      unfold D.toP at e
      cases q : ds.mapM (D.toP h k) with
      | none => rw [q] at e; cases e
      | some ps =>
        rw [q] at e
        cases e
        obtain ⟨a, vs, rfl, s, rr⟩ := RD.tup.mp r
        obtain ⟨b1, b2, b3⟩ := many k ih ds vs ps rr q
        exact ⟨.tup s b1, by simpa [PyData.canLay0] using b2, by simp only [PyData.depth]; omega⟩
    | rol ds =>
      unfold D.toP at e
      cases q : ds.mapM (D.toP h k) with
      | none => rw [q] at e; cases e
      | some ps =>
        rw [q] at e
        cases e
        obtain ⟨a, vs, rfl, s, rr⟩ := RD.rol.mp r
        obtain ⟨b1, b2, b3⟩ := many k ih ds vs ps rr q
        exact ⟨.lst s.sq b1, by simpa [PyData.canLay0] using b2, by simp only [PyData.depth]; omega⟩
    | ref i =>
      unfold D.toP at e
      cases qi : h[i]? with
      | none => rw [qi] at e; cases e
      | some o =>
        rw [qi] at e
        cases o with
        | lst ds =>
          dsimp only at e
          cases q : ds.mapM (D.toP h k) with
          | none => rw [q] at e; cases e
          | some ps =>
            rw [q] at e
            cases e
            obtain ⟨vs, rfl, s, rr⟩ := r.list R qi
            obtain ⟨b1, b2, b3⟩ := many k ih ds vs ps rr q
            exact ⟨.lst (SqL.of s) b1, by simpa [PyData.canLay0] using b2, by simp only [PyData.depth]; omega⟩
        | _ => cases e
theorem toP_shaped {p : PyData} (h1 : p.canLay0 = true) (h2 : p.depth ≤ 20) : SeqAt.shaped p = true := by
  unfold SeqAt.shaped
  rw [h1, decide_eq_true (by omega : p.depth ≤ 64)]; rfl
end
def oEq (a b : D) (h : AH) : ER := match a.toP h 20, b.toP h 20 with
  | some p, some q => .ok (.bl (PyData.eqv p q)) h
  | _, _ => .stuck
def oNe (a b : D) (h : AH) : ER := match a.toP h 20, b.toP h 20 with
  | some p, some q => .ok (.bl (!PyData.eqv p q)) h
  | _, _ => .stuck
section
variable {C : Ct}
theorem os_eq : OpS C (rEqD C.X.K) oEq := by
  intro ι h H σ x y d1 d2 Q R r1 r2 p
  unfold oEq at p
  split at p
  · rename_i a b e1 e2
    obtain ⟨a1, a2, a3⟩ := toP_dp R _ _ _ _ r1 e1
    obtain ⟨b1, b2, b3⟩ := toP_dp R _ _ _ _ r2 e2
    exact ⟨a, b, a1, b1, toP_shaped a2 a3, toP_shaped b2 b3, p.here R (RD.bl.mpr rfl)⟩
  · exact p.elim
theorem os_ne : OpS C (rNeD C.X.K) oNe := by
  intro ι h H σ x y d1 d2 Q R r1 r2 p
  unfold oNe at p
  split at p
  · rename_i a b e1 e2
    obtain ⟨a1, a2, a3⟩ := toP_dp R _ _ _ _ r1 e1
    obtain ⟨b1, b2, b3⟩ := toP_dp R _ _ _ _ r2 e2
    exact ⟨a, b, a1, b1, toP_shaped a2 a3, toP_shaped b2 b3, p.here R (RD.bl.mpr rfl)⟩
  · exact p.elim
/-- x in l -/
def oIn (a b : D) (h : AH) : ER := match a.toP h 20, listOf h b, b.toP h 20 with
  | some p, some _, some (.list qs) => .ok (.bl (qs.any fun z => PyData.eqv z p)) h
  | _, _, _ => .stuck
def oNotIn (a b : D) (h : AH) : ER := match a.toP h 20, listOf h b, b.toP h 20 with
  | some p, some _, some (.list qs) => .ok (.bl (!qs.any fun z => PyData.eqv z p)) h
  | _, _, _ => .stuck
theorem os_in : OpS C (rInD C.X.K) oIn := by
  intro ι h H σ x y d1 d2 Q R r1 r2 p
  unfold oIn at p
  split at p
  · rename_i a l b e1 e3 e2
    obtain ⟨a1, a2, a3⟩ := toP_dp R _ _ _ _ r1 e1
    obtain ⟨b1, b2, b3⟩ := toP_dp R _ _ _ _ r2 e2
    exact ⟨a, b, a1, b1, toP_shaped a2 a3, toP_shaped b2 b3, p.here R (RD.bl.mpr rfl)⟩
  · exact p.elim
theorem os_notIn : OpS C (rNotInD C.X.K) oNotIn := by
  intro ι h H σ x y d1 d2 Q R r1 r2 p
  unfold oNotIn at p
  split at p
  · rename_i a l b e1 e3 e2
    obtain ⟨a1, a2, a3⟩ := toP_dp R _ _ _ _ r1 e1
    obtain ⟨b1, b2, b3⟩ := toP_dp R _ _ _ _ r2 e2
    exact ⟨a, b, a1, b1, toP_shaped a2 a3, toP_shaped b2 b3, p.here R (RD.bl.mpr rfl)⟩
  · exact p.elim

/-! ### < <= > >=, is None -/
def oLt (a b : D) (h : AH) : ER := match a, b with
  | .int i, .int j => .ok (.bl (decide (i < j))) h
  | .str x, .str y => .ok (.bl (decide (x.cps.toList < y.cps.toList))) h
  | .tup xs, .tup ys => (match intsOf xs, intsOf ys with
    | some ns, some ms => .ok (.bl (HT.lexLt ns ms)) h
    | _, _ => .stuck)
  | _, _ => .stuck
def oLe (a b : D) (h : AH) : ER := match a, b with
  | .int i, .int j => .ok (.bl (decide (i ≤ j))) h
  | .str x, .str y => .ok (.bl (!decide (y.cps.toList < x.cps.toList))) h
  | _, _ => .stuck
def oGt (a b : D) (h : AH) : ER := match a, b with
  | .int i, .int j => .ok (.bl (decide (j < i))) h
  | _, _ => .stuck
def oGe (a b : D) (h : AH) : ER := match a, b with
  | .int i, .int j => .ok (.bl (decide (j ≤ i))) h
  | _, _ => .stuck
abbrev rLtAll (X : Cx) : R2 := fun x y H Q => (rI0 fun i j => V.bl (decide (i < j))) x y H Q ∨ (fun (x y : V) (H : Hp) (Q : VK) => ∃ i j, x = .str i ∧ y = .str j ∧ Q (.bl (decide (i.cps.toList < j.cps.toList))) H) x y H Q ∨ rLtT X.K x y H Q
theorem op_ltAll {X : Cx} (hu : X.A.units < cLine) : OpR X (compareOp .Lt) (rLtAll X) := op_lt.or (op_lt_str.or (op_ltT hu))
theorem os_lt : OpS C (rLtAll C.X) oLt := by
  intro ι h H σ x y d1 d2 Q R r1 r2 p
  unfold oLt at p
  split at p
  · rename_i i j
    exact .inl ⟨i, j, RD.int.mp r1, RD.int.mp r2, p.here R (RD.bl.mpr rfl)⟩
  · rename_i i j
    exact .inr (.inl ⟨i, j, RD.str.mp r1, RD.str.mp r2, p.here R (RD.bl.mpr rfl)⟩)
  · rename_i xs ys
    split at p
    · rename_i ns ms e1 e2
      obtain ⟨a, us, rfl, s1, q1⟩ := RD.tup.mp r1
      obtain ⟨b, ws, rfl, s2, q2⟩ := RD.tup.mp r2
      rw [intsOf_eq e1] at q1
      rw [intsOf_eq e2] at q2
      rw [q1.ints] at s1
      rw [q2.ints] at s2
      exact .inr (.inr ⟨a, b, ns, ms, rfl, rfl, s1, s2, p.here R (RD.bl.mpr rfl)⟩)
    · exact p.elim
  · exact p.elim
abbrev rLeAll : R2 := fun x y H Q => (rI0 fun i j => V.bl (decide (i ≤ j))) x y H Q ∨ (fun (x y : V) (H : Hp) (Q : VK) => ∃ i j, x = .str i ∧ y = .str j ∧ Q (.bl (!decide (j.cps.toList < i.cps.toList))) H) x y H Q
theorem op_leAll {X : Cx} : OpR X (compareOp .LtE) rLeAll := op_le.or op_le_str
theorem os_le : OpS C rLeAll oLe := by
  intro ι h H σ x y d1 d2 Q R r1 r2 p
  unfold oLe at p
  split at p
  · rename_i i j
    exact .inl ⟨i, j, RD.int.mp r1, RD.int.mp r2, p.here R (RD.bl.mpr rfl)⟩
  · rename_i i j
    exact .inr ⟨i, j, RD.str.mp r1, RD.str.mp r2, p.here R (RD.bl.mpr rfl)⟩
  · exact p.elim
theorem os_gt : OpS C (rI0 fun i j => .bl (decide (j < i))) oGt := by
  intro ι h H σ x y d1 d2 Q R r1 r2 p
  unfold oGt at p
  split at p
  · rename_i i j
    exact ⟨i, j, RD.int.mp r1, RD.int.mp r2, p.here R (RD.bl.mpr rfl)⟩
  · exact p.elim
theorem os_ge : OpS C (rI0 fun i j => .bl (decide (j ≤ i))) oGe := by
  intro ι h H σ x y d1 d2 Q R r1 r2 p
  unfold oGe at p
  split at p
  · rename_i i j
    exact ⟨i, j, RD.int.mp r1, RD.int.mp r2, p.here R (RD.bl.mpr rfl)⟩
  · exact p.elim
def D.isNon : D → Bool
  | .non => true
  | _ => false
theorem RD.isNon {K : PySem.W.Frag} {ι : Nat → Addr} {n : Nat} {H : Hp} {d : D} {v : V} (r : RD K ι n H d v) : decide (v = .non) = d.isNon := by
  cases d with
  | non => rw [RD.non.mp r]; rfl
  | bl b => rw [RD.bl.mp r]; rfl
  | int b => rw [RD.int.mp r]; rfl
  | str b => rw [RD.str.mp r]; rfl
  | ty b => rw [RD.ty.mp r]; rfl
  | tup b => obtain ⟨a, vs, rfl, _⟩ := RD.tup.mp r; rfl
  | rol b => obtain ⟨a, vs, rfl, _⟩ := RD.rol.mp r; rfl
  | ref b => obtain ⟨_, rfl⟩ := RD.ref.mp r; rfl
def oIs (a b : D) (h : AH) : ER := match b with
  | .non => .ok (.bl a.isNon) h
  | _ => .stuck
def oIsNot (a b : D) (h : AH) : ER := match b with
  | .non => .ok (.bl (!a.isNon)) h
  | _ => .stuck
theorem os_is : OpS C (fun x y H Q => y = .non ∧ Q (.bl (decide (x = .non))) H) oIs := by
  intro ι h H σ x y d1 d2 Q R r1 r2 p
  unfold oIs at p
  split at p
  · exact ⟨RD.non.mp r2, p.here R (RD.bl.mpr (by rw [r1.isNon]))⟩
  · exact p.elim
theorem os_isNot : OpS C (fun x y H Q => y = .non ∧ Q (.bl (!decide (x = .non))) H) oIsNot := by
  intro ι h H σ x y d1 d2 Q R r1 r2 p
  unfold oIsNot at p
  split at p
  · exact ⟨RD.non.mp r2, p.here R (RD.bl.mpr (by rw [r1.isNon]))⟩
  · exact p.elim

/-! ### items, slices -/
noncomputable def oIx (a b : D) (h : AH) : ER := match b with
  | .int i => (match a with
    | .str z => if Fits (z.length) then (match L2.atI z.cps.toList i with
      | some c => .ok (.str ⟨#[c]⟩) h
      | none => .stuck) else .stuck
    | a => (match seqOf h a with
      | some ds => (match L2.atI ds i with
        | some d => .ok d h
        | none => .stuck)
      | none => .stuck))
  | _ => .stuck
theorem os_ix : OpS C (rIx C.X.K) oIx := by
  intro ι h H σ x y d1 d2 Q R r1 r2 p
  unfold oIx at p
  split at p
  · rename_i i
    cases RD.int.mp r2
    split at p
    · rename_i z
      cases RD.str.mp r1
      split at p
      · rename_i hl
        split at p
        · rename_i c e
          exact .inr (.inr ⟨z, i, c, rfl, rfl, hl, e, p.here R (RD.str.mpr rfl)⟩)
        · exact p.elim
      · exact p.elim
    · split at p
      · rename_i ds e
        split at p
        · rename_i d e2
          obtain ⟨a, vs, rfl, s, rr⟩ := seqOf_sq R r1 e
          obtain ⟨v, e3, r3⟩ := rr.atI e2
          have q := p.here R r3
          rcases s with s | s
          · exact .inl ⟨a, vs, i, v, rfl, rfl, s, e3, q⟩
          · exact .inr (.inl ⟨a, vs, i, v, rfl, rfl, s, e3, q⟩)
        · exact p.elim
      · exact p.elim
  · exact p.elim
theorem me_ix {a b : Expr} {ma mb : EM} {pos : Pos} {r : R2} {g : D → D → AH → ER} (hr : IxR C.X r) (hs : OpS C r g) (ha : ME C a ma) (hb : ME C b mb) (hp : PlainIx b := by exact fun _ _ => rfl) : ME C (.Subscript a b pos) (eOp g ma mb) := by
  obtain ⟨ta, pa, sa⟩ := ha
  obtain ⟨tb, pb, sb⟩ := hb
  exact ⟨_, pe_ix hr pa pb hp, sa.op sb hs⟩
/-- a part of a slice -/
def MO (C : Ct) (e : Option Expr) (m : Option EM) : Prop := match m with
  | none => e = none
  | some m => ∃ a, e = some a ∧ ME C a m
def cutD (ds : List D) (lo hi : Option Int) : List D := (ds.drop (HT.sIx ds.length 0 lo)).take (HT.sIx ds.length ds.length hi - HT.sIx ds.length 0 lo)
noncomputable def oSl (a : D) (lo hi : Option Int) (h : AH) : ER := match a with
  | .str z => if Fits (z.length) then .ok (.str (cutS z lo hi)) h else .stuck
  | .tup ds => .ok (.tup (cutD ds lo hi)) h
  | a => (match listOf h a with
    | some ds => .ok (.ref h.length) (h ++ [.lst (cutD ds lo hi)])
    | none => .stuck)
def ePart (m : Option EM) (env : AE) (h : AH) (f : Option Int → AH → ER) : ER := match m with
  | none => f none h
  | some m => (m env h).then fun d h1 => match d with
    | .int i => f (some i) h1
    | _ => .stuck
noncomputable def eSl (a : EM) (lo hi : Option EM) : EM := fun env h => (a env h).then fun d h1 => ePart lo env h1 fun l h2 => ePart hi env h2 fun u h3 => oSl d l u h3
theorem MO.po {e : Option Expr} {m : Option EM} (hm : MO C e m) : ∃ t, PO C.X e t ∧ ∀ (env : AE) (h : AH) (σ : List (Option V)) (H : Hp) (ι : Nat → Addr) (f : Option Int → AH → ER) (Q : VK) (Q' : Option Int → Hp → Prop), Rel C.X.K ι h H → RV C ι h.length H env σ → PostE C ι h.length H σ (ePart m env h f) Q →
    (∀ i h' ι' H', Ext ι h.length H ι' h'.length H' → Rel C.X.K ι' h' H' → RV C ι' h'.length H' env σ → PostE C ι' h'.length H' σ (f i h') Q → Q' i H') → t σ H Q' := by
  cases m with
  | none =>
    have e' : e = none := hm
    subst e'
    exact ⟨_, po_none, fun env h σ H ι f Q Q' R V p k => k none h ι H .refl R V p⟩
  | some m =>
    obtain ⟨a, rfl, ta, pa, sa⟩ := hm
    refine ⟨_, po_some pa, fun env h σ H ι f Q Q' R V p k => ?_⟩
    refine sa.then R V p fun d h1 ι1 H1 v x1 R1 V1 r1 p1 => ?_
    cases d with
    | int i => exact ⟨i, RD.int.mp r1, k (some i) h1 ι1 H1 x1 R1 V1 p1⟩
    | _ => exact (show False from p1).elim
theorem me_slice {a : Expr} {lo hi : Option Expr} {ma : EM} {ml mh : Option EM} {p2 pos : Pos} (ha : ME C a ma) (hl : MO C lo ml) (hh : MO C hi mh) : ME C (.Subscript a (.Slice lo hi none p2) pos) (eSl ma ml mh) := by
  obtain ⟨ta, pa, sa⟩ := ha
  obtain ⟨tl, pl, sl⟩ := hl.po
  obtain ⟨th, ph, sh⟩ := hh.po
  refine ⟨_, pe_slice (sl_list.or (sl_tupA.or sl_str)) pa pl ph, ⟨fun env h σ H ι Q R V p => ?_⟩⟩
  refine sa.then R V p fun d h1 ι1 H1 v x1 R1 V1 r1 p1 => ?_
  refine sl env h1 σ H1 ι1 _ Q _ R1 V1 p1 fun l h2 ι2 H2 x2 R2 V2 p2 => ?_
  refine sh env h2 σ H2 ι2 _ Q _ R2 V2 p2 fun u h3 ι3 H3 x3 R3 V3 p3 => ?_
  have r3 := r1.mono ((x2.trans x3).grow R1)
  unfold oSl at p3
  split at p3
  · rename_i z
    split at p3
    · rename_i hz
      exact .inr (.inr ⟨z, RD.str.mp r3, hz, p3.here R3 (RD.str.mpr rfl)⟩)
    · exact p3.elim
  · rename_i ds
    obtain ⟨b, vs, rfl, s, rr⟩ := RD.tup.mp r3
    refine .inr (.inl ⟨b, vs, rfl, s, fun e => ?_, fun _ a' ha => p3.tup R3 (rr.cut_ l u) ha⟩)
    have e1 : cutD ds l u = ds := by
      unfold cutD
      rw [rr.length, e.1, e.2]
      simp only [List.drop_zero, Nat.sub_zero]
      rw [← rr.length]
      exact List.take_length
    rw [e1] at p3
    exact p3.here R3 r3
  · split at p3
    · rename_i ds e
      obtain ⟨b, vs, rfl, s, rr⟩ := listOf_sq R3 r3 e
      exact .inl ⟨b, vs, rfl, s, fun a' ha => p3.lst R3 (rr.cut_ l u) ha⟩
    · exact p3.elim
end
end Rf

set_option maxHeartbeats 1000000
namespace Rf
open PySem PySem.Spec PyProof.Rows L2

/-! ### what is walked -/
def RgB (j : Int) : Prop := -(2 ^ 62) ≤ j ∧ j < 2 ^ 62
noncomputable instance {j : Int} : Decidable (RgB j) := Classical.propDecidable _
def RgB2 (i j : Int) : Prop := -(2 ^ 62) ≤ i ∧ i < 2 ^ 62 ∧ -(2 ^ 62) ≤ j ∧ j < 2 ^ 62
noncomputable instance {i j : Int} : Decidable (RgB2 i j) := Classical.propDecidable _
/-- a row that stands still -/
def stat (ds : List D) : AIt := ⟨ds.length, fun i _ => some ds[i]?⟩
/-- the list number r, as it stands -/
def live (r n : Nat) : AIt := ⟨n, fun i h => match h[r]? with
  | some (.lst ds) => some ds[i]?
  | _ => none⟩
def signs (x : Str) : List D := x.cps.toList.map fun c => .str ⟨#[c]⟩
def iVal (m : EM) : IM := fun e h => match m e h with
  | .ok (.tup ds) h1 => .ok (stat ds) h1
  | .ok (.rol ds) h1 => .ok (stat ds) h1
  | .ok (.str x) h1 => .ok (stat (signs x)) h1
  | .ok (.ref r) h1 => (match h1[r]? with
    | some (.lst ds) => .ok (live r ds.length) h1
    | _ => .stuck)
  | .ok _ _ => .stuck
  | .exc c fs h1 => .exc c fs h1
  | .stuck => .stuck
/-- lo, lo + 1, .. (n of them) -/
def rg (lo : Int) (n : Nat) : List D := (List.range n).map fun i => .int (lo + (i : Nat))
noncomputable def iRange1 (l : LM) : IM := fun e h => match l e h with
  | .ok [.int j] h1 => if RgB j then .ok (stat (rg 0 j.toNat)) h1 else .stuck
  | .ok _ _ => .stuck
  | .exc c fs h1 => .exc c fs h1
  | .stuck => .stuck
noncomputable def iRange2 (l : LM) : IM := fun e h => match l e h with
  | .ok [.int i, .int j] h1 => if RgB2 i j then .ok (stat (rg i (j - i).toNat)) h1 else .stuck
  | .ok _ _ => .stuck
  | .exc c fs h1 => .exc c fs h1
  | .stuck => .stuck
/-- reversed(range(..)) -/
noncomputable def iRevRange1 (l : LM) : IM := fun e h => match l e h with
  | .ok [.int j] h1 => if RgB j then .ok (stat (rg 0 j.toNat).reverse) h1 else .stuck
  | .ok _ _ => .stuck
  | .exc c fs h1 => .exc c fs h1
  | .stuck => .stuck
section
variable {K : PySem.W.Frag} {ι : Nat → Addr} {n : Nat} {h : AH} {H : Hp} {ds : List D} {vs : List V} {a : Addr}
theorem itr_stat {J : It} (k : ∀ i ι' h' H', Ext ι n H ι' h'.length H' → Rel K ι' h' H' → (ds[i]? = none → J.stop i H') ∧ ∀ d, ds[i]? = some d → J.go i H' ∧ ∀ x H2, J.yld i H' x H2 → ∃ ι2, Ext ι' h'.length H' ι2 h'.length H2 ∧ Rel K ι2 h' H2 ∧ RD K ι2 h'.length H2 d x) : ItR K J (stat ds) ι n H := by
  intro i ι' h' H' x R
  obtain ⟨k1, k2⟩ := k i ι' h' H' x R
  exact ⟨fun e => k1 (by simpa [stat] using e), fun d e => k2 d (by simpa [stat] using e)⟩
theorem itr_tup (R0 : Rel K ι h H) (q : SqT K H a vs) (r : RDs K ι h.length H ds vs) : ItR K (Itt K a) (stat ds) ι h.length H := by
  refine itr_stat fun i ι' h' H' x R => ⟨fun e => ⟨vs, R0.sqT x q, by rw [← r.length]; exact List.getElem?_eq_none_iff.mp e⟩, fun d e => ?_⟩
  obtain ⟨v, ev, rv⟩ := r.get e
  refine ⟨⟨vs, v, R0.sqT x q, ev⟩, fun y H2 hy => ?_⟩
  obtain ⟨rfl, hy⟩ := hy
  have e2 := hy vs (R0.sqT x q)
  rw [ev] at e2; cases e2
  exact ⟨ι', .refl, R, rv.mono (x.grow R0)⟩
theorem itr_rol (R0 : Rel K ι h H) (q : RoL K H a vs) (r : RDs K ι h.length H ds vs) : ItR K (Itl K a) (stat ds) ι h.length H := by
  refine itr_stat fun i ι' h' H' x R => ⟨fun e => ⟨vs, (R0.roL x q).sq, by rw [← r.length]; exact List.getElem?_eq_none_iff.mp e⟩, fun d e => ?_⟩
  obtain ⟨v, ev, rv⟩ := r.get e
  refine ⟨⟨vs, v, (R0.roL x q).sq, ev⟩, fun y H2 hy => ?_⟩
  obtain ⟨rfl, hy⟩ := hy
  have e2 := hy vs (R0.roL x q).sq
  rw [ev] at e2; cases e2
  exact ⟨ι', .refl, R, rv.mono (x.grow R0)⟩
theorem itr_live {r m : Nat} (hr : r < n) : ItR K (Itl K (ι r)) (live r m) ι n H := by
  intro i ι' h' H' x R
  have eι := x.ag r hr
  unfold live
  dsimp only
  cases q : h'[r]? with
  | none => exact ⟨(fun z => nomatch z), (fun d z => nomatch z)⟩
  | some o =>
    cases o with
    | lst ds =>
      obtain ⟨vs, e1, rr⟩ := R.ob r _ q
      rw [eι] at e1
      refine ⟨fun e => ⟨vs, SqL.of e1, by rw [← rr.length]; exact List.getElem?_eq_none_iff.mp (Option.some.inj e)⟩, fun d e => ?_⟩
      obtain ⟨v, ev, rv⟩ := rr.get (Option.some.inj e)
      refine ⟨⟨vs, v, SqL.of e1, ev⟩, fun y H2 hy => ?_⟩
      obtain ⟨rfl, hy⟩ := hy
      have e2 := hy vs (SqL.of e1)
      rw [ev] at e2; cases e2
      exact ⟨ι', .refl, R, rv⟩
    | dK _ => exact ⟨(fun z => nomatch z), (fun d z => nomatch z)⟩
    | dT _ => exact ⟨(fun z => nomatch z), (fun d z => nomatch z)⟩
theorem itr_str {x : Str} : ItR K (Its x) (stat (signs x)) ι n H := by
  refine itr_stat fun i ι' h' H' y R => ?_
  unfold signs
  rw [List.getElem?_map, Array.getElem?_toList]
  refine ⟨fun e => ?_, fun d e => ?_⟩
  · cases q : x.cps[i]? with
    | none => exact Array.getElem?_eq_none_iff.mp q
    | some c => rw [q] at e; cases e
  · cases q : x.cps[i]? with
    | none => rw [q] at e; cases e
    | some c =>
      rw [q] at e
      cases e
      refine ⟨(Array.getElem?_eq_some_iff.mp q).1, fun z H2 hz => ?_⟩
      obtain ⟨rfl, c', ec, rfl⟩ := hz
      rw [q] at ec; cases ec
      exact ⟨ι', .refl, R, RD.str.mpr rfl⟩
theorem rg_get {lo : Int} {n i : Nat} : (rg lo n)[i]? = if i < n then some (.int (lo + (i : Nat))) else none := by
  unfold rg
  rw [List.getElem?_map]
  by_cases hi : i < n
  · rw [if_pos hi, List.getElem?_range hi]; rfl
  · rw [if_neg hi, List.getElem?_eq_none (by simpa using hi)]; rfl
theorem itr_range {lo : Int} {m : Nat} : ItR K (Itr lo m) (stat (rg lo m)) ι n H := by
  refine itr_stat fun i ι' h' H' y R => ?_
  rw [rg_get]
  by_cases hi : i < m
  · rw [if_pos hi]
    refine ⟨(fun z => nomatch z), fun d e => ?_⟩
    cases e
    refine ⟨hi, fun z H2 hz => ?_⟩
    obtain ⟨rfl, rfl⟩ := hz
    exact ⟨ι', .refl, R, RD.int.mpr rfl⟩
  · rw [if_neg hi]
    exact ⟨fun _ => Nat.not_lt.mp hi, (fun d z => nomatch z)⟩
theorem rg_length {lo : Int} {n : Nat} : (rg lo n).length = n := by unfold rg; simp
theorem itr_revRange {m : Nat} : ItR K (Itc ((m : Int) - 1) (-1) m) (stat (rg 0 m).reverse) ι n H := by
  refine itr_stat fun i ι' h' H' y R => ?_
  by_cases hi : i < m
  · rw [List.getElem?_reverse (by rw [rg_length]; exact hi), rg_length, rg_get, if_pos (by omega)]
    refine ⟨(fun z => nomatch z), fun d e => ?_⟩
    cases e
    refine ⟨hi, fun z H2 hz => ?_⟩
    obtain ⟨rfl, rfl⟩ := hz
    exact ⟨ι', .refl, R, RD.int.mpr (by congr 1; omega)⟩
  · rw [List.getElem?_eq_none (by rw [List.length_reverse, rg_length]; exact Nat.not_lt.mp hi)]
    exact ⟨fun _ => Nat.not_lt.mp hi, (fun d z => nomatch z)⟩
end
theorem PI.or {X : Cx} {tg e : Expr} {t u : TI} (h1 : PI X tg e t) (h2 : PI X tg e u) : PI X tg e (fun σ H R => t σ H R ∨ u σ H R) :=
  ⟨fun pins s σ H R I q => q.elim (h1.run pins s σ H R I) (h2.run pins s σ H R I)⟩
section
variable {C : Ct} {tg a b : Expr} {m : EM} {ml : LM} {p pos : Pos}
theorem PostI.here {ι : Nat → Addr} {n : Nat} {h' : AH} {H H' : Hp} {σ : List (Option V)} {it : AIt} {Q : It → Hp → Prop} {J : It} {ι' : Nat → Addr} (p : PostI C ι n H σ (.ok it h') Q) (x : Ext ι n H ι' h'.length H') (R : Rel C.X.K ι' h' H') (j : ItR C.X.K J it ι' h'.length H') : Q J H' := p ι' H' J x R j
theorem mi_val (ha : ME C a m) : MI C tg a (iVal m) := by
  obtain ⟨t, pa, sa⟩ := ha
  refine ⟨_, PI.or (pi_list pa) (PI.or (pi_tup pa) (pi_str pa)), ⟨fun env h σ H ι Q R V p => ?_⟩⟩
  unfold iVal at p
  cases hm : m env h with
  | exc c fs h1 =>
    rw [hm] at p
    exact .inl (sa.run env h σ H ι _ R V (by rw [hm]; exact p))
  | stuck => rw [hm] at p; exact p.elim
  | ok d h1 =>
    rw [hm] at p
    have ru : ∀ {Q' : VK}, (∀ ι' H' v, Ext ι h.length H ι' h1.length H' → Rel C.X.K ι' h1 H' → RD C.X.K ι' h1.length H' d v → Q' v H') → t σ H Q' := fun {Q'} k => sa.run env h σ H ι _ R V (by rw [hm]; exact k)
    cases d with
    | tup ds =>
      refine .inr (.inl (ru fun ι' H' v x R' r => ?_))
      obtain ⟨a, vs, rfl, s, rr⟩ := RD.tup.mp r
      exact ⟨a, rfl, ⟨vs, s⟩, p.here x R' (itr_tup R' s rr)⟩
    | rol ds =>
      refine .inl (ru fun ι' H' v x R' r => ?_)
      obtain ⟨a, vs, rfl, s, rr⟩ := RD.rol.mp r
      exact ⟨a, rfl, ⟨vs, s.sq⟩, p.here x R' (itr_rol R' s rr)⟩
    | str z =>
      refine .inr (.inr (ru fun ι' H' v x R' r => ?_))
      exact ⟨z, RD.str.mp r, p.here x R' itr_str⟩
    | ref r0 =>
      dsimp only at p
      cases q : h1[r0]? with
      | none => rw [q] at p; exact p.elim
      | some o =>
        rw [q] at p
        cases o with
        | lst ds =>
          refine .inl (ru fun ι' H' v x R' r => ?_)
          obtain ⟨vs, rfl, e1, rr⟩ := r.list R' q
          exact ⟨_, rfl, ⟨vs, SqL.of e1⟩, p.here x R' (itr_live (RD.ref.mp r).1)⟩
        | _ => exact (show False from p).elim
    | _ => exact (show False from p).elim
theorem SimL.int1 {t : TA} (s : SimL C t ml) {env : AE} {h : AH} {σ : List (Option V)} {H : Hp} {ι : Nat → Addr} {f : Int → AH → IR} {Q : It → Hp → Prop} {Q' : List V → Hp → Prop} (R : Rel C.X.K ι h H) (V : RV C ι h.length H env σ)
    (p : PostI C ι h.length H σ (match ml env h with | .ok [.int j] h1 => f j h1 | .ok _ _ => .stuck | .exc c fs h1 => .exc c fs h1 | .stuck => .stuck) Q)
    (k : ∀ j h1 ι' H', ml env h = .ok [.int j] h1 → Ext ι h.length H ι' h1.length H' → Rel C.X.K ι' h1 H' → PostI C ι h.length H σ (f j h1) Q → Q' [.int j] H') : t σ H Q' := by
  refine s.run env h σ H ι _ R V ?_
  cases hm : ml env h with
  | exc c fs h1 => rw [hm] at p; exact p
  | stuck => rw [hm] at p; exact p
  | ok ds h1 =>
    rw [hm] at p
    match ds, p with
    | [.int j], p =>
      refine fun ι' H' vs x R' r => ?_
      obtain ⟨v, r', rfl, q1, q2⟩ := RDs.cons.mp r
      cases RDs.nil.mp q2
      cases RD.int.mp q1
      exact k j h1 ι' H' hm x R' p
    | [], p => exact (show False from p).elim
    | .non :: _, p => exact (show False from p).elim
    | .bl _ :: _, p => exact (show False from p).elim
    | .str _ :: _, p => exact (show False from p).elim
    | .ty _ :: _, p => exact (show False from p).elim
    | .tup _ :: _, p => exact (show False from p).elim
    | .rol _ :: _, p => exact (show False from p).elim
    | .ref _ :: _, p => exact (show False from p).elim
    | .int _ :: _ :: _, p => exact (show False from p).elim
theorem mi_range1 (hm : C.X.mg "range" = none) (ha : MA C [a] ml) (hg : Gl C.X "range" := by rfl) (hs : starEach [a] C.X.env = [(false, eval a C.X.env)] := by rfl) : MI C tg (.Call (.Name "range" p) [a] [] pos) (iRange1 ml) := by
  obtain ⟨t, pa, sa⟩ := ha
  refine ⟨_, pi_range1 hg hm pa hs, ⟨fun env h σ H ι Q R V p => ?_⟩⟩
  refine sa.int1 (f := fun j h1 => if RgB j then .ok (stat (rg 0 j.toNat)) h1 else .stuck) R V (by unfold iRange1 at p; exact p) fun j h1 ι' H' hm x R' p => ?_
  by_cases hj : RgB j
  · rw [if_pos hj] at p
    exact ⟨j, rfl, hj.1, hj.2, p.here x R' itr_range⟩
  · rw [if_neg hj] at p; exact p.elim
theorem mi_range2 (hm : C.X.mg "range" = none) (ha : MA C [a, b] ml) (hg : Gl C.X "range" := by rfl) (hs : starEach [a, b] C.X.env = [(false, eval a C.X.env), (false, eval b C.X.env)] := by rfl) (hs2 : starEach [b] C.X.env = [(false, eval b C.X.env)] := by rfl) : MI C tg (.Call (.Name "range" p) [a, b] [] pos) (iRange2 ml) := by
  obtain ⟨t, pa, sa⟩ := ha
  refine ⟨_, pi_range2 hg hm pa hs hs2, ⟨fun env h σ H ι Q R V p => ?_⟩⟩
  refine sa.run env h σ H ι _ R V ?_
  unfold iRange2 at p
  cases hm : ml env h with
  | exc c fs h1 => rw [hm] at p; exact p
  | stuck => rw [hm] at p; exact p
  | ok ds h1 =>
    rw [hm] at p
    split at p
    · rename_i i j h1' e
      injection e with e1 e2
      subst e1 e2
      by_cases hj : RgB2 i j
      · rw [if_pos hj] at p
        refine fun ι' H' vs x R' r => ?_
        obtain ⟨v, r', rfl, q1, q2⟩ := RDs.cons.mp r
        obtain ⟨v2, r2, rfl, q3, q4⟩ := RDs.cons.mp q2
        cases RDs.nil.mp q4
        cases RD.int.mp q1
        cases RD.int.mp q3
        exact ⟨i, j, rfl, hj, p.here x R' itr_range⟩
      · rw [if_neg hj] at p; exact p.elim
    · exact p.elim
    · rename_i e; cases e
    · rename_i e; cases e
theorem mi_revRange1 {p2 pos2 : Pos} {ma : EM} (hmr : C.X.mg "reversed" = none) (hm : C.X.mg "range" = none) (ha : ME C a ma) (hgr : Gl C.X "reversed" := by rfl) (hg : Gl C.X "range" := by rfl) (na : starEach [a] C.X.env = (false, eval a C.X.env) :: starEach [] C.X.env := by rfl)
    (hs : starEach [.Call (.Name "range" p) [a] [] pos] C.X.env = (false, eval (.Call (.Name "range" p) [a] [] pos) C.X.env) :: starEach [] C.X.env := by rfl) : MI C tg (.Call (.Name "reversed" p2) [.Call (.Name "range" p) [a] [] pos] [] pos2) (iRevRange1 (lCons ma lNil)) := by
  obtain ⟨t, pa, sa⟩ := ha
  refine ⟨_, pi_revR hgr hmr (prg_1 hg hm pa na) hs, ⟨fun env h σ H ι Q R V p => ?_⟩⟩
  refine sa.run env h σ H ι _ R V ?_
  unfold iRevRange1 lCons lNil at p
  cases hm : ma env h with
  | exc c fs h1 => rw [hm] at p; exact p
  | stuck => rw [hm] at p; exact p
  | ok d h1 =>
    rw [hm] at p
    dsimp only at p
    cases d with
    | int j =>
      dsimp only at p
      by_cases hj : RgB j
      · rw [if_pos hj] at p
        refine fun ι' H' v x R' r => ⟨j, RD.int.mp r, by omega, by omega, hj.1, hj.2, ?_⟩
        have e : (0 : Int) + (((j - 0).toNat : Nat) : Int) - 1 = ((j.toNat : Nat) : Int) - 1 := by rw [Int.sub_zero]; omega
        have e2 : (j - 0).toNat = j.toNat := by rw [Int.sub_zero]
        rw [e, e2]
        exact p.here x R' itr_revRange
      · rw [if_neg hj] at p; exact p.elim
    | _ => exact (show False from p).elim
end

/-! ### displays -/
noncomputable def eTup (l : LM) : EM := fun env h => (l env h).then fun ds h1 => if Fits (ds.length) then .ok (.tup ds) h1 else .stuck
noncomputable def eLst (l : LM) : EM := fun env h => (l env h).then fun ds h1 => if Fits (ds.length) then .ok (.ref h1.length) (h1 ++ [.lst ds]) else .stuck
section
variable {C : Ct} {es : List Expr} {ml : LM} {pos : Pos}
theorem SimL.then {t : TA} (s : SimL C t ml) {env : AE} {h : AH} {σ : List (Option V)} {H : Hp} {ι : Nat → Addr} {f : List D → AH → ER} {Q : VK} {Q' : List V → Hp → Prop} (R : Rel C.X.K ι h H) (V : RV C ι h.length H env σ)
    (p : PostE C ι h.length H σ ((ml env h).then f) Q)
    (k : ∀ ds h1 ι' H' vs, Ext ι h.length H ι' h1.length H' → Rel C.X.K ι' h1 H' → RV C ι' h1.length H' env σ → RDs C.X.K ι' h1.length H' ds vs → PostE C ι' h1.length H' σ (f ds h1) Q → Q' vs H') : t σ H Q' := by
  refine s.run env h σ H ι _ R V ?_
  cases hm : ml env h with
  | exc c fs h1 => rw [hm] at p; exact p
  | stuck => rw [hm] at p; exact p
  | ok ds h1 =>
    rw [hm] at p
    exact fun ι' H' vs x R' r => k ds h1 ι' H' vs x R' (V.ext R x) r (PostE.shift p x)
theorem me_tup {x1 : Nat} (ha : MA C es ml) : ME C (.Tuple es x1 pos) (eTup ml) := by
  obtain ⟨t, pa, sa⟩ := ha
  refine ⟨_, pe_tup pa, ⟨fun env h σ H ι Q R V p => ?_⟩⟩
  refine sa.then R V p fun ds h1 ι' H' vs x R' V' r p => ?_
  by_cases hl : Fits ds.length
  · rw [if_pos hl] at p
    exact ⟨by rw [← r.length]; exact hl, fun a ha => p.tup R' r ha⟩
  · rw [if_neg hl] at p; exact p.elim
theorem me_lst (ha : MA C es ml) : ME C (.List es pos) (eLst ml) := by
  obtain ⟨t, pa, sa⟩ := ha
  refine ⟨_, pe_lst pa, ⟨fun env h σ H ι Q R V p => ?_⟩⟩
  refine sa.then R V p fun ds h1 ι' H' vs x R' V' r p => ?_
  by_cases hl : Fits ds.length
  · rw [if_pos hl] at p
    exact ⟨by rw [← r.length]; exact hl, fun a ha => p.lst R' r ha⟩
  · rw [if_neg hl] at p; exact p.elim
end

/-! ### built-in functions, by values -/
noncomputable def cLen (ds : List D) (h : AH) : ER := match ds with
  | [.str x] => if Fits (x.length) then .ok (.int x.length) h else .stuck
  | [.ref i] => (match h[i]? with
    | some (.lst es) => .ok (.int es.length) h
    | some (.dK kvs) => .ok (.int kvs.length) h
    | _ => .stuck)
  | [.tup es] => .ok (.int es.length) h
  | [.rol es] => .ok (.int es.length) h
  | _ => .stuck
def cMax2 (ds : List D) (h : AH) : ER := match ds with
  | [.int i, .int j] => .ok (.int (if j > i then j else i)) h
  | _ => .stuck
def cMin2 (ds : List D) (h : AH) : ER := match ds with
  | [.int i, .int j] => .ok (.int (if j < i then j else i)) h
  | _ => .stuck
def cAbs (ds : List D) (h : AH) : ER := match ds with
  | [.int i] => .ok (.int (if i < 0 then -i else i)) h
  | _ => .stuck
def cInt (ds : List D) (h : AH) : ER := match ds with
  | [.int i] => .ok (.int i) h
  | [.bl b] => .ok (.int (if b then 1 else 0)) h
  | _ => .stuck
def cSum (ds : List D) (h : AH) : ER := match ds with
  | [d] => (match listOf h d with
    | some es => (match intsOf es with
      | some ns => .ok (.int ns.sum) h
      | none => .stuck)
    | none => .stuck)
  | _ => .stuck
def cAny (ds : List D) (h : AH) : ER := match ds with
  | [d] => (match listOf h d with
    | some es => (match blsOf es with
      | some ns => .ok (.bl (ns.any id)) h
      | none => .stuck)
    | none => .stuck)
  | _ => .stuck
def cAll (ds : List D) (h : AH) : ER := match ds with
  | [d] => (match listOf h d with
    | some es => (match blsOf es with
      | some ns => .ok (.bl (ns.all id)) h
      | none => .stuck)
    | none => .stuck)
  | _ => .stuck
/-- list(row) -/
def cList (ds : List D) (h : AH) : ER := match ds with
  | [d] => (match seqOf h d with
    | some es => .ok (.ref h.length) (h ++ [.lst es])
    | none => .stuck)
  | _ => .stuck
def cTuple (ds : List D) (h : AH) : ER := match ds with
  | [d] => (match seqOf h d with
    | some es => .ok (.tup es) h
    | none => .stuck)
  | _ => .stuck
/-- the types of data -/
def D.tyn (h : AH) : D → Option String
  | .non => some "NoneType"
  | .bl _ => some "bool"
  | .int _ => some "int"
  | .str _ => some "str"
  | .tup _ => some "tuple"
  | .rol _ => some "list"
  | .ref i => (match h[i]? with
    | some (.lst _) => some "list"
    | some (.dK _) => some "dict"
    | some (.dT _) => some "dict"
    | none => none)
  | .ty _ => none
/-- is a value of type a one of type b -/
def isTy (a b : String) : Bool := a == b || (a == "bool" && b == "int")
def tyNames : List String := ["NoneType", "bool", "int", "str", "tuple", "list", "dict"]
def askTys : List String := ["bool", "int", "str", "tuple", "list", "dict"]
theorem kit_all : ∀ a ∈ tyNames, ∀ b ∈ askTys, kitB a b = some (isTy a b) := by decide +kernel
def cIsi (ds : List D) (h : AH) : ER := match ds with
  | [d, .ty n] => (match d.tyn h with
    | some t => if n ∈ askTys then .ok (.bl (isTy t n)) h else .stuck
    | none => .stuck)
  | _ => .stuck
section
variable {C : Ct}
theorem cs_len : CallS C (fun xs H Q => ∃ x n, xs = [x] ∧ LenV C.X.K x H n ∧ Q (.int n) H) cLen ∨ True := .inr trivial
theorem RDs.one {K : PySem.W.Frag} {ι : Nat → Addr} {n : Nat} {H : Hp} {d : D} {vs : List V} (r : RDs K ι n H [d] vs) : ∃ v, vs = [v] ∧ RD K ι n H d v := by
  obtain ⟨v, r', rfl, q1, q2⟩ := RDs.cons.mp r
  cases RDs.nil.mp q2
  exact ⟨v, rfl, q1⟩
theorem RDs.two {K : PySem.W.Frag} {ι : Nat → Addr} {n : Nat} {H : Hp} {d e : D} {vs : List V} (r : RDs K ι n H [d, e] vs) : ∃ v w, vs = [v, w] ∧ RD K ι n H d v ∧ RD K ι n H e w := by
  obtain ⟨v, r', rfl, q1, q2⟩ := RDs.cons.mp r
  obtain ⟨w, rfl, q3⟩ := q2.one
  exact ⟨v, w, rfl, q1, q3⟩
abbrev rLenAll (X : Cx) : List V → Hp → VK → Prop := fun xs H Q => (∃ p ys, xs = [.ref p] ∧ (SqL X.K H p ys ∨ SqT X.K H p ys) ∧ Q (.int ys.length) H) ∨ (∃ z, xs = [.str z] ∧ z.length ≤ sizeLine ∧ Q (.int z.length) H) ∨ (∃ a kvs, xs = [V.ref a] ∧ H a = some (.dK kvs) ∧ Q (.int kvs.length) H)
theorem cl_len {X : Cx} : CallR X (.builtin "len") (rLenAll X) := call_len_seq.or (call_len_str.or call_lenD)
theorem cs_lenAll : CallS C (rLenAll C.X) cLen := by
  intro ι h H σ xs ds Q R r p
  unfold cLen at p
  split at p
  · split at p
    · rename_i hl
      obtain ⟨v, rfl, q⟩ := r.one
      exact .inr (.inl ⟨_, by rw [RD.str.mp q], hl, p.here R (RD.int.mpr rfl)⟩)
    · exact p.elim
  · obtain ⟨v, rfl, q⟩ := r.one
    split at p
    · rename_i es e
      obtain ⟨vs, rfl, e1, rr⟩ := q.list R e
      exact .inl ⟨_, vs, rfl, .inl (SqL.of e1), p.here R (RD.int.mpr (by rw [rr.length]))⟩
    · rename_i i kvs e
      obtain ⟨_, rfl⟩ := RD.ref.mp q
      obtain ⟨ws, e1, k, rr⟩ := R.ob _ _ e
      have : kvs.length = ws.length := by simpa using congrArg List.length k
      exact .inr (.inr ⟨_, ws, rfl, e1, p.here R (RD.int.mpr (by rw [this]))⟩)
    · exact p.elim
  · obtain ⟨v, rfl, q⟩ := r.one
    obtain ⟨a, vs, rfl, s, rr⟩ := RD.tup.mp q
    exact .inl ⟨_, vs, rfl, .inr s, p.here R (RD.int.mpr (by rw [rr.length]))⟩
  · obtain ⟨v, rfl, q⟩ := r.one
    obtain ⟨a, vs, rfl, s, rr⟩ := RD.rol.mp q
    exact .inl ⟨_, vs, rfl, .inl s.sq, p.here R (RD.int.mpr (by rw [rr.length]))⟩
  · exact p.elim
theorem cs_max2 : CallS C (fun xs H Q => ∃ i j, xs = [.int i, .int j] ∧ Q (.int (if j > i then j else i)) H) cMax2 := by
  intro ι h H σ xs ds Q R r p
  unfold cMax2 at p
  split at p
  · rename_i i j
    obtain ⟨v, w, rfl, q1, q2⟩ := r.two
    exact ⟨i, j, by rw [RD.int.mp q1, RD.int.mp q2], p.here R (RD.int.mpr rfl)⟩
  · exact p.elim
theorem cs_min2 : CallS C (fun xs H Q => ∃ i j, xs = [.int i, .int j] ∧ Q (.int (if j < i then j else i)) H) cMin2 := by
  intro ι h H σ xs ds Q R r p
  unfold cMin2 at p
  split at p
  · rename_i i j
    obtain ⟨v, w, rfl, q1, q2⟩ := r.two
    exact ⟨i, j, by rw [RD.int.mp q1, RD.int.mp q2], p.here R (RD.int.mpr rfl)⟩
  · exact p.elim
theorem cs_abs : CallS C (fun xs H Q => ∃ i, xs = [.int i] ∧ Q (.int (if i < 0 then -i else i)) H) cAbs := by
  intro ι h H σ xs ds Q R r p
  unfold cAbs at p
  split at p
  · rename_i i
    obtain ⟨v, rfl, q1⟩ := r.one
    exact ⟨i, by rw [RD.int.mp q1], p.here R (RD.int.mpr rfl)⟩
  · exact p.elim
theorem cs_int : CallS C (fun xs H Q => (∃ i, xs = [.int i] ∧ Q (.int i) H) ∨ ∃ k, xs = [.bl k] ∧ Q (.int (if k then 1 else 0)) H) cInt := by
  intro ι h H σ xs ds Q R r p
  unfold cInt at p
  split at p
  · rename_i i
    obtain ⟨v, rfl, q1⟩ := r.one
    exact .inl ⟨i, by rw [RD.int.mp q1], p.here R (RD.int.mpr rfl)⟩
  · rename_i i
    obtain ⟨v, rfl, q1⟩ := r.one
    exact .inr ⟨i, by rw [RD.bl.mp q1], p.here R (RD.int.mpr rfl)⟩
  · exact p.elim
theorem cs_sum : CallS C (rSum C.X.K) cSum := by
  intro ι h H σ xs ds Q R r p
  unfold cSum at p
  split at p
  · rename_i d
    obtain ⟨v, rfl, q1⟩ := r.one
    split at p
    · rename_i es e
      split at p
      · rename_i ns e2
        obtain ⟨a, vs, rfl, s, rr⟩ := listOf_sq R q1 e
        rw [intsOf_eq e2] at rr
        rw [rr.ints] at s
        exact ⟨a, ns, rfl, s, p.here R (RD.int.mpr rfl)⟩
      · exact p.elim
    · exact p.elim
  · exact p.elim
theorem cs_any : CallS C (rAny C.X.K) cAny := by
  intro ι h H σ xs ds Q R r p
  unfold cAny at p
  split at p
  · rename_i d
    obtain ⟨v, rfl, q1⟩ := r.one
    split at p
    · rename_i es e
      split at p
      · rename_i ns e2
        obtain ⟨a, vs, rfl, s, rr⟩ := listOf_sq R q1 e
        rw [blsOf_eq e2] at rr
        rw [rr.bls] at s
        exact ⟨a, ns, rfl, s, p.here R (RD.bl.mpr rfl)⟩
      · exact p.elim
    · exact p.elim
  · exact p.elim
theorem cs_all : CallS C (rAll C.X.K) cAll := by
  intro ι h H σ xs ds Q R r p
  unfold cAll at p
  split at p
  · rename_i d
    obtain ⟨v, rfl, q1⟩ := r.one
    split at p
    · rename_i es e
      split at p
      · rename_i ns e2
        obtain ⟨a, vs, rfl, s, rr⟩ := listOf_sq R q1 e
        rw [blsOf_eq e2] at rr
        rw [rr.bls] at s
        exact ⟨a, ns, rfl, s, p.here R (RD.bl.mpr rfl)⟩
      · exact p.elim
    · exact p.elim
  · exact p.elim
theorem cs_list : CallS C (fun xs H Q => ∃ p ys, xs = [.ref p] ∧ (SqL C.X.K H p ys ∨ SqT C.X.K H p ys) ∧ ∀ l, H l = none → Q (.ref l) (upd H l (.lst ys))) cList := by
  intro ι h H σ xs ds Q R r p
  unfold cList at p
  split at p
  · rename_i d
    obtain ⟨v, rfl, q1⟩ := r.one
    split at p
    · rename_i es e
      obtain ⟨a, vs, rfl, s, rr⟩ := seqOf_sq R q1 e
      exact ⟨a, vs, rfl, s, fun l hl => p.lst R rr hl⟩
    · exact p.elim
  · exact p.elim
theorem cs_tuple : CallS C (fun xs H Q => ∃ p ys, xs = [.ref p] ∧ ((SqL C.X.K H p ys ∧ ∀ l, H l = none → Q (.ref l) (upd H l (.tup ys))) ∨ (SqT C.X.K H p ys ∧ Q (.ref p) H))) cTuple := by
  intro ι h H σ xs ds Q R r p
  unfold cTuple at p
  split at p
  · rename_i d
    obtain ⟨v, rfl, q1⟩ := r.one
    split at p
    · rename_i es e
      cases d with
      | tup fs =>
        cases e
        obtain ⟨a, vs, rfl, s, rr⟩ := RD.tup.mp q1
        exact ⟨a, vs, rfl, .inr ⟨s, p.here R q1⟩⟩
      | rol fs =>
        cases e
        obtain ⟨a, vs, rfl, s, rr⟩ := RD.rol.mp q1
        exact ⟨a, vs, rfl, .inl ⟨s.sq, fun l hl => p.tup R rr hl⟩⟩
      | ref i =>
        have e' : listOf h (.ref i) = some es := e
        obtain ⟨a, vs, rfl, s, rr⟩ := listOf_sq R q1 e'
        exact ⟨a, vs, rfl, .inl ⟨s, fun l hl => p.tup R rr hl⟩⟩
      | _ => cases e
    · exact p.elim
  · exact p.elim
theorem tyn_mem {h : AH} {d : D} {t : String} (e : d.tyn h = some t) : t ∈ tyNames := by
  cases d with
  | ref i =>
    simp only [D.tyn] at e
    cases q : h[i]? with
    | none => rw [q] at e; cases e
    | some o => rw [q] at e; cases o <;> (cases e; decide)
  | ty n => cases e
  | _ => cases e; decide
theorem tyn_tyx {K : PySem.W.Frag} {ι : Nat → Addr} {h : AH} {H : Hp} {d : D} {v : V} {t : String} (R : Rel K ι h H) (r : RD K ι h.length H d v) (e : d.tyn h = some t) : TyX K H v (.type t) := by
  cases d with
  | non => cases e; rw [RD.non.mp r]; exact .base .non
  | bl b => cases e; rw [RD.bl.mp r]; exact .base (.bl b)
  | int b => cases e; rw [RD.int.mp r]; exact .base (.int b)
  | str b => cases e; rw [RD.str.mp r]; exact .base (.str b)
  | ty n => cases e
  | tup ds =>
    cases e
    obtain ⟨a, vs, rfl, s, rr⟩ := RD.tup.mp r
    rcases s with (s | ⟨o, s⟩) | ⟨o, its, n, hk, hc, _⟩
    · exact .base (.tup s)
    · exact .fTuple s
    · exact .kTuple hk hc
  | rol ds =>
    cases e
    obtain ⟨a, vs, rfl, s, rr⟩ := RD.rol.mp r
    rcases s with ⟨o, s⟩ | ⟨o, its, n, hk, hc, _⟩
    · exact .base (.frz s)
    · exact .kList hk hc
  | ref i =>
    simp only [D.tyn] at e
    obtain ⟨_, rfl⟩ := RD.ref.mp r
    cases q : h[i]? with
    | none => rw [q] at e; cases e
    | some o =>
      rw [q] at e
      have ro := R.ob i o q
      cases o with
      | lst ds => cases e; obtain ⟨vs, e1, _⟩ := ro; exact .base (.lst e1)
      | dK ds => cases e; obtain ⟨vs, e1, _⟩ := ro; exact .base (.dK e1)
      | dT ds => cases e; obtain ⟨vs, e1, _⟩ := ro; exact .base (.dT e1)
theorem cs_isi : CallS C (rIsi C.X.K) cIsi := by
  intro ι h H σ xs ds Q R r p
  unfold cIsi at p
  split at p
  · rename_i d n
    obtain ⟨v, w, rfl, q1, q2⟩ := r.two
    split at p
    · rename_i t e
      split at p
      · rename_i hn
        exact ⟨v, w, .type t, .type n, isTy t n, rfl, by rw [RD.ty.mp q2]; exact .ty n, tyn_tyx R q1 e, kit_ty (kit_all t (tyn_mem e) n hn), p.here R (RD.bl.mpr rfl)⟩
      · exact p.elim
    · exact p.elim
  · exact p.elim
end

/-! ### list(range(..)), tuple(range(..)) -/
noncomputable instance {a b : Int} : Decidable (RgOk a b) := Classical.propDecidable _
noncomputable def eRg1 (tp : Bool) (m : EM) : EM := fun env h => (m env h).then fun d h1 => match d with
  | .int j => if RgOk 0 j then (if tp then .ok (.tup (rg 0 j.toNat)) h1 else .ok (.ref h1.length) (h1 ++ [.lst (rg 0 j.toNat)])) else .stuck
  | _ => .stuck
section
variable {C : Ct} {a : Expr} {ma : EM} {p pos p2 pos2 : Pos}
theorem rds_rg {K : PySem.W.Frag} {ι : Nat → Addr} {n : Nat} {H : Hp} {j : Int} : RDs K ι n H (rg 0 j.toNat) (rgV 0 j) := by
  unfold rg rgV
  rw [Int.sub_zero]
  generalize j.toNat = m
  have : ∀ l : List Nat, RDs K ι n H (l.map fun (i : Nat) => D.int (0 + (i : Nat))) (l.map fun (i : Nat) => V.int (0 + (i : Nat))) := by
    intro l
    induction l with
    | nil => exact RDs.nil'
    | cons x l ih => exact RDs.cons' (RD.int.mpr rfl) ih
  exact this _
theorem me_listRg1 (hc : C.X.calm = true) (hml : C.X.mg "list" = none) (hm : C.X.mg "range" = none) (ha : ME C a ma) (hgl : Gl C.X "list" := by rfl) (hg : Gl C.X "range" := by rfl) (na : starEach [a] C.X.env = (false, eval a C.X.env) :: starEach [] C.X.env := by rfl)
    (hs : starEach [.Call (.Name "range" p) [a] [] pos] C.X.env = (false, eval (.Call (.Name "range" p) [a] [] pos) C.X.env) :: starEach [] C.X.env := by rfl) : ME C (.Call (.Name "list" p2) [.Call (.Name "range" p) [a] [] pos] [] pos2) (eRg1 false ma) := by
  obtain ⟨t, pa, sa⟩ := ha
  refine ⟨_, pe_listRg hc hgl hml (prg_1 hg hm pa na) hs, ⟨fun env h σ H ι Q R V p => ?_⟩⟩
  refine sa.then R V p fun d h1 ι1 H1 v x1 R1 V1 r1 p1 => ?_
  cases d with
  | int j =>
    dsimp only at p1
    by_cases hj : RgOk 0 j
    · rw [if_pos hj] at p1
      exact ⟨j, RD.int.mp r1, hj, fun q hq => p1.lst R1 rds_rg hq⟩
    · rw [if_neg hj] at p1; exact p1.elim
  | _ => exact (show False from p1).elim
theorem me_tupRg1 (hc : C.X.calm = true) (hml : C.X.mg "tuple" = none) (hm : C.X.mg "range" = none) (ha : ME C a ma) (hgl : Gl C.X "tuple" := by rfl) (hg : Gl C.X "range" := by rfl) (na : starEach [a] C.X.env = (false, eval a C.X.env) :: starEach [] C.X.env := by rfl)
    (hs : starEach [.Call (.Name "range" p) [a] [] pos] C.X.env = (false, eval (.Call (.Name "range" p) [a] [] pos) C.X.env) :: starEach [] C.X.env := by rfl) : ME C (.Call (.Name "tuple" p2) [.Call (.Name "range" p) [a] [] pos] [] pos2) (eRg1 true ma) := by
  obtain ⟨t, pa, sa⟩ := ha
  refine ⟨_, pe_tupRg hc hgl hml (prg_1 hg hm pa na) hs, ⟨fun env h σ H ι Q R V p => ?_⟩⟩
  refine sa.then R V p fun d h1 ι1 H1 v x1 R1 V1 r1 p1 => ?_
  cases d with
  | int j =>
    dsimp only at p1
    by_cases hj : RgOk 0 j
    · rw [if_pos hj] at p1
      exact ⟨j, RD.int.mp r1, hj, fun q hq => p1.tup R1 rds_rg hq⟩
    · rw [if_neg hj] at p1; exact p1.elim
  | _ => exact (show False from p1).elim
end

/-! ### methods, stores -/
def MtS (C : Ct) (r : V → List V → Hp → VK → Prop) (g : D → List D → AH → ER) : Prop := ∀ (ι : Nat → Addr) (h : AH) (H : Hp) (σ : List (Option V)) (x : V) (xs : List V) (d : D) (ds : List D) (Q : VK), Rel C.X.K ι h H → RD C.X.K ι h.length H d x → RDs C.X.K ι h.length H ds xs → PostE C ι h.length H σ (g d ds h) Q → r x xs H Q
/-- of a type, asked for its method -/
def tyOk (h : AH) (T : String) (d : D) : Bool := match d with
  | .str _ => T == "str"
  | .int _ => T == "int"
  | .rol _ => T == "list"
  | .ref i => (match h[i]? with
    | some (.lst _) => T == "list"
    | some (.dK _) => T == "dict"
    | some (.dT _) => T == "dict"
    | none => false)
  | _ => false
theorem tyOk_v {K : PySem.W.Frag} {ι : Nat → Addr} {h : AH} {H : Hp} {d : D} {v : V} {T : String} (R : Rel K ι h H) (r : RD K ι h.length H d v) (e : tyOk h T d = true) : tyV K T v H := by
  cases d with
  | str x => rw [RD.str.mp r]; exact beq_iff_eq.mp e
  | int x => rw [RD.int.mp r]; exact beq_iff_eq.mp e
  | rol ds =>
    obtain ⟨a, vs, rfl, s, _⟩ := RD.rol.mp r
    exact .inl ⟨beq_iff_eq.mp e, vs, s.sq⟩
  | ref i =>
    obtain ⟨_, rfl⟩ := RD.ref.mp r
    simp only [tyOk] at e
    cases q : h[i]? with
    | none => rw [q] at e; cases e
    | some o =>
      rw [q] at e
      have ro := R.ob i o q
      cases o with
      | lst ds => obtain ⟨vs, e1, _⟩ := ro; exact .inl ⟨beq_iff_eq.mp e, vs, SqL.of e1⟩
      | dK ds => obtain ⟨vs, e1, _⟩ := ro; exact .inr (.inr (.inl ⟨beq_iff_eq.mp e, .inl ⟨vs, e1⟩⟩))
      | dT ds => obtain ⟨vs, e1, _⟩ := ro; exact .inr (.inr (.inl ⟨beq_iff_eq.mp e, .inr ⟨vs, e1⟩⟩))
  | _ => cases e
def eMeth (T : String) (g : D → List D → AH → ER) (o : EM) (l : LM) : EM := fun env h => (o env h).then fun d h1 => if tyOk h1 T d then (l env h1).then fun ds h2 => g d ds h2 else .stuck
section
variable {C : Ct} {o e : Expr} {es : List Expr} {mo : EM} {ml : LM} {name : Str} {apos cpos : Pos} {T id : String} {r : V → List V → Hp → VK → Prop} {g : D → List D → AH → ER}
theorem me_meth0 (pa : PlainAttrs T) (slot : Slot T name id) (hty : typeOf (.builtin id) = pure (.type "method_descriptor")) (hm : MtR C.X id r) (hs : MtS C r g) (ho : ME C o mo)
    (hbase : attributeBase o name C.X.env (eval o C.X.env) = eval o C.X.env := by rfl) (hline : (apos.endLine == cpos.line) = true := by rfl) : ME C (.Call (.Attribute o name apos) [] [] cpos) (eMeth T g mo lNil) := by
  obtain ⟨t, p, s⟩ := ho
  refine ⟨_, pe_bm0 pa slot hty hm p hbase hline, ⟨fun env h σ H ι Q R V p => ?_⟩⟩
  refine s.then R V p fun d h1 ι1 H1 v x1 R1 V1 r1 p1 => ?_
  by_cases ht : tyOk h1 T d = true
  · rw [if_pos ht] at p1
    exact ⟨tyOk_v R1 r1 ht, hs ι1 h1 H1 σ v [] d [] Q R1 r1 RDs.nil' p1⟩
  · rw [if_neg ht] at p1; exact p1.elim
theorem me_meth (pa : PlainAttrs T) (slot : Slot T name id) (hty : typeOf (.builtin id) = pure (.type "method_descriptor")) (hm : MtR C.X id r) (hs : MtS C r g) (ho : ME C o mo) (ha : MA C (e :: es) ml)
    (hbase : attributeBase o name C.X.env (eval o C.X.env) = eval o C.X.env := by rfl)
    (hfew : ((backTo cpos (starEach (e :: es) C.X.env)).all (fun x => !x.1) && (backToKw cpos (keywordEach [] C.X.env)).all (fun x => x.1.isSome)
      && decide ((e :: es).length + ([] : List Keyword).length + (if ([] : List Keyword).isEmpty then 0 else 1) < 30)) = true := by rfl)
    (hline : (apos.endLine == cpos.line) = true := by rfl) (hst : starEach (e :: es) C.X.env = (false, eval e C.X.env) :: starEach es C.X.env := by rfl) (hplain : (backTo cpos (starEach es C.X.env)).any (·.1) = false := by rfl) :
    ME C (.Call (.Attribute o name apos) (e :: es) [] cpos) (eMeth T g mo ml) := by
  obtain ⟨t, p, s⟩ := ho
  obtain ⟨tl, pl, sl⟩ := ha
  refine ⟨_, pe_bm pa slot hty hm p pl hbase hfew hline hst hplain, ⟨fun env h σ H ι Q R V p => ?_⟩⟩
  refine s.then R V p fun d h1 ι1 H1 v x1 R1 V1 r1 p1 => ?_
  by_cases ht : tyOk h1 T d = true
  · rw [if_pos ht] at p1
    refine ⟨tyOk_v R1 r1 ht, ?_⟩
    refine sl.then R1 V1 p1 fun ds h2 ι2 H2 vs x2 R2 V2 r2 p2 => ?_
    exact hs ι2 h2 H2 σ v vs d ds Q R2 (r1.mono (x2.grow R1)) r2 p2
  · rw [if_neg ht] at p1; exact p1.elim
theorem PostE.put {ι : Nat → Addr} {h : AH} {H : Hp} {σ : List (Option V)} {Q : VK} {i : Nat} {ds : List D} {vs : List V} {d : D} {v : V} (p : PostE C ι h.length H σ (.ok d (h.set i (.lst ds))) Q) (R : Rel C.X.K ι h H) (hi : i < h.length) (r : RDs C.X.K ι h.length H ds vs)
    (rd : RD C.X.K ι h.length H d v) : Q v (upd H (ι i) (.lst vs)) := by
  have x : Ext ι h.length H ι h.length (upd H (ι i) (.lst vs)) := Ext.put R hi
  refine p ι _ v (by rw [List.length_set]; exact x) (R.put hi fun x => ⟨vs, upd_same, r.mono (x.grow R)⟩) ?_
  rw [List.length_set]
  exact rd.mono (x.grow R)
end
noncomputable def mAppend (d : D) (ds : List D) (h : AH) : ER := match d, ds with
  | .ref i, [y] => (match h[i]? with
    | some (.lst xs) => if FitsL xs.length then .ok .non (h.set i (.lst (xs ++ [y]))) else .stuck
    | _ => .stuck)
  | _, _ => .stuck
def mPop (d : D) (ds : List D) (h : AH) : ER := match d, ds with
  | .ref i, [] => (match h[i]? with
    | some (.lst xs) => (match xs[xs.length - 1]? with
      | some y => .ok y (h.set i (.lst xs.dropLast))
      | none => .stuck)
    | _ => .stuck)
  | _, _ => .stuck
noncomputable def mPopAt (d : D) (ds : List D) (h : AH) : ER := match d, ds with
  | .ref i, [.int j] => (match h[i]? with
    | some (.lst xs) => (match L2.ixN xs.length j with
      | some k => (match xs[k]? with
        | some y => if Fits xs.length then .ok y (h.set i (.lst (xs.eraseIdx k))) else .stuck
        | none => .stuck)
      | none => .stuck)
    | _ => .stuck)
  | _, _ => .stuck
noncomputable def mExtend (d : D) (ds : List D) (h : AH) : ER := match d, ds with
  | .ref i, [.ref j] => (match h[i]?, h[j]? with
    | some (.lst xs), some (.lst ys) => if Fits (xs.length + ys.length) then .ok .non (h.set i (.lst (xs ++ ys))) else .stuck
    | _, _ => .stuck)
  | _, _ => .stuck
/-- the first place of p -/
def firstAt (p : PyData) : List PyData → Option Nat
  | [] => none
  | q :: r => if PyData.eqv q p then some 0 else (firstAt p r).map (· + 1)
theorem firstAt_spec {p : PyData} : ∀ {l : List PyData} {j : Nat}, firstAt p l = some j → ∃ z, l[j]? = some z ∧ PyData.eqv z p = true ∧ ∀ m z', m < j → l[m]? = some z' → PyData.eqv z' p = false
  | [], j, e => by cases e
  | q :: r, j, e => by
    unfold firstAt at e
    split at e
    · rename_i hq
      cases e
      exact ⟨q, rfl, hq, fun m z' hm => absurd hm (Nat.not_lt_zero m)⟩
    · rename_i hq
      cases q2 : firstAt p r with
      | none => rw [q2] at e; cases e
      | some k =>
        rw [q2] at e
        cases e
        obtain ⟨z, h1, h2, h3⟩ := firstAt_spec q2
        refine ⟨z, by simpa using h1, h2, fun m z' hm e' => ?_⟩
        cases m with
        | zero => simp at e'; subst e'; simpa using hq
        | succ m => exact h3 m z' (Nat.lt_of_succ_lt_succ hm) (by simpa using e')
def mIndex (d : D) (ds : List D) (h : AH) : ER := match d, ds with
  | .ref i, [y] => (match (D.ref i).toP h 20, y.toP h 20 with
    | some (.list ps), some p => (match firstAt p ps with
      | some j => .ok (.int (j : Nat)) h
      | none => .stuck)
    | _, _ => .stuck)
  | _, _ => .stuck
section
variable {C : Ct}
theorem ms_append : MtS C rAppend mAppend := by
  intro ι h H σ x xs d ds Q R r rs p
  unfold mAppend at p
  split at p
  · rename_i i y
    split at p
    · rename_i es e
      split at p
      · rename_i hl
        obtain ⟨vs, rfl, e1, rr⟩ := r.list R e
        obtain ⟨w, rfl, q⟩ := rs.one
        exact ⟨_, vs, w, rfl, rfl, e1, by rw [← rr.length]; exact hl, p.put R (RD.ref.mp r).1 (rr.append (RDs.cons' q RDs.nil')) (RD.non.mpr rfl)⟩
      · exact p.elim
    · exact p.elim
  · exact p.elim
theorem ms_pop : MtS C rPop mPop := by
  intro ι h H σ x xs d ds Q R r rs p
  unfold mPop at p
  split at p
  · rename_i i
    split at p
    · rename_i es e
      split at p
      · rename_i y ey
        obtain ⟨vs, rfl, e1, rr⟩ := r.list R e
        cases RDs.nil.mp rs
        obtain ⟨w, ew, rw_⟩ := rr.get ey
        exact ⟨_, vs, w, rfl, rfl, e1, by rw [← rr.length]; exact ew, p.put R (RD.ref.mp r).1 rr.dropLast rw_⟩
      · exact p.elim
    · exact p.elim
  · exact p.elim
theorem ms_popAt : MtS C rPopAt mPopAt := by
  intro ι h H σ x xs d ds Q R r rs p
  unfold mPopAt at p
  split at p
  · rename_i i j
    split at p
    · rename_i es e
      split at p
      · rename_i k ek
        split at p
        · rename_i y ey
          split at p
          · rename_i hl
            obtain ⟨vs, rfl, e1, rr⟩ := r.list R e
            obtain ⟨u, rfl, q⟩ := rs.one
            obtain ⟨w, ew, rw_⟩ := rr.get ey
            obtain ⟨a1, a2, a3, a4⟩ := ixN_seq ek
            change _ ≤ sizeLine at hl
            rw [sizeLine_eq] at hl
            exact ⟨_, vs, j, k, w, rfl, by rw [RD.int.mp q], e1, by omega, by omega, by rw [← rr.length]; exact a1, ew, p.put R (RD.ref.mp r).1 (rr.eraseIdx k) rw_⟩
          · exact p.elim
        · exact p.elim
      · exact p.elim
    · exact p.elim
  · exact p.elim
theorem ms_extend : MtS C rExtend mExtend := by
  intro ι h H σ x xs d ds Q R r rs p
  unfold mExtend at p
  split at p
  · rename_i i j
    split at p
    · rename_i es fs e e'
      split at p
      · rename_i hl
        obtain ⟨vs, rfl, e1, rr⟩ := r.list R e
        obtain ⟨w, rfl, q⟩ := rs.one
        obtain ⟨ws, rfl, e2, rr2⟩ := q.list R e'
        exact ⟨_, _, vs, ws, rfl, rfl, e1, e2, by rw [← rr.length, ← rr2.length]; exact hl, p.put R (RD.ref.mp r).1 (rr.append rr2) (RD.non.mpr rfl)⟩
      · exact p.elim
    · exact p.elim
  · exact p.elim
theorem ms_index : MtS C (rIndexD C.X.K) mIndex := by
  intro ι h H σ x xs d ds Q R r rs p
  unfold mIndex at p
  split at p
  · rename_i i y
    split at p
    · rename_i ps q e1 e2
      split at p
      · rename_i j ej
        obtain ⟨w, rfl, rw_⟩ := rs.one
        obtain ⟨a1, a2, a3⟩ := toP_dp R _ _ _ _ r e1
        obtain ⟨b1, b2, b3⟩ := toP_dp R _ _ _ _ rw_ e2
        obtain ⟨z, z1, z2, z3⟩ := firstAt_spec ej
        obtain ⟨_, rfl⟩ := RD.ref.mp r
        exact ⟨_, w, q, ps, j, z, rfl, rfl, a1, b1, toP_shaped a2 a3, toP_shaped b2 b3, z1, z2, z3, p.here R (RD.int.mpr rfl)⟩
      · exact p.elim
    · exact p.elim
  · exact p.elim
def putL (o i v : D) (h : AH) : Option AH := match o, i with
  | .ref r, .int k => (match h[r]? with
    | some (.lst xs) => (match L2.ixN xs.length k with
      | some j => some (h.set r (.lst (xs.set j v)))
      | none => none)
    | _ => none)
  | _, _ => none
theorem ss_list : SetS C rSetL putL := by
  intro ι h H x y z d1 d2 d3 h' Q R r1 r2 r3 e k
  unfold putL at e
  split at e
  · rename_i r j
    split at e
    · rename_i xs e0
      split at e
      · rename_i m em
        cases e
        obtain ⟨vs, rfl, e1, rr⟩ := r1.list R e0
        have hi := (RD.ref.mp r1).1
        refine ⟨_, vs, j, m, rfl, RD.int.mp r2, e1, by rw [← rr.length]; exact em, ?_⟩
        exact k ι _ (by rw [List.length_set]; exact Ext.put R hi) (R.put hi fun x => ⟨_, upd_same, (rr.set m r3).mono (x.grow R)⟩)
      · cases e
    · cases e
  · cases e
end
end Rf

set_option maxHeartbeats 1000000
namespace Rf
open PySem PySem.Spec PyProof.Rows L2
section
variable {C : Ct} {a : Expr} {ma : EM} {pos : Pos}
theorem me_int {i : Int} {k : Nat} : ME C (.Constant (.int i) k pos) (eC (.int i)) := me_C (v := .int i) pe_int fun _ _ _ => RD.int.mpr rfl
theorem me_bl {b : Bool} {k : Nat} : ME C (.Constant (.bool b) k pos) (eC (.bl b)) := me_C (v := .bl b) pe_bl fun _ _ _ => RD.bl.mpr rfl
theorem me_non {k : Nat} : ME C (.Constant .none k pos) (eC .non) := me_C (v := .non) pe_non fun _ _ _ => RD.non.mpr rfl
theorem me_str {x : Str} {k : Nat} : ME C (.Constant (.str x) k pos) (eC (.str x)) := me_C (v := .str x) pe_str fun _ _ _ => RD.str.mpr rfl
theorem me_ty {x : Str} {n : String} (hm : C.X.mg x = none) (hv : bootBuiltins x = some (.type n) := by decide +kernel) (hg : Gl C.X x := by rfl) (hn : x ≠ "__name__" := by decide) (hd : (x == ("__debug__" : Str)) = false := by decide) : ME C (.Name x pos) (eC (.ty n)) :=
  me_C (v := .ty n) (pe_bltn hg hm hv rfl hn hd) fun _ _ _ => RD.ty.mpr rfl
theorem mo_none : MO C none none := rfl
theorem mo_some (h : ME C a ma) : MO C (some a) (some ma) := ⟨a, rfl, h⟩
end
theorem units65 {A : Around} {k : Nat} (hr : Room k A) : A.units + 65 < cLine := by have := hr.un; omega
/-- a def of the module, as it stands -/
structure DA (K : PySem.W.Frag) (mg : Str → Option Value) (x : Str) (st : Stmt) (ps : List Str) (f : Addr) (fd : FuncData) : Prop where
  fn : Fun K x x st f fd
  mgf : mg x = some (.ref f)
  bd : Binds K fd ps []
end Rf
namespace Rf
open PySem PySem.Spec PyProof.Rows L2
/-- what the law's own def is held to: its plain function ends well, and so the call -/
def spLaw (K : PySem.W.Frag) (F : List D → AH → ER) : Sp := fun vs H Q _ => vs.length = 1 ∧ ∃ ι h ds, Rel K ι h H ∧ RDs K ι h.length H ds vs ∧ ∃ d h', F ds h = .ok d h' ∧ ∀ ι' H' v, Ext ι h.length H ι' h'.length H' → Rel K ι' h' H' → RD K ι' h'.length H' d v → Q v H'
theorem spLaw.of {K : PySem.W.Frag} {mg : Str → Option Value} {F : List D → AH → ER} : ∀ vs H Q E, spLaw K F vs H Q E → spF K mg 1 F vs H Q E := by
  rintro vs H Q E ⟨hl, ι, h, ds, R, r, d, h', e, q⟩
  refine ⟨hl, ι, h, ds, R, r, ?_⟩
  rw [e]
  exact q
theorem RDs.rol_ints {K : PySem.W.Frag} {ι : Nat → Addr} {n : Nat} {H : Hp} {a : Addr} {ns : List Int} (q : RoL K H a (ns.map V.int)) : RD K ι n H (.rol (ns.map D.int)) (.ref a) := RD.rol.mpr ⟨a, _, rfl, q, RDs.of_ints⟩
theorem spLaw.start {K : PySem.W.Frag} {F : List D → AH → ER} {H : Hp} {a : Addr} {ns : List Int} (O : Only H) (S : SqL K H a (ns.map V.int)) (hF : ∃ h', F [.rol (ns.map D.int)] [] = .ok (.bl true) h') : spLaw K F [.ref a] H (fun v _ => v = .bl true) fun _ _ _ => False := by
  obtain ⟨h', e⟩ := hF
  have q : RoL K H a (ns.map V.int) := by
    rcases S with (s | s) | s
    · rcases O a with z | ⟨o, xs, z⟩ <;> (rw [s] at z; cases z)
    · exact .inl s
    · exact .inr s
  exact ⟨rfl, fun _ => 0, [], [.rol (ns.map D.int)], ⟨fun i j hi => absurd hi (Nat.not_lt_zero i), fun i o e => by simp at e⟩, RDs.cons' (RDs.rol_ints q) RDs.nil', .bl true, h', e, fun ι' H' v _ _ r => RD.bl.mp r⟩
theorem cx_false {P : Program} {w : World} {H : Hp} {s s' : Shared} {e : Value} (h : L2.CX P w [] H s (fun _ _ _ => False) e s') : False := by
  obtain ⟨_, _, _, _, _, _, _, _, _, _, _, _, z⟩ := h
  exact z
end Rf

set_option maxHeartbeats 1000000
/-! Calls with keywords, every parameter given. -/
namespace Rf
open PySem PySem.Spec PyProof.Rows L2
def MK (C : Ct) (kws : List Keyword) (m : LM) : Prop := ∃ t, PK C.X kws t ∧ SimL C t m
section
variable {C : Ct} {e : Expr} {m : EM} {kws : List Keyword} {nm : Option Str} {kpos : Pos} {mr : LM}
theorem mk_nil : MK C [] lNil := ⟨_, pk_nil, ⟨fun env h σ H ι Q R V p => p ι H [] .refl R RDs.nil'⟩⟩
theorem mk_cons (ha : ME C e m) (hr : MK C kws mr) : MK C (⟨nm, e, kpos⟩ :: kws) (lCons m mr) := by
  obtain ⟨ta, pa, sa⟩ := ha
  obtain ⟨tr, pr, sr⟩ := hr
  refine ⟨_, pk_cons pa pr, ⟨fun env h σ H ι Q R V p => ?_⟩⟩
  refine sa.run env h σ H ι _ R V ?_
  unfold lCons at p
  cases hm : m env h with
  | ok d h1 =>
    rw [hm] at p
    dsimp only at p
    refine fun ι' H' v x R' r => ?_
    refine sr.run env h1 σ H' ι' _ R' (V.ext R x) ?_
    cases hm2 : mr env h1 with
    | ok ds h2 =>
      rw [hm2] at p
      exact fun ι2 H2 vs x2 R2 r2 => p ι2 H2 _ (x.trans x2) R2 (RDs.cons' (r.mono (x2.grow R')) r2)
    | exc c fs h2 =>
      rw [hm2] at p
      exact fun ι2 H2 Cl dd x2 => p ι2 H2 Cl dd (x.trans x2)
    | stuck => rw [hm2] at p; exact p
  | exc c fs h1 => rw [hm] at p; exact p
  | stuck => rw [hm] at p; exact p
end
/-- positional values, then those of the keywords in the parameters' order -/
def permK {α : Type} (idx : List Nat) (us ws : List α) : List α := us ++ idx.filterMap fun i => ws[i]?
theorem permK_RDs {K : PySem.W.Frag} {ι : Nat → Addr} {n : Nat} {H : Hp} {ds es : List D} {vs zs : List V} (r : RDs K ι n H ds vs) (q : RDs K ι n H es zs) : ∀ idx : List Nat, RDs K ι n H (permK idx ds es) (permK idx vs zs) := by
  have key : ∀ idx : List Nat, RDs K ι n H (idx.filterMap fun i => es[i]?) (idx.filterMap fun i => zs[i]?) := by
    intro idx
    induction idx with
    | nil => exact RDs.nil'
    | cons i idx ih =>
      rw [List.filterMap_cons, List.filterMap_cons]
      cases hi : es[i]? with
      | none =>
        have : zs[i]? = none := by
          rw [List.getElem?_eq_none_iff] at hi ⊢
          rw [← q.length]; exact hi
        rw [this]; exact ih
      | some d =>
        obtain ⟨v, hv, rv⟩ := RDs.get q hi
        rw [hv]
        exact RDs.cons' rv ih
  exact fun idx => RDs.append r (key idx)
theorem permK_Vals {vs zs : List V} {us ws : List Value} (r : Vals vs us) (q : Vals zs ws) : ∀ idx : List Nat, Vals (permK idx vs zs) (permK idx us ws) := by
  have at_ : ∀ {zs : List V} {ws : List Value} (i : Nat), Vals zs ws → (zs[i]? = none ∧ ws[i]? = none) ∨ ∃ a b, zs[i]? = some a ∧ ws[i]? = some b ∧ RelV a b := by
    intro zs ws i q
    induction q generalizing i with
    | nil => exact .inl ⟨rfl, rfl⟩
    | cons h t ih =>
      cases i with
      | zero => exact .inr ⟨_, _, rfl, rfl, h⟩
      | succ i => exact ih i
  have key : ∀ idx : List Nat, Vals (idx.filterMap fun i => zs[i]?) (idx.filterMap fun i => ws[i]?) := by
    intro idx
    induction idx with
    | nil => exact .nil
    | cons i idx ih =>
      rw [List.filterMap_cons, List.filterMap_cons]
      rcases at_ i q with ⟨h1, h2⟩ | ⟨a, b, h1, h2, h3⟩
      · rw [h1, h2]; exact ih
      · rw [h1, h2]; exact .cons h3 ih
  intro idx
  unfold permK
  induction r with
  | nil => exact key idx
  | cons h t ih => exact .cons h ih
theorem runK {X : Cx} {CX : CXT} {k n : Nat} {f : Addr} {fd : FuncData} {ps ks : List Str} {sp : Sp} {D : XK} {g : List Value → List Value → List Value} {gV : List V → List V → List V} {pins : List (Addr × Obj)} {σ : L2.St} {H : Hp} {s : Shared} {Q : VK} {us ws : List Value} {vs zs : List V}
    (F0 : FnOk X.prog X.w X.K X.mg X.base CX k f fd ps sp) (room : Room k X.A) (kb : KBn X.K fd ps n ks g gV) (ps0 : PassesAt CX X σ D) (J : Inv X pins σ H s) (r1 : Vals vs us) (r2 : Vals zs ws) (l1 : vs.length = n) (l2 : zs.length = ks.length) (q : sp (gV vs zs) H Q D) :
    wpAny (model X.prog X.w) X.A (call (.ref f) us (ks.zip ws)) (EP X pins σ Q) X.xe s := by
  have b0 := kb.to s us ws J.kIn (r1.length.symm.trans l1) (r2.length.symm.trans l2)
  have e0 := F0.run X.A X.stack s H ⟨us, ks.zip ws⟩ (g us ws) (gV vs zs) Q D room J.env0 b0 (kb.rel r1 r2) q
  refine wpAny_call (codeAny_mono e0 fun r s' hq => ?_)
  match r, hq with
  | .error e, hq => exact ps0 pins H s e s' J hq
  | .ok (.ret u), hq => exact J.after hq
  | .ok .next, hq => exact hq.elim
  | .ok .brk, hq => exact hq.elim
  | .ok .cont, hq => exact hq.elim
/-- a call with keywords: the positional values in their order, the keywords' values as written, then put in order -/
def eCallK (n m : Nat) (idx : List Nat) (F : List D → AH → ER) (ml mk : LM) : EM := fun env h => (ml env h).then fun ds h1 => (mk env h1).then fun es h2 => if ds.length = n ∧ es.length = m then F (permK idx ds es) h2 else .stuck
section
variable {C : Ct} {k pl n km : Nat} {f : Addr} {fd : FuncData} {ps ks : List Str} {F : List D → AH → ER} {x : Str} {p pos : Pos} {e : Expr} {es : List Expr} {kws : List Keyword} {ml mk : LM} {idx : List Nat}
theorem me_callK (F0 : FnOk C.X.prog C.X.w C.X.K C.X.mg C.X.base (L2.CX C.X.prog C.X.w) k f fd ps (spF C.X.K C.X.mg pl F)) (hr : Room k C.X.A) (hm : C.X.mg x = some (.ref f)) (hk : PySem.W.keepIn C.X.K (.ref f) = true) (hb : KBn C.X.K fd ps n ks (permK idx) (permK idx)) (tk : Takes C.X C.W)
    (ha : MA C (e :: es) ml) (hw : MK C kws mk) (hpl2 : ∀ us ws : List D, us.length = n → ws.length = km → (permK idx us ws).length = pl) (hkm : ks.length = km := by rfl)
    (hall : (backToKw pos (keywordEach kws C.X.env)).all (·.1.isSome) = true := by rfl) (hks : (backToKw pos (keywordEach kws C.X.env)).filterMap (·.1) = ks := by rfl) (hg : Gl C.X x := by rfl) (hdb : (x == ("__debug__" : Str)) = false := by decide) (he : starEach (e :: es) C.X.env = (false, eval e C.X.env) :: starEach es C.X.env := by rfl)
    (hpl : ((backTo pos (starEach (e :: es) C.X.env)).any (·.1) || (backToKw pos (keywordEach kws C.X.env)).any (·.1.isNone)) = false := by rfl) :
    ME C (.Call (.Name x p) (e :: es) kws pos) (eCallK n km idx F ml mk) := by
  subst hkm
  obtain ⟨t, pa, s⟩ := ha
  obtain ⟨t2, pk, s2⟩ := hw
  refine ⟨fun σ H Q => tCallN n ks.length (spF C.X.K C.X.mg pl F) (permK idx) (WE C.W σ) t t2 σ H Q, ⟨fun pins s0 σ H Q I h => ?_⟩, ⟨fun env h σ H ι Q R V q => ?_⟩⟩
  · refine wpAny_Call_Name_kw (ld_glob (x := x) I hg hm ?_ hdb)
    refine PySem.W.callWith_KW (h₀ := C.X.base) I.ok.mod.kin hk hall (thn (pa.run pos pins s0 σ H _ I h) fun us s1 h1 => ?_) hpl he
    obtain ⟨vs, H1, I1, r, q⟩ := h1
    refine thn (pk.run pos pins s1 σ H1 _ I1 q) fun ws s2 h2 => ?_
    obtain ⟨zs, H2, I2, rz, l1, l2, q2⟩ := h2
    refine ⟨I2.kIn, ?_⟩
    rw [hks]
    exact runK F0 hr hb (passAt tk σ) I2 r rz l1 l2 q2
  · refine s.run env h σ H ι _ R V ?_
    unfold eCallK at q
    cases hm : ml env h with
    | ok ds h1 =>
      rw [hm] at q
      refine fun ι' H' vs x R' r => ?_
      refine s2.run env h1 σ H' ι' _ R' (V.ext R x) ?_
      have q1 : PostE C ι h.length H σ ((mk env h1).then fun es h2 => if ds.length = n ∧ es.length = ks.length then F (permK idx ds es) h2 else .stuck) Q := q
      cases hm2 : mk env h1 with
      | ok es h2 =>
        rw [hm2] at q1
        refine fun ι2 H2 zs x2 R2 r2 => ?_
        have q2 : PostE C ι h.length H σ (if ds.length = n ∧ es.length = ks.length then F (permK idx ds es) h2 else .stuck) Q := q1
        by_cases hd : ds.length = n ∧ es.length = ks.length
        · rw [if_pos hd] at q2
          have r3 := permK_RDs (r.mono (x2.grow R')) r2 idx
          refine ⟨by rw [← r.length]; exact hd.1, by rw [← r2.length]; exact hd.2, ?_⟩
          exact spF.of R2 r3 (by rw [← r3.length]; exact hpl2 _ _ hd.1 hd.2) (PostE.shift q2 (x.trans x2))
        · rw [if_neg hd] at q2; exact q2.elim
      | exc c fs h2 =>
        rw [hm2] at q1
        exact fun ι2 H2 Cl dd x2 => q1 ι2 H2 Cl dd (x.trans x2)
      | stuck => rw [hm2] at q1; exact q1
    | exc c fs h1 => rw [hm] at q; exact q
    | stuck => rw [hm] at q; exact q
end
end Rf

/-! enumerate over a tuple -/
namespace Rf
open PySem PySem.Spec PyProof.Rows L2
set_option maxHeartbeats 1000000 in
theorem enumT_new (t : Addr) (its : Array Value) :
    Meets (Builtin.«enumerate.__new__» ⟨[.type "enumerate", .ref t], []⟩) (fun _ R s => s.heap.IsTuple t its ∧
      R (.ok (.ret (.ref (s.heap.push { cls := .type "tuple_iterator", data := .fields #[.ref t, .int 0 0] }).objs.size)))
        { s with heap := (s.heap.push { cls := .type "tuple_iterator", data := .fields #[.ref t, .int 0 0] }).push { cls := .type "enumerate", data := .fields #[.none, .bool false, .ref s.heap.objs.size, rawInt 0, .none, .none] } }) :=
  .of_wp fun prog w A R s hyp => by
    obtain ⟨hp, g, d, tk, os⟩ := s
    obtain ⟨ht, hR⟩ := hyp
    have hT : Heap.IsTuple (Shared.heap ⟨hp, g, d, tk, os⟩) t its := ht
    have hsub := sub_enumerate
    obtain ⟨⟨c0, dc, dt, sl⟩, ho, hc0, n, hd0⟩ := ht
    replace hc0 : c0 = .type "tuple" := hc0
    replace hd0 : dt = .seq its n := hd0
    subst hc0 hd0
    wp_walk using AutoSeq1.wpAny_loadPart' ho
    refine wpAny_stack_any fun st => wpAny_pure ?_
    split
    · rename_i c _ _ _ _ _
      cases (c == Value.type "enumerate")
      · wp_walk using AutoSeq1.wpAny_loadPart' ho, wpAny_pyIter_tuple hT
        exact ⟨_, rfl, hR⟩
      · wp_walk using AutoSeq1.wpAny_loadPart' ho, wpAny_pyIter_tuple hT
        exact ⟨_, rfl, hR⟩
    · wp_walk using AutoSeq1.wpAny_loadPart' ho, wpAny_pyIter_tuple hT
      exact ⟨_, rfl, hR⟩
theorem callEnumT {prog : Program} {w : World} {A : Around} {E : Value → Shared → Prop} {s : Shared} {t : Addr} {its : Array Value} {Q : Value → Shared → Prop} (ht : s.heap.IsTuple t its)
    (k : ∀ h', IsEnum h' (s.heap.objs.size + 1) s.heap.objs.size 0 .none → h'.IsTupleIter s.heap.objs.size t 0 → (∀ b o, s.heap.get? b = some o → h'.get? b = some o) → Q (.ref (s.heap.objs.size + 1)) { s with heap := h' }) :
    wpAny (model prog w) A (call (.type "enumerate") [.ref t]) Q E s := by
  refine callType_new F.called_enumerate (by decide) (F.typeCall_enumerate_1 _) (F.newCall_enumerate_1 _) (fun obj => F.args_object_init_2 obj _) F.entry_enumerate_new (enumT_new t its) ⟨ht, ?_⟩
  generalize hi : (Obj.mk (.type "tuple_iterator") none (.fields #[.ref t, .int 0 0]) #[]) = io
  have hz : (s.heap.push io).objs.size = s.heap.objs.size + 1 := Heap.size_push ..
  show _ ∧ _
  rw [hz]
  have he := Heap.get?_push_size (s.heap.push io) (o := { cls := .type "enumerate", data := .fields #[.none, .bool false, .ref s.heap.objs.size, rawInt 0, .none, .none] }) rfl
  rw [hz] at he
  refine ⟨⟨_, he, rfl⟩, k _ he ⟨io, Heap.get?_push_of_some _ (Heap.get?_push_size _ (by rw [← hi]; rfl)), by rw [← hi], by rw [← hi]; rfl⟩ ?_⟩
  exact fun b o x => Heap.get?_push_of_some _ (Heap.get?_push_of_some _ x)
/-- the tuple at a as it stands, each item with its number in a new pair -/
def IeT (K : PySem.W.Frag) (a : Addr) : It :=
  ⟨fun i H => ∃ (xs : List V) (x : V), SqT K H a xs ∧ xs[i]? = some x, fun i H v H' => ∃ T x, v = .ref T ∧ H T = none ∧ H' = upd H T (.tup [.int (i : Nat), x]) ∧ ∀ xs, SqT K H a xs → xs[i]? = some x, fun i H => ∃ xs : List V, SqT K H a xs ∧ xs.length ≤ i⟩
theorem tup_ne_iter {h : Heap} {a it : Addr} {i : Nat} {its : Array Value} (p : h.IsTuple a its) (q : h.IsTupleIter it a i) : a ≠ it := by
  obtain ⟨o, e1, c1, _⟩ := p
  obtain ⟨o', e2, c2, _⟩ := q
  rintro rfl
  rw [e1] at e2
  cases e2
  exact absurd (Value.type.inj (c1.symm.trans c2)) (by decide)
theorem tup_ne_enum {h : Heap} {a e it : Addr} {i : Int} {old : Value} {its : Array Value} (p : h.IsTuple a its) (q : IsEnum h e it i old) : a ≠ e := by
  obtain ⟨o, e1, c1, _⟩ := p
  rintro rfl
  rw [show h.get? a = _ from q] at e1
  cases e1
  exact absurd (Value.type.inj c1) (by decide)
theorem turn_enumT {P : Program} {w : World} {K : PySem.W.Frag} {elts : List Expr} {kk : Nat} {tpos : Pos} (a e it : Addr) :
    Turn P w K (.Tuple elts kk tpos) (IeT K a) [e, it] e (fun i h => (∃ old, IsEnum h e it ((i : Nat) : Int) old) ∧ h.IsTupleIter it a i ∧ e ≠ it) where
  mem := by simp
  obj := fun i h st b hb => by
    obtain ⟨⟨old, he⟩, ⟨o, ho, _, hd⟩, _⟩ := st
    rcases List.mem_cons.mp hb with z | z
    · subst z; exact ⟨_, he, fun v q => nomatch q⟩
    · rw [List.mem_singleton] at z
      subst z; exact ⟨o, ho, fun v q => by rw [hd] at q; cases q⟩
  keep := fun i h h' st k => by
    obtain ⟨⟨old, he⟩, hi, hne⟩ := st
    exact ⟨⟨old, k e (by simp) _ he⟩, hi.at fun o q => k it (by simp) o q, hne⟩
  item := by
    intro X hP hw hK hc i pins s σ H E I hf st hg
    subst hP hw hK
    obtain ⟨⟨old, he⟩, hit, hne⟩ := st
    obtain ⟨xs, x, hq, hx⟩ := hg
    obtain ⟨its, rv, p, hz⟩ := I.tuple hq
    obtain ⟨u, hu, ru⟩ := rv.get hx
    have p' : s.heap.IsTuple a its.toArray := p
    have hai := tup_ne_iter p' hit
    have hae := tup_ne_enum p' he
    have hel := Heap.lt_size he
    have hil : it < s.heap.objs.size := by
      obtain ⟨_, q, _⟩ := hit
      exact Heap.lt_size q
    have hlt : i < its.toArray.size := by
      have := (List.getElem?_eq_some_iff.mp hu).1
      simpa using this
    refine wpAny_pyNext_enum_itemC (Draws.tuple (A := X.A.in1) (show X.A.in1.handled = none from I.ok.hd hc) it a hai its.toArray) he ⟨hit, p'⟩ hlt hne (by simp; exact ⟨hne, Ne.symm hae⟩) fun y h' tk hy ho hst hT hsz hk => ?_
    obtain rfl : y = u := by
      have : its[i]? = some y := by simpa using hy
      rw [hu] at this; cases this; rfl
    refine ⟨_, rfl, wpAny_letOwnedTupleGo_enum (s := { s with heap := h', toks := tk + 1 }) ho fun h2 he2 sb => ?_⟩
    have hT2 := (sb.2 _ (Nat.ne_of_gt hel)).trans hT
    obtain ⟨T, hTT⟩ : ∃ T, T = s.heap.objs.size := ⟨_, rfl⟩
    rw [← hTT] at hT2 ⊢
    have new : ObjOk X.prog X.w (upd H T (.tup [.int (i : Nat), x])) h2 T (.tup [.int (i : Nat), x]) := by
      refine ⟨by show 2 ≤ sizeLine; decide, [.int i tk, y], .cons ⟨_, rfl⟩ (.cons ru .nil), ⟨_, hT2, rfl, _, rfl⟩⟩
    have kp : ∀ b ob, b ∉ [e, it] → s.heap.get? b = some ob → h2.get? b = some ob := fun b ob hb q =>
      (sb.2 b (fun z => hb (by simp [z]))).trans (hk b ob (fun z => hb (by simp [z])) (fun z => hb (by simp [z])) q)
    have I1 := I.turnedNew (t' := tk + 1) kp hf (by rw [hTT]; exact Nat.le_refl _) new
    have fT : H T = none := I.hok.fresh (by rw [hTT]; exact Nat.le_refl _)
    refine ⟨.ref T, _, I1, rfl, ⟨T, x, rfl, fT, rfl, fun ys hy => by rw [I.tuple_inj hy hq]; exact hx⟩, ⟨⟨y, ?_⟩, ?_, hne⟩, fun b hb => ?_⟩
    · rw [show ((i + 1 : Nat) : Int) = (i : Int) + 1 by omega]; exact he2
    · exact hst.1.at fun o q => (sb.2 it (Ne.symm hne)).trans q
    · have hb' : b < T := by
        rw [hTT]
        rcases List.mem_cons.mp hb with z | z
        · rw [z]; exact hel
        · rw [List.mem_singleton.mp z]; exact hil
      rw [upd_ne (Nat.ne_of_lt hb')]
      exact (hf b hb).1
  done := by
    intro X hP hw hK hc i pins s σ H E I hf st hg
    subst hP hw hK
    obtain ⟨⟨old, he⟩, hit, hne⟩ := st
    obtain ⟨xs, hq, hx⟩ := hg
    obtain ⟨its, rv, p, hz⟩ := I.tuple hq
    have p' : s.heap.IsTuple a its.toArray := p
    obtain ⟨f0, f1, f2, f3, f4, f5⟩ := hf it (by simp)
    have hl := rv.length
    have hh : X.A.in1.handled = none := I.ok.hd hc
    have D : Draws X.prog X.w X.A.in1 it [it, a] i (fun _ _ => True) (fun j h => j = i ∧ h.IsTupleIter it a i ∧ h.IsTuple a its.toArray) := by
      refine ⟨fun j h z => ?_, fun j h h' z k => ?_, fun j s Q E hj z => absurd z.1 (Nat.ne_of_lt hj), fun s Q E z k => ?_⟩
      · obtain ⟨_, ⟨o, ho, _⟩, _⟩ := z
        exact ⟨o, ho⟩
      · exact ⟨z.1, z.2.1.at fun o q => k it (by simp) o q, z.2.2.at fun o q => k a (by simp) o q⟩
      · exact wpAny_nextOf_tuple_end hh z.2.1 z.2.2 (by simp; omega) k
    exact wpAny_pyNext_enum_endD D he ⟨rfl, hit, p'⟩ fun h' eb => ⟨rfl, I.turned (t' := s.toks) (fun b o hb q => eb b o hb q) f0 f1 f3 f4 f5⟩
  self := fun A i s Q E st h => by
    obtain ⟨⟨old, he⟩, _⟩ := st
    exact wpAny_pyIter_enum he h
def iEnumT (K : PySem.W.Frag) (ta : TA) : TI := fun σ H R => ta σ H fun vs H1 => ∃ a xs, vs = [.ref a] ∧ SqT K H1 a xs ∧ R (IeT K a) H1
theorem pi_enumT {X : Cx} {e : Expr} {ta : TA} {p pos tpos : Pos} {elts : List Expr} {kk : Nat} (hg : Gl X "enumerate") (hm : X.mg "enumerate" = none) (ha : PA X [e] ta) (hs : starEach [e] X.env = [(false, eval e X.env)] := by rfl) :
    PI X (.Tuple elts kk tpos) (.Call (.Name "enumerate" p) [e] [] pos) (iEnumT X.K ta) := by
  refine ⟨fun pins s σ H R I h => Call_ (ld_blt I hg hm boot_enumerate (PyProof.Rows.callWith_type1 (thn (ha.run pos pins s σ H _ I h) fun us s1 hyp => ?_) hs rfl))⟩
  obtain ⟨vs, H1, I1, r1, a, xs, ex, hq, q⟩ := hyp
  subst ex
  cases r1 with
  | cons r rr =>
    cases rr
    cases r
    obtain ⟨its, rv, p', hz⟩ := I1.tuple hq
    refine callEnumT p' fun h' he hit hk => wpAny_pyIter_enum he ?_
    obtain ⟨N, hN⟩ : ∃ N, N = s1.heap.objs.size := ⟨_, rfl⟩
    rw [← hN] at he hit ⊢
    have I2 : Inv X pins σ H1 { s1 with heap := h' } := I1.kept (t' := s1.toks) hk
    refine ⟨N + 1, [N + 1, N], _, _, H1, rfl, I2, turn_enumT a (N + 1) N, ⟨⟨.none, he⟩, hit, Nat.succ_ne_self _⟩, fun b hb => ?_, q⟩
    have hle : s1.heap.objs.size ≤ b := by
      rw [← hN]
      rcases List.mem_cons.mp hb with z | z
      · rw [z]; exact Nat.le_succ _
      · rw [List.mem_singleton] at z
        rw [z]; exact Nat.le_refl _
    exact I1.fpOk hle (I1.hok.fresh hle)
/-- the items with their numbers -/
def numD (ds : List D) : List D := ds.mapIdx fun i d => .tup [.int (i : Nat), d]
theorem numD_at {ds : List D} {i : Nat} : (numD ds)[i]? = (ds[i]?).map fun d => .tup [.int (i : Nat), d] := by unfold numD; rw [List.getElem?_mapIdx]
def iEnum1 (m : EM) : IM := fun e h => match m e h with
  | .ok (.tup ds) h1 => .ok (stat (numD ds)) h1
  | .ok _ _ => .stuck
  | .exc c fs h1 => .exc c fs h1
  | .stuck => .stuck
section
variable {C : Ct} {a : Expr} {m : EM} {p pos tpos : Pos} {elts : List Expr} {kk : Nat}
theorem itr_enumT {K : PySem.W.Frag} {ι : Nat → Addr} {h : AH} {H : Hp} {ds : List D} {vs : List V} {a : Addr} (R0 : Rel K ι h H) (q : SqT K H a vs) (r : RDs K ι h.length H ds vs) : ItR K (IeT K a) (stat (numD ds)) ι h.length H := by
  refine itr_stat fun i ι' h' H' x R => ⟨fun e => ⟨vs, R0.sqT x q, ?_⟩, fun d e => ?_⟩
  · rw [numD_at] at e
    rw [← r.length]
    refine List.getElem?_eq_none_iff.mp ?_
    cases hd : ds[i]? with
    | none => rfl
    | some d => rw [hd] at e; cases e
  · rw [numD_at] at e
    cases hd : ds[i]? with
    | none => rw [hd] at e; cases e
    | some d0 =>
      rw [hd] at e
      cases e
      obtain ⟨v, ev, rv⟩ := r.get hd
      refine ⟨⟨vs, v, R0.sqT x q, ev⟩, fun y H2 hy => ?_⟩
      obtain ⟨T, x0, rfl, hT, rfl, hx⟩ := hy
      have e2 := hx vs (R0.sqT x q)
      rw [ev] at e2
      cases e2
      have xx : Ext ι' h'.length H' ι' h'.length (upd H' T (.tup [.int (i : Nat), v])) := Ext.tup hT
      refine ⟨ι', xx, R.tup hT xx, RD.tup.mpr ⟨T, _, rfl, .inl (.inl upd_same), ?_⟩⟩
      have rv2 : RD K ι' h'.length H' d0 v := rv.mono (x.grow R0)
      exact RDs.cons' (RD.int.mpr rfl) (RDs.cons' (rv2.mono (xx.grow R)) RDs.nil')
theorem mi_enum1 (hm : C.X.mg "enumerate" = none) (ha : ME C a m) (hg : Gl C.X "enumerate" := by rfl) (hs : starEach [a] C.X.env = [(false, eval a C.X.env)] := by rfl) (na : starEach [a] C.X.env = (false, eval a C.X.env) :: starEach [] C.X.env := by rfl) :
    MI C (.Tuple elts kk tpos) (.Call (.Name "enumerate" p) [a] [] pos) (iEnum1 m) := by
  obtain ⟨t, pa, sa⟩ := ha
  refine ⟨_, pi_enumT hg hm (pa_cons pa pa_nil na) hs, ⟨fun env h σ H ι Q R V p => ?_⟩⟩
  refine sa.run env h σ H ι _ R V ?_
  unfold iEnum1 at p
  cases hm : m env h with
  | exc c fs h1 => rw [hm] at p; exact p
  | stuck => rw [hm] at p; exact p
  | ok d h1 =>
    rw [hm] at p
    cases d with
    | tup ds =>
      refine fun ι' H' v x R' r => ?_
      obtain ⟨a, vs, rfl, s, rr⟩ := RD.tup.mp r
      exact ⟨a, vs, rfl, s, p.here x R' (itr_enumT R' s rr)⟩
    | _ => exact (show False from p).elim
end
end Rf

set_option maxHeartbeats 1000000
/-! sorted of ints -/
namespace Rf
open PySem PySem.Spec PyProof.Rows L2
def intSort (ns : List Int) : List Int := ns.mergeSort fun a b => decide (a ≤ b)
theorem intSort_perm (ns : List Int) : (intSort ns).Perm ns := List.mergeSort_perm _ _
theorem intSort_up (ns : List Int) : (intSort ns).Pairwise (· ≤ ·) := by
  have := List.pairwise_mergeSort (le := fun a b : Int => decide (a ≤ b)) (fun a b c h1 h2 => by simp at *; omega) (fun a b => by simp; omega) ns
  exact this.imp fun h => by simpa using h
theorem intSort_eq {ns ys : List Int} (p : ys.Perm ns) (u : ys.Pairwise (· ≤ ·)) : ys = intSort ns :=
  List.Perm.eq_of_pairwise (le := (· ≤ ·)) (fun a b _ _ h1 h2 => Int.le_antisymm h1 h2) u (intSort_up ns) (p.trans (intSort_perm ns).symm)
/-- the keys of a dict, all ints -/
def keysI : List (Key × D) → Option (List Int)
  | [] => some []
  | (.inl i, _) :: r => (keysI r).map (i :: ·)
  | _ => none
theorem keysI_eq : ∀ {kvs : List (Key × D)} {ns : List Int}, keysI kvs = some ns → kvs.map (·.1) = ns.map Sum.inl
  | [], ns, e => by cases e; rfl
  | (.inl i, d) :: r, ns, e => by
    unfold keysI at e
    cases q : keysI r with
    | none => rw [q] at e; cases e
    | some ms => rw [q] at e; cases e; rw [List.map_cons, List.map_cons, keysI_eq q]
  | (.inr s, d) :: r, ns, e => by cases e
open Classical in
noncomputable def cSorted (ds : List D) (h : AH) : ER := match ds with
  | [.ref i] => (match h[i]? with
    | some (.lst es) => (match intsOf es with
      | some ns => .ok (.ref h.length) (h ++ [.lst ((intSort ns).map D.int)])
      | none => .stuck)
    | some (.dK kvs) => (match keysI kvs with
      | some ns => if ns.length < 64 then .ok (.ref h.length) (h ++ [.lst ((intSort ns).map D.int)]) else .stuck
      | none => .stuck)
    | _ => .stuck)
  | _ => .stuck
theorem RDs.mk_ints {K : PySem.W.Frag} {ι : Nat → Addr} {n : Nat} {H : Hp} : ∀ ns : List Int, RDs K ι n H (ns.map D.int) (ns.map V.int)
  | [] => RDs.nil'
  | n :: ns => RDs.cons' (RD.int.mpr rfl) (RDs.mk_ints ns)
section
variable {C : Ct}
theorem cs_sorted : CallS C (fun vs H Q => rSortedI C.X.K vs H Q ∨ ∃ (a : Addr) (kvs : List (Key × V)) (ks : List Int), vs = [.ref a] ∧ Rd H a (.dK kvs) ∧ kvs.map (·.1) = ks.map Sum.inl ∧ ks.length < 64 ∧
    ∀ (ys : List Int) (p : Addr), ys.Perm ks → ys.Pairwise (· ≤ ·) → H p = none → Q (.ref p) (upd H p (.lst (ys.map V.int)))) cSorted := by
  intro ι h H σ xs ds Q R r p
  unfold cSorted at p
  split at p
  · rename_i i
    obtain ⟨v, rfl, q1⟩ := r.one
    split at p
    · rename_i es e
      split at p
      · rename_i ns e2
        obtain ⟨vs, rfl, e1, rr⟩ := q1.list R e
        have hs : SqL C.X.K H (ι i) vs := SqL.of e1
        rw [intsOf_eq e2] at rr
        rw [rr.ints] at hs
        refine .inl ⟨_, ns, rfl, hs, fun ns' p' pm up hp => ?_⟩
        rw [intSort_eq pm up]
        exact PostE.lst p R (RDs.mk_ints _) hp
      · exact p.elim
    · rename_i kvs e
      split at p
      · rename_i ns e2
        split at p
        · rename_i h64
          have hr := R.ob i _ e
          obtain ⟨ws, hw, hk, rr⟩ := hr
          have ev := RD.ref.mp q1
          refine .inr ⟨ι i, ws, ns, by rw [ev.2], .inl hw, by rw [← hk]; exact keysI_eq e2, h64, fun ys p' pm up hp => ?_⟩
          rw [intSort_eq pm up]
          exact PostE.lst p R (RDs.mk_ints _) hp
        · exact p.elim
      · exact p.elim
    · exact p.elim
  · exact p.elim
theorem cr_sorted2 (hcalm : C.X.calm = true) : CallR C.X (.builtin "sorted") (fun vs H Q => rSortedI C.X.K vs H Q ∨ ∃ (a : Addr) (kvs : List (Key × V)) (ks : List Int), vs = [.ref a] ∧ Rd H a (.dK kvs) ∧ kvs.map (·.1) = ks.map Sum.inl ∧ ks.length < 64 ∧
    ∀ (ys : List Int) (p : Addr), ys.Perm ks → ys.Pairwise (· ≤ ·) → H p = none → Q (.ref p) (upd H p (.lst (ys.map V.int)))) := CallR.or cr_sortedI (call_sortedDI hcalm)
end
end Rf

set_option maxHeartbeats 1000000
/-! dicts whose keys are ints and texts -/
namespace Rf
open PySem PySem.Spec PyProof.Rows L2
def keyD : D → Option Key
  | .int i => some (.inl i)
  | .str s => some (.inr s)
  | _ => none
def valD (kvs : List (Key × D)) (k : Key) : Option D := (kvs.find? fun kv => decide (kv.1 = k)).map (·.2)
def setD (kvs : List (Key × D)) (k : Key) (v : D) : List (Key × D) :=
  if (kvs.any fun kv => decide (kv.1 = k)) = true then kvs.map (fun kv => if kv.1 = k then (kv.1, v) else kv) else kvs ++ [(k, v)]
section
variable {K : PySem.W.Frag} {ι : Nat → Addr} {n : Nat} {H : Hp}
theorem keyD_V {d : D} {k : Key} {v : V} (r : RD K ι n H d v) (e : keyD d = some k) : v = kV k := by
  cases d with
  | int i => cases e; exact RD.int.mp r
  | str s => cases e; exact RD.str.mp r
  | _ => cases e
theorem valD_V : ∀ {kvs : List (Key × D)} {ws : List (Key × V)} (k : Key), kvs.map (·.1) = ws.map (·.1) → RDs K ι n H (kvs.map (·.2)) (ws.map (·.2)) →
    (valD kvs k = none ∧ valV ws k = none) ∨ ∃ d v, valD kvs k = some d ∧ valV ws k = some v ∧ RD K ι n H d v
  | [], [], k, _, _ => .inl ⟨rfl, rfl⟩
  | [], w :: ws, k, e, _ => by cases e
  | kv :: kvs, [], k, e, _ => by cases e
  | kv :: kvs, w :: ws, k, e, r => by
    obtain ⟨v, vs, e1, r1, r2⟩ := RDs.cons.mp r
    rw [List.map_cons] at e1
    injection e1 with e2 e3
    rw [List.map_cons, List.map_cons] at e
    injection e with e4 e5
    rw [← e3] at r2
    have ih := valD_V (kvs := kvs) (ws := ws) k e5 r2
    unfold valD valV at *
    by_cases h : kv.1 = k
    · have h2 : w.1 = k := by rw [← e4]; exact h
      rw [List.find?_cons_of_pos (by simpa using h), List.find?_cons_of_pos (by simpa using h2)]
      exact .inr ⟨kv.2, w.2, rfl, rfl, by rw [e2]; exact r1⟩
    · have h2 : ¬ w.1 = k := by rw [← e4]; exact h
      rw [List.find?_cons_of_neg (by simpa using h), List.find?_cons_of_neg (by simpa using h2)]
      exact ih
theorem any_keys {α β : Type} (k : Key) : ∀ {kvs : List (Key × α)} {ws : List (Key × β)}, kvs.map (·.1) = ws.map (·.1) → (kvs.any fun kv => decide (kv.1 = k)) = ws.any fun kv => decide (kv.1 = k)
  | [], [], _ => rfl
  | [], w :: ws, e => by cases e
  | kv :: kvs, [], e => by cases e
  | kv :: kvs, w :: ws, e => by
    rw [List.map_cons, List.map_cons] at e
    injection e with e4 e5
    rw [List.any_cons, List.any_cons, any_keys k e5, e4]
theorem setD_V {kvs : List (Key × D)} {ws : List (Key × V)} (k : Key) {d : D} {v : V} (e : kvs.map (·.1) = ws.map (·.1)) (r : RDs K ι n H (kvs.map (·.2)) (ws.map (·.2))) (rv : RD K ι n H d v) :
    (setD kvs k d).map (·.1) = (putK ws k v).map (·.1) ∧ RDs K ι n H ((setD kvs k d).map (·.2)) ((putK ws k v).map (·.2)) := by
  unfold setD putK
  rw [any_keys k e]
  by_cases q : (ws.any fun kv => decide (kv.1 = k)) = true
  · rw [if_pos q, if_pos q]
    clear q
    induction kvs generalizing ws with
    | nil =>
      cases ws with
      | nil => exact ⟨rfl, RDs.nil'⟩
      | cons w ws => cases e
    | cons kv kvs ih =>
      cases ws with
      | nil => cases e
      | cons w ws =>
        obtain ⟨v0, vs, e1, r1, r2⟩ := RDs.cons.mp r
        rw [List.map_cons] at e1
        injection e1 with e2 e3
        rw [List.map_cons, List.map_cons] at e
        injection e with e4 e5
        rw [← e3] at r2
        obtain ⟨i1, i2⟩ := ih e5 r2
        by_cases h : kv.1 = k
        · have h2 : w.1 = k := by rw [← e4]; exact h
          simp only [List.map_cons, if_pos h, if_pos h2]
          exact ⟨by rw [e4, i1], RDs.cons' rv i2⟩
        · have h2 : ¬ w.1 = k := by rw [← e4]; exact h
          simp only [List.map_cons, if_neg h, if_neg h2]
          exact ⟨by rw [e4, i1], RDs.cons' (by rw [e2]; exact r1) i2⟩
  · rw [if_neg q, if_neg q]
    rw [List.map_append, List.map_append, List.map_append, List.map_append, e]
    exact ⟨rfl, RDs.append r (RDs.cons' rv RDs.nil')⟩
end
def dictOf (h : AH) : D → Option (List (Key × D))
  | .ref i => match h[i]? with
    | some (.dK kvs) => some kvs
    | _ => none
  | _ => none
theorem dictOf_rel {K : PySem.W.Frag} {ι : Nat → Addr} {h : AH} {H : Hp} {d : D} {v : V} {kvs : List (Key × D)} (R : Rel K ι h H) (r : RD K ι h.length H d v) (e : dictOf h d = some kvs) :
    ∃ i ws, d = .ref i ∧ i < h.length ∧ v = .ref (ι i) ∧ H (ι i) = some (.dK ws) ∧ kvs.map (·.1) = ws.map (·.1) ∧ RDs K ι h.length H (kvs.map (·.2)) (ws.map (·.2)) := by
  unfold dictOf at e
  split at e
  · rename_i i
    split at e
    · rename_i kvs' e2
      cases e
      obtain ⟨ws, hw, hk, rr⟩ := R.ob i _ e2
      have ev := RD.ref.mp r
      exact ⟨i, ws, rfl, ev.1, ev.2, hw, hk, rr⟩
    · cases e
  · cases e
def oDGet (a b : D) (h : AH) : ER := match dictOf h a, keyD b with
  | some kvs, some k => (match valD kvs k with
    | some d => .ok d h
    | none => .stuck)
  | _, _ => .stuck
def oDIn (b a : D) (h : AH) : ER := match dictOf h a, keyD b with
  | some kvs, some k => .ok (.bl (valD kvs k).isSome) h
  | _, _ => .stuck
def oDNotIn (b a : D) (h : AH) : ER := match dictOf h a, keyD b with
  | some kvs, some k => .ok (.bl (!(valD kvs k).isSome)) h
  | _, _ => .stuck
def rDGet : R2 := fun x y H Q => ∃ a v, x = .ref a ∧ DGet H a y (some v) ∧ Q v H
def rDIn : R2 := fun y x H Q => ∃ a o, x = .ref a ∧ DGet H a y o ∧ Q (.bl o.isSome) H
def rDNotIn : R2 := fun y x H Q => ∃ a o, x = .ref a ∧ DGet H a y o ∧ Q (.bl (!o.isSome)) H
open Classical in
noncomputable def putD (o i v : D) (h : AH) : Option AH := match o, dictOf h o, keyD i with
  | .ref r, some kvs, some k => if kvs.length < sizeLine then some (h.set r (.dK (setD kvs k v))) else none
  | _, _, _ => none
section
variable {C : Ct} {a b : Expr} {ma mb : EM} {pos : Pos}
theorem os_dget : OpS C rDGet oDGet := by
  intro ι h H σ x y d1 d2 Q R r1 r2 p
  unfold oDGet at p
  split at p
  · rename_i kvs k e1 e2
    obtain ⟨i, ws, rfl, hi, rfl, hw, hk, rr⟩ := dictOf_rel R r1 e1
    rcases valD_V k hk rr with ⟨q, _⟩ | ⟨d, v, q1, q2, q3⟩
    · rw [q] at p; exact p.elim
    · rw [q1] at p
      refine ⟨ι i, v, rfl, ?_, p.here R q3⟩
      rw [keyD_V r2 e2, ← q2]
      exact DGet.k hw
  · exact p.elim
theorem os_din : OpS C rDIn oDIn := by
  intro ι h H σ x y d1 d2 Q R r1 r2 p
  unfold oDIn at p
  split at p
  · rename_i kvs k e1 e2
    obtain ⟨i, ws, rfl, hi, rfl, hw, hk, rr⟩ := dictOf_rel R r2 e1
    refine ⟨ι i, valV ws k, rfl, by rw [keyD_V r1 e2]; exact DGet.k hw, ?_⟩
    have e3 : (valV ws k).isSome = (valD kvs k).isSome := by
      rcases valD_V k hk rr with ⟨q1, q2⟩ | ⟨d, v, q1, q2, q3⟩ <;> rw [q1, q2] <;> rfl
    rw [e3]
    exact p.here R (RD.bl.mpr rfl)
  · exact p.elim
theorem os_dnotin : OpS C rDNotIn oDNotIn := by
  intro ι h H σ x y d1 d2 Q R r1 r2 p
  unfold oDNotIn at p
  split at p
  · rename_i kvs k e1 e2
    obtain ⟨i, ws, rfl, hi, rfl, hw, hk, rr⟩ := dictOf_rel R r2 e1
    refine ⟨ι i, valV ws k, rfl, by rw [keyD_V r1 e2]; exact DGet.k hw, ?_⟩
    have e3 : (valV ws k).isSome = (valD kvs k).isSome := by
      rcases valD_V k hk rr with ⟨q1, q2⟩ | ⟨d, v, q1, q2, q3⟩ <;> rw [q1, q2] <;> rfl
    rw [e3]
    exact p.here R (RD.bl.mpr rfl)
  · exact p.elim
theorem me_dget (hu : C.X.A.units + 1 < cLine) (ha : ME C a ma) (hb : ME C b mb) (hs : NoSl b := by intro _ _; rfl) : ME C (.Subscript a b pos) (eOp oDGet ma mb) := by
  obtain ⟨ta, pa, sa⟩ := ha
  obtain ⟨tb, pb, sb⟩ := hb
  exact ⟨_, pe_dget hu pa pb hs, sa.op sb os_dget⟩
theorem ss_dict : SetS C rSetD putD := by
  intro ι h H x y z d1 d2 d3 h' Q R r1 r2 r3 e k
  unfold putD at e
  split at e
  · rename_i r kvs key e2 e1
    split at e
    · rename_i hl
      cases e
      obtain ⟨i, ws, ei, hi, rfl, hw, hk, rr⟩ := dictOf_rel R r1 e1
      cases ei
      have ll : ws.length < sizeLine := by
        have := congrArg List.length hk
        rw [List.length_map, List.length_map] at this
        exact Nat.lt_of_le_of_lt (Nat.le_of_eq this.symm) hl
      refine ⟨ι r, _, rfl, by rw [keyD_V r2 e2]; exact DPut.k hw ll, ?_⟩
      refine k ι _ (by rw [List.length_set]; exact Ext.put R hi) (R.put hi fun xx => ⟨_, upd_same, ?_⟩)
      obtain ⟨s1, s2⟩ := setD_V key hk rr r3
      exact ⟨s1, s2.mono (xx.grow R)⟩
    · cases e
  · cases e
/-- {} -/
def eDict : EM := fun _ h => .ok (.ref h.length) (h ++ [.dK []])
theorem me_dict : ME C (.Dict [] [] pos) eDict := by
  refine ⟨_, pe_dnewK, ⟨fun env h σ H ι Q R V p => fun a ha => ?_⟩⟩
  have el : (h ++ [AO.dK []]).length = h.length + 1 := by simp
  have x : Ext ι h.length H (ιset ι h.length a) (h.length + 1) (upd H a (.dK [])) := Ext.new ha
  refine p (ιset ι h.length a) _ (.ref a) (by rw [el]; exact x) (R.new ha fun x => ⟨[], upd_same, rfl, RDs.nil'⟩) ?_
  rw [el]
  exact RD.ref.mpr ⟨Nat.lt_succ_self _, by rw [ιset_same]⟩
end
end Rf

set_option maxHeartbeats 1000000
/-! tests on dicts, a list turned round -/
namespace Rf
open PySem PySem.Spec PyProof.Rows L2
section
variable {C : Ct} {a b : Expr} {ma mb : EM} {pos : Pos}
theorem me_din (hu : C.X.A.units + 1 < cLine) (ha : ME C a ma) (hb : ME C b mb) (hm : behindInMarks .In b = false := by rfl) : ME C (.Compare a [.In] [b] pos) (eOp oDIn ma mb) := by
  obtain ⟨ta, pa, sa⟩ := ha
  obtain ⟨tb, pb, sb⟩ := hb
  exact ⟨_, pe_cmp (pc_din hu pa pb) hm, sa.op sb os_din⟩
theorem me_dnotin (hu : C.X.A.units + 1 < cLine) (ha : ME C a ma) (hb : ME C b mb) (hm : behindInMarks .NotIn b = false := by rfl) : ME C (.Compare a [.NotIn] [b] pos) (eOp oDNotIn ma mb) := by
  obtain ⟨ta, pa, sa⟩ := ha
  obtain ⟨tb, pb, sb⟩ := hb
  exact ⟨_, pe_cmp (pc_dnotin hu pa pb) hm, sa.op sb os_dnotin⟩
theorem mt_din (hu : C.X.A.units + 1 < cLine) (ha : ME C a ma) (hb : ME C b mb) (hm : behindInMarks .In b = false := by rfl) : MT C (.Compare a [.In] [b] pos) (eOp oDIn ma mb) := by
  obtain ⟨ta, pa, sa⟩ := ha
  obtain ⟨tb, pb, sb⟩ := hb
  exact ⟨_, pt_cmp (pc_din hu pa pb) hm, (sa.op sb os_din).test⟩
theorem mt_dnotin (hu : C.X.A.units + 1 < cLine) (ha : ME C a ma) (hb : ME C b mb) (hm : behindInMarks .NotIn b = false := by rfl) : MT C (.Compare a [.NotIn] [b] pos) (eOp oDNotIn ma mb) := by
  obtain ⟨ta, pa, sa⟩ := ha
  obtain ⟨tb, pb, sb⟩ := hb
  exact ⟨_, pt_cmp (pc_dnotin hu pa pb) hm, (sa.op sb os_dnotin).test⟩
/-- xs[::-1] of a list -/
def eRev (m : EM) : EM := fun env h => (m env h).then fun d h1 => match listOf h1 d with
  | some ds => .ok (.ref h1.length) (h1 ++ [.lst ds.reverse])
  | none => .stuck
theorem RDs.rev {K : PySem.W.Frag} {ι : Nat → Addr} {n : Nat} {H : Hp} : ∀ {ds : List D} {vs : List V}, RDs K ι n H ds vs → RDs K ι n H ds.reverse vs.reverse
  | [], vs, r => by rw [RDs.nil.mp r]; exact RDs.nil'
  | d :: ds, vs, r => by
    obtain ⟨v, vs', rfl, r1, r2⟩ := RDs.cons.mp r
    rw [List.reverse_cons, List.reverse_cons]
    exact RDs.append (RDs.rev r2) (RDs.cons' r1 RDs.nil')
theorem me_rev {k : Nat} {p1 p2 p3 : Pos} (ha : ME C a ma) : ME C (.Subscript a (.Slice none none (some (.UnaryOp .USub (.Constant (.int 1) k p1) p2)) p3) pos) (eRev ma) := by
  obtain ⟨ta, pa, sa⟩ := ha
  refine ⟨_, pe_revL pa, ⟨fun env h σ H ι Q R V p => ?_⟩⟩
  refine sa.then R V p fun d1 h1 ι1 H1 v1 x1 R1 V1 r1 p1 => ?_
  split at p1
  · rename_i ds e
    obtain ⟨a, vs, rfl, s, rr⟩ := listOf_sq R1 r1 e
    exact ⟨a, vs, rfl, s, fun l hl => PostE.lst p1 R1 (RDs.rev rr) hl⟩
  · exact p1.elim
end
end Rf

set_option maxHeartbeats 1000000
/-! comprehensions with two fors: the new list stands among the things from the start -/
namespace Rf
open PySem PySem.Spec PyProof.Rows L2
noncomputable def app1 (r : Nat) (d : D) (h : AH) : Option AH := match h[r]? with
  | some (.lst ds) => if FitsL ds.length then some (h.set r (.lst (ds ++ [d]))) else none
  | _ => none
noncomputable def lcI (it : AIt) (g : GM) (tt te : EM) (e0 : AE) (r : Nat) : Nat → Nat → AH → Option AH
  | 0, _, _ => none
  | k + 1, i, h => match it.nxt i h with
    | some none => some h
    | some (some d) => (match g d e0 h with
      | .nx e1 h1 => (match tt e1 h1 with
        | .ok (.bl true) h2 => (match te e1 h2 with
          | .ok d2 h3 => (match app1 r d2 h3 with
            | some h4 => lcI it g tt te e0 r k (i + 1) h4
            | none => none)
          | _ => none)
        | .ok (.bl false) h2 => lcI it g tt te e0 r k (i + 1) h2
        | _ => none)
      | _ => none)
    | none => none
noncomputable def lcO (it : AIt) (g : GM) (tt : EM) (mi1 : IM) (g1 : GM) (tt1 te : EM) (vs1 : List Nat) (e0 : AE) (r : Nat) : Nat → Nat → AH → Option AH
  | 0, _, _ => none
  | k + 1, i, h => match it.nxt i h with
    | some none => some h
    | some (some d) => (match g d e0 h with
      | .nx e1 h1 => (match tt e1 h1 with
        | .ok (.bl true) h2 => (match mi1 e1 h2 with
          | .ok it1 h3 => (match lcI it1 g1 tt1 te (wipeE e1 vs1) r (it1.n + 1) 0 h3 with
            | some h4 => lcO it g tt mi1 g1 tt1 te vs1 e0 r k (i + 1) h4
            | none => none)
          | _ => none)
        | .ok (.bl false) h2 => lcO it g tt mi1 g1 tt1 te vs1 e0 r k (i + 1) h2
        | _ => none)
      | _ => none)
    | none => none
noncomputable def eLc2 (mi : IM) (g : GM) (tt : EM) (mi1 : IM) (g1 : GM) (tt1 te : EM) (vs vs1 : List Nat) : EM := fun e h => match mi e h with
  | .ok it h1 => (match lcO it g tt mi1 g1 tt1 te vs1 (wipeE e vs) h1.length (it.n + 1) 0 (h1 ++ [.lst []]) with
    | some h2 => .ok (.ref h1.length) h2
    | none => .stuck)
  | .exc c fs h1 => .exc c fs h1
  | .stuck => .stuck
def canI (C : Ct) (m : IM) : TI := fun σ H Q => ∃ env h ι, Rel C.X.K ι h H ∧ RV C ι h.length H env σ ∧ PostI C ι h.length H σ (m env h) Q
theorem MI.can {C : Ct} {tg e : Expr} {m : IM} (h : MI C tg e m) : PI C.X tg e (canI C m) := by
  obtain ⟨t, p, s⟩ := h
  exact ⟨fun pins st σ H Q I ⟨env, h, ι, R, V, q⟩ => p.run pins st σ H Q I (s.run env h σ H ι Q R V q)⟩
section
variable {C : Ct} {elt tg iter tg1 iter1 : Expr} {ifs ifs1 : List Expr} {scope : Scope} {own : List (Str × Nat)} {vs1 : List Nat} {pos : Pos} {mi mi1 : IM} {g g1 : GM} {t t1 : TG} {mt mt1 me : EM}
theorem SimE.lc2 {ti : TI} (si : SimI C ti mi) (sg : ∀ s H Cc cl fp, SimG (C.blk s H scope Cc cl fp) t g ∧ OnlyAt t (own.map (·.2))) (sg1 : ∀ s H Cc cl fp, SimG (C.blk s H scope Cc cl fp) t1 g1 ∧ OnlyAt t1 vs1) :
    SimE C (tLc2 ti t (canT C.flat mt) (canI C.flat mi1) t1 (canT C.flat mt1) (canE C.flat me) (own.map (·.2)) vs1) (eLc2 mi g mt mi1 g1 mt1 me (own.map (·.2)) vs1) := by
  refine ⟨fun env h σ H ι Q R V p => ?_⟩
  refine si.run env h σ H ι _ R V ?_
  unfold eLc2 at p
  cases hm : mi env h with
  | exc c fs h1 => rw [hm] at p; exact p
  | stuck => rw [hm] at p; exact p
  | ok it h1 =>
    rw [hm] at p
    dsimp only at p
    refine fun ι0 H0 J x0 R0 J0 Dp hD => ?_
    have V0 := V.ext R x0
    cases hl : lcO it g mt mi1 g1 mt1 me vs1 (wipeE env (own.map (·.2))) h1.length (it.n + 1) 0 (h1 ++ [.lst []]) with
    | none => rw [hl] at p; exact (show False from p).elim
    | some hF =>
      rw [hl] at p
      dsimp only at p
      have el : (h1 ++ [AO.lst []]).length = h1.length + 1 := by simp
      have xn : Ext ι0 h1.length H0 (ιset ι0 h1.length Dp) (h1.length + 1) (upd H0 Dp (.lst [])) := Ext.new hD
      have Rn : Rel C.X.K (ιset ι0 h1.length Dp) (h1 ++ [.lst []]) (upd H0 Dp (.lst [])) := R0.new hD fun x => ⟨[], upd_same, RDs.nil'⟩
      refine ⟨fun i m H => ∃ h ι, Ext (ιset ι0 h1.length Dp) (h1.length + 1) (upd H0 Dp (.lst [])) ι h.length H ∧ Rel C.X.K ι h H ∧ RE C.X.K ι h.length H (wipeE env (own.map (·.2))) (L2.wipe σ (own.map (·.2))) ∧
        lcO it g mt mi1 g1 mt1 me vs1 (wipeE env (own.map (·.2))) h1.length m i h = some hF,
        ⟨it.n + 1, h1 ++ [.lst []], ιset ι0 h1.length Dp, by rw [el]; exact .refl, Rn, by rw [el]; exact (V0.re.wipe _).mono (xn.grow R0), hl⟩, ?_⟩
      rintro i m H ⟨h, ι', x, R, E, hq⟩
      cases m with
      | zero => cases hq
      | succ m =>
        obtain ⟨j1, j2⟩ := J0 i ι' h H (xn.trans x) R
        unfold lcO at hq
        cases hn : it.nxt i h with
        | none => rw [hn] at hq; cases hq
        | some od =>
          rw [hn] at hq
          cases od with
          | none =>
            cases hq
            refine .inl ⟨j1 hn, p ι' H (.ref Dp) (x0.trans (xn.trans x)) R (RD.ref.mpr ⟨?_, ?_⟩)⟩
            · have := x.le; omega
            · rw [x.ag _ (by omega), ιset_same]
          | some d =>
            dsimp only at hq
            obtain ⟨go, y⟩ := j2 d hn
            refine .inr ⟨go, _, fun H' hN => ⟨m, Nat.lt_succ_self m, hN⟩, fun xv H2 hy => ?_⟩
            obtain ⟨ι2, x2, R2, r2⟩ := y xv H2 hy
            have E2 := E.mono (x2.grow R)
            have sgo := sg C.X.s_0 H2 0 [] []
            cases hgd : g d (wipeE env (own.map (·.2))) h with
            | nx e3 h3 =>
              rw [hgd] at hq
              dsimp only at hq
              refine sgo.2.at_ (wipe_wipe fun _ h => h) (sgo.1.run d xv _ h _ H2 ι2 _ R2 ⟨E2, trivial⟩ r2 ?_)
              rw [hgd]
              refine fun ι3 H3 σ3 x3 R3 V3 => ?_
              have V3' : RV C.flat ι3 h3.length H3 e3 σ3 := ⟨V3.re, trivial⟩
              have E3 := E2.mono (x3.grow R2)
              refine ⟨e3, h3, ι3, R3, V3', ?_⟩
              cases htt : mt e3 h3 with
              | ok db h4 =>
                rw [htt] at hq
                cases db with
                | bl b =>
                  refine ⟨b, rfl, fun ι4 H4 x4 R4 => ?_⟩
                  have xx := x.trans (x2.trans (x3.trans x4))
                  have E4 := E3.mono (x4.grow R3)
                  have V4 := V3'.ext R3 x4
                  cases b with
                  | false =>
                    dsimp only at hq
                    refine iteF ?_
                    exact ⟨h4, ι4, xx, R4, E4, hq⟩
                  | true =>
                    dsimp only at hq
                    refine iteT ?_
                    refine ⟨e3, h4, ι4, R4, V4, ?_⟩
                    cases hmi : mi1 e3 h4 with
                    | exc c fs h5 => rw [hmi] at hq; cases hq
                    | stuck => rw [hmi] at hq; cases hq
                    | ok it1 h5 =>
                      rw [hmi] at hq
                      dsimp only at hq
                      refine fun ι5 H5 J1 x5 R5 J15 => ?_
                      have E5 := E4.mono (x5.grow R4)
                      have V5 := V4.ext R4 x5
                      cases hli : lcI it1 g1 mt1 me (wipeE e3 vs1) h1.length (it1.n + 1) 0 h5 with
                      | none => rw [hli] at hq; cases hq
                      | some hG =>
                        rw [hli] at hq
                        dsimp only at hq
                        refine ⟨fun j k H => ∃ h ι, Ext ι5 h5.length H5 ι h.length H ∧ Rel C.X.K ι h H ∧ RE C.X.K ι h.length H (wipeE env (own.map (·.2))) (L2.wipe σ (own.map (·.2))) ∧ RE C.X.K ι h.length H (wipeE e3 vs1) (L2.wipe σ3 vs1) ∧
                          lcI it1 g1 mt1 me (wipeE e3 vs1) h1.length k j h = some hG, ⟨it1.n + 1, h5, ι5, .refl, R5, E5, V5.re.wipe _, hli⟩, ?_⟩
                        rintro j k H ⟨h, ι', xi, R, E, Ei, hqi⟩
                        cases k with
                        | zero => cases hqi
                        | succ k =>
                          obtain ⟨k1, k2⟩ := J15 j ι' h H xi R
                          unfold lcI at hqi
                          cases hn1 : it1.nxt j h with
                          | none => rw [hn1] at hqi; cases hqi
                          | some od1 =>
                            rw [hn1] at hqi
                            cases od1 with
                            | none =>
                              cases hqi
                              exact .inl ⟨k1 hn1, hG, ι', xx.trans (x5.trans xi), R, E, hq⟩
                            | some d1 =>
                              dsimp only at hqi
                              obtain ⟨go1, y1⟩ := k2 d1 hn1
                              refine .inr ⟨go1, _, fun H' hN => ⟨k, Nat.lt_succ_self k, hN⟩, fun xv1 H6 hy1 => ?_⟩
                              obtain ⟨ι6, x6, R6, r6⟩ := y1 xv1 H6 hy1
                              have E6 := E.mono (x6.grow R)
                              have Ei6 := Ei.mono (x6.grow R)
                              have sgo1 := sg1 C.X.s_0 H6 0 [] []
                              cases hgd1 : g1 d1 (wipeE e3 vs1) h with
                              | nx e7 h7 =>
                                rw [hgd1] at hqi
                                dsimp only at hqi
                                refine sgo1.2.at_ (wipe_wipe fun _ h => h) (sgo1.1.run d1 xv1 _ h _ H6 ι6 _ R6 ⟨Ei6, trivial⟩ r6 ?_)
                                rw [hgd1]
                                refine fun ι7 H7 σ7 x7 R7 V7 => ?_
                                have V7' : RV C.flat ι7 h7.length H7 e7 σ7 := ⟨V7.re, trivial⟩
                                have E7 := E6.mono (x7.grow R6)
                                have Ei7 := Ei6.mono (x7.grow R6)
                                refine ⟨e7, h7, ι7, R7, V7', ?_⟩
                                cases htt1 : mt1 e7 h7 with
                                | ok db1 h8 =>
                                  rw [htt1] at hqi
                                  cases db1 with
                                  | bl b1 =>
                                    refine ⟨b1, rfl, fun ι8 H8 x8 R8 => ?_⟩
                                    have E8 := E7.mono (x8.grow R7)
                                    have Ei8 := Ei7.mono (x8.grow R7)
                                    have x68 := xi.trans (x6.trans (x7.trans x8))
                                    cases b1 with
                                    | false =>
                                      dsimp only at hqi
                                      refine iteF ?_
                                      exact ⟨h8, ι8, x68, R8, E8, Ei8, hqi⟩
                                    | true =>
                                      dsimp only at hqi
                                      refine iteT ?_
                                      refine ⟨e7, h8, ι8, R8, V7'.ext R7 x8, ?_⟩
                                      cases hte : me e7 h8 with
                                      | exc c fs h9 => rw [hte] at hqi; cases hqi
                                      | stuck => rw [hte] at hqi; cases hqi
                                      | ok d9 h9 =>
                                        rw [hte] at hqi
                                        dsimp only at hqi
                                        refine fun ι9 H9 v9 x9 R9 r9 => ?_
                                        have E9 := E8.mono (x9.grow R8)
                                        have Ei9 := Ei8.mono (x9.grow R8)
                                        have x99 := x68.trans x9
                                        cases ha : app1 h1.length d9 h9 with
                                        | none => rw [ha] at hqi; cases hqi
                                        | some hA =>
                                          rw [ha] at hqi
                                          dsimp only at hqi
                                          unfold app1 at ha
                                          cases hr : h9[h1.length]? with
                                          | none => rw [hr] at ha; cases ha
                                          | some o =>
                                            rw [hr] at ha
                                            cases o with
                                            | lst ds =>
                                              dsimp only at ha
                                              by_cases hz : FitsL ds.length
                                              · rw [if_pos hz] at ha
                                                cases ha
                                                obtain ⟨ws, hw, rr⟩ := R9.ob _ _ hr
                                                have hi9 := (List.getElem?_eq_some_iff.mp hr).1
                                                have xall := xx.trans (x5.trans x99)
                                                have eD : ι9 h1.length = Dp := by rw [xall.ag _ (by omega), ιset_same]
                                                rw [eD] at hw
                                                have xp : Ext ι9 h9.length H9 ι9 h9.length (upd H9 (ι9 h1.length) (.lst (ws ++ [v9]))) := Ext.put R9 hi9
                                                have Rp : Rel C.X.K ι9 (h9.set h1.length (.lst (ds ++ [d9]))) (upd H9 (ι9 h1.length) (.lst (ws ++ [v9]))) := R9.put hi9 fun xq => ⟨_, upd_same, RDs.append (rr.mono (xq.grow R9)) (RDs.cons' (r9.mono (xq.grow R9)) RDs.nil')⟩
                                                rw [eD] at xp Rp
                                                have ls : (h9.set h1.length (AO.lst (ds ++ [d9]))).length = h9.length := List.length_set ..
                                                refine ⟨ws, hw, by rw [← rr.length]; exact hz, _, ι9, by rw [ls]; exact x99.trans xp, Rp, by rw [ls]; exact E9.mono (xp.grow R9), by rw [ls]; exact Ei9.mono (xp.grow R9), hqi⟩
                                              · rw [if_neg hz] at ha; cases ha
                                            | _ => cases ha
                                  | _ => cases hqi
                                | exc c fs h8 => rw [htt1] at hqi; cases hqi
                                | stuck => rw [htt1] at hqi; cases hqi
                              | _ => rw [hgd1] at hqi; cases hqi
                | _ => cases hq
              | exc c fs h4 => rw [htt] at hq; cases hq
              | stuck => rw [htt] at hq; cases hq
            | _ => rw [hgd] at hq; cases hq
theorem me_lc2 (hc : C.X.calm = true) (hN : C.X.N.Nodup) (hi : MI C tg iter mi) (ok : BlkOk C.X.N C.X.env.scope scope own) (hv : ∀ i ∈ vs1, i ∈ own.map (·.2))
    (hg : ∀ s H Cc cl fp, MGc (C.blk s H scope Cc cl fp) tg g t (own.map (·.2))) (ht : ∀ s H Cc cl fp, MTs (C.blk s H scope Cc cl fp) ifs mt)
    (hi1 : ∀ s H Cc cl fp, MI (C.blk s H scope Cc cl fp) tg1 iter1 mi1) (hg1 : ∀ s H Cc cl fp, MGc (C.blk s H scope Cc cl fp) tg1 g1 t1 vs1) (ht1 : ∀ s H Cc cl fp, MTs (C.blk s H scope Cc cl fp) ifs1 mt1)
    (he : ∀ s H Cc cl fp, ME (C.blk s H scope Cc cl fp) elt me) (hs : ∀ x, foldedSetIterable iter C.X.env x = pure x := by intro _; rfl) (hs1 : ∀ env x, foldedSetIterable iter1 env x = pure x := by intro _ _; rfl) :
    ME C (.ListComp elt [⟨tg, iter, ifs, 0⟩, ⟨tg1, iter1, ifs1, 0⟩] scope pos) (eLc2 mi g mt mi1 g1 mt1 me (own.map (·.2)) vs1) := by
  obtain ⟨ti, pi, si⟩ := hi
  exact ⟨_, pe_lc2 hc hN pi ok hv (fun s H Cc cl fp => (hg s H Cc cl fp).1) (fun s H Cc cl fp => (ht s H Cc cl fp).can) (fun s H Cc cl fp => (hi1 s H Cc cl fp).can) (fun s H Cc cl fp => (hg1 s H Cc cl fp).1) (fun s H Cc cl fp => (ht1 s H Cc cl fp).can) (fun s H Cc cl fp => (he s H Cc cl fp).can) hs hs1,
    SimE.lc2 si (fun s H Cc cl fp => (hg s H Cc cl fp).2) (fun s H Cc cl fp => (hg1 s H Cc cl fp).2)⟩
theorem ms_setLc2 {i : Nat} {y : Str} {py spos : Pos} (hc : C.X.calm = true) (hN : C.X.N.Nodup) (hy : C.X.N[i]? = some y) (hyl : C.X.env.scope.names.lookup y = some .local)
    (hsw : swapsWith (.ListComp elt [⟨tg, iter, ifs, 0⟩, ⟨tg1, iter1, ifs1, 0⟩] scope pos) (some (.Name y py)) spos.line C.X.env = pure true) (hi : MI C tg iter mi) (ok : BlkOk C.X.N C.X.env.scope scope own) (hv : ∀ i ∈ vs1, i ∈ own.map (·.2))
    (hg : ∀ s H Cc cl fp, MGc (C.blk s H scope Cc cl fp) tg g t (own.map (·.2))) (ht : ∀ s H Cc cl fp, MTs (C.blk s H scope Cc cl fp) ifs mt)
    (hi1 : ∀ s H Cc cl fp, MI (C.blk s H scope Cc cl fp) tg1 iter1 mi1) (hg1 : ∀ s H Cc cl fp, MGc (C.blk s H scope Cc cl fp) tg1 g1 t1 vs1) (ht1 : ∀ s H Cc cl fp, MTs (C.blk s H scope Cc cl fp) ifs1 mt1)
    (he : ∀ s H Cc cl fp, ME (C.blk s H scope Cc cl fp) elt me) (hne : ∀ y, C.ea = some y → y.i ≠ i := by exact fun _ z => nomatch z) (hs : ∀ x, foldedSetIterable iter C.X.env x = pure x := by intro _; rfl) (hs1 : ∀ env x, foldedSetIterable iter1 env x = pure x := by intro _ _; rfl) :
    MS C (.Assign [.Name y py] (.ListComp elt [⟨tg, iter, ifs, 0⟩, ⟨tg1, iter1, ifs1, 0⟩] scope pos) spos) (sSet i (eLc2 mi g mt mi1 g1 mt1 me (own.map (·.2)) vs1)) := by
  obtain ⟨ti, pi, si⟩ := hi
  refine ⟨_, ps_setLc2 (te := canE C.flat me) (tt := canT C.flat mt) (tt1 := canT C.flat mt1) (wi1 := canI C.flat mi1) hc hN hy hyl hsw pi ok hv (fun s H Cc cl fp => (hg s H Cc cl fp).1) (fun s H Cc cl fp => (ht s H Cc cl fp).can) (fun s H Cc cl fp => (hi1 s H Cc cl fp).can) (fun s H Cc cl fp => (hg1 s H Cc cl fp).1) (fun s H Cc cl fp => (ht1 s H Cc cl fp).can) (fun s H Cc cl fp => (he s H Cc cl fp).can) hs hs1, ⟨fun env h σ H ι D R V p => ?_⟩⟩
  have s1 : SimE C _ (eLc2 mi g mt mi1 g1 mt1 me (own.map (·.2)) vs1) := SimE.lc2 si (fun s H Cc cl fp => (hg s H Cc cl fp).2) (fun s H Cc cl fp => (hg1 s H Cc cl fp).2)
  exact s1.thenS R V p fun d h1 ι1 H1 v1 x1 R1 V1 r1 p1 => p1 ι1 H1 _ .refl R1 (V1.set i r1 hne)
end
end Rf

set_option maxHeartbeats 1000000
/-! built-in functions called with keywords: sorted(xs, reverse=True) of ints -/
namespace Rf
open PySem PySem.Spec PyProof.Rows L2
def CallSK (C : Ct) (r : List V → List V → Hp → VK → Prop) (g : List D → List D → AH → ER) : Prop := ∀ (ι : Nat → Addr) (h : AH) (H : Hp) (σ : List (Option V)) (xs zs : List V) (ds es : List D) (Q : VK), Rel C.X.K ι h H → RDs C.X.K ι h.length H ds xs → RDs C.X.K ι h.length H es zs → PostE C ι h.length H σ (g ds es h) Q → r xs zs H Q
def eCallBK (g : List D → List D → AH → ER) (ml mk : LM) : EM := fun env h => (ml env h).then fun ds h1 => (mk env h1).then fun es h2 => g ds es h2
section
variable {C : Ct} {x : Str} {p pos : Pos} {e : Expr} {es : List Expr} {kws : List Keyword} {id : String} {ks : List Str} {r : List V → List V → Hp → VK → Prop} {g : List D → List D → AH → ER} {ml mk : LM}
theorem me_callBK (hc : CallRK C.X (.builtin id) ks r) (hs : CallSK C r g) (hm : C.X.mg x = none) (ha : MA C (e :: es) ml) (hw : MK C kws mk) (hv : bootBuiltins x = some (.builtin id) := by decide +kernel) (hg : Gl C.X x := by rfl) (hn : x ≠ "__name__" := by decide) (hdb : (x == ("__debug__" : Str)) = false := by decide)
    (he : backTo pos (starEach (e :: es) C.X.env) = (false, eval e C.X.env) :: backTo pos (starEach es C.X.env) := by rfl) (hpl : (backTo pos (starEach (e :: es) C.X.env)).any (·.1) = false := by rfl)
    (hall : (backToKw pos (keywordEach kws C.X.env)).all (·.1.isSome) = true := by rfl) (hnone : (backToKw pos (keywordEach kws C.X.env)).any (·.1.isNone) = false := by rfl) (hks : (backToKw pos (keywordEach kws C.X.env)).filterMap (·.1) = ks := by rfl) :
    ME C (.Call (.Name x p) (e :: es) kws pos) (eCallBK g ml mk) := by
  obtain ⟨t, pa, s⟩ := ha
  obtain ⟨t2, pk, s2⟩ := hw
  refine ⟨_, pe_callBK hc hg hm hv pa pk hn hdb he hpl hall hnone hks, ⟨fun env h σ H ι Q R V q => ?_⟩⟩
  refine s.run env h σ H ι _ R V ?_
  unfold eCallBK at q
  cases hm : ml env h with
  | ok ds h1 =>
    rw [hm] at q
    refine fun ι' H' vs x R' r => ?_
    refine s2.run env h1 σ H' ι' _ R' (V.ext R x) ?_
    have q1 : PostE C ι h.length H σ ((mk env h1).then fun es h2 => g ds es h2) Q := q
    cases hm2 : mk env h1 with
    | ok es h2 =>
      rw [hm2] at q1
      refine fun ι2 H2 zs x2 R2 r2 => ?_
      exact hs ι2 h2 H2 σ vs zs ds es Q R2 (r.mono (x2.grow R')) r2 (PostE.shift q1 (x.trans x2))
    | exc c fs h2 =>
      rw [hm2] at q1
      exact fun ι2 H2 Cl dd x2 => q1 ι2 H2 Cl dd (x.trans x2)
    | stuck => rw [hm2] at q1; exact q1
  | exc c fs h1 => rw [hm] at q; exact q
  | stuck => rw [hm] at q; exact q
/-- sorted(xs, reverse=b) -/
noncomputable def cSortedR (ds es : List D) (h : AH) : ER := match ds, es with
  | [.ref i], [.bl b] => (match h[i]? with
    | some (.lst us) => (match intsOf us with
      | some ns => .ok (.ref h.length) (h ++ [.lst ((if b then (intSort ns).reverse else intSort ns).map D.int)])
      | none => .stuck)
    | _ => .stuck)
  | _, _ => .stuck
theorem intSort_rev {ns ys : List Int} (p : ys.Perm ns) (u : ys.Pairwise (· ≥ ·)) : ys = (intSort ns).reverse := by
  have := intSort_eq (ns := ns) (ys := ys.reverse) ((List.reverse_perm ys).trans p) (by rw [List.pairwise_reverse]; exact u)
  rw [← this, List.reverse_reverse]
theorem cr_sortedRv : CallRK C.X (.builtin "sorted") [Str.ofString "reverse"] (fun vs zs H Q => ∃ b, rSortedKw C.X.K b [.bl b] vs zs H Q) := by
  intro pins s σ H vs zs us ws Q I r rz h
  obtain ⟨b, h⟩ := h
  exact cr_sortedRev pins s σ H vs zs us ws Q I r rz h
theorem cs_sortedR : CallSK C (fun vs zs H Q => ∃ b, rSortedKw C.X.K b [.bl b] vs zs H Q) cSortedR := by
  intro ι h H σ xs zs ds es Q R r rz p
  unfold cSortedR at p
  split at p
  · rename_i i b
    obtain ⟨v, rfl, q1⟩ := r.one
    obtain ⟨z, rfl, q2⟩ := rz.one
    split at p
    · rename_i us e
      split at p
      · rename_i ns e2
        obtain ⟨vs, rfl, e1, rr⟩ := q1.list R e
        have hs : SqL C.X.K H (ι i) vs := SqL.of e1
        rw [intsOf_eq e2] at rr
        rw [rr.ints] at hs
        refine ⟨b, _, ns, rfl, by rw [RD.bl.mp q2], hs, fun ns' p' pm up hp => ?_⟩
        have en : ns' = (if b then (intSort ns).reverse else intSort ns) := by
          cases b with
          | true => exact intSort_rev pm up
          | false => exact intSort_eq pm up
        rw [en]
        exact PostE.lst p R (RDs.mk_ints _) hp
      · exact p.elim
    · exact p.elim
  · exact p.elim
end
/-- a def of the module that is called with keywords alone (keyword-only parameters) -/
structure DB (K : PySem.W.Frag) (mg : Str → Option Value) (x : Str) (st : Stmt) (f : Addr) (fd : FuncData) : Prop where
  fn : Fun K x x st f fd
  mgf : mg x = some (.ref f)
/-! in, not in: over lists and tuples of data -/
section
variable {X : Cx}
def rInT (K : PySem.W.Frag) : R2 := fun x y H Q => ∃ d ds, Dp K H x d ∧ Dp K H y (.tuple ds) ∧ SeqAt.shaped d = true ∧ SeqAt.shaped (.tuple ds) = true ∧ Q (.bl (ds.any fun z => PyData.eqv z d)) H
def rNotInT (K : PySem.W.Frag) : R2 := fun x y H Q => ∃ d ds, Dp K H x d ∧ Dp K H y (.tuple ds) ∧ SeqAt.shaped d = true ∧ SeqAt.shaped (.tuple ds) = true ∧ Q (.bl (!ds.any fun z => PyData.eqv z d)) H
theorem op_inT (hu : X.A.units + 65 < cLine) : OpR X (compareOp .In) (rInT X.K) := by
  intro pins s σ H x y v u Q I rx ry h
  obtain ⟨d, ds, hd, he, sd, se, q⟩ := h
  obtain ⟨as, r1⟩ := Dp.reads I d x v hd rx
  obtain ⟨bs, r2⟩ := Dp.reads I (.tuple ds) y u he ry
  exact SeqAt.in_tuple_reads r2 r1 (SeqAt.canLay_of_shaped se) (SeqAt.canLay_of_shaped sd) (room_in_shaped sd hu) ⟨.bl _, H, I, rfl, q⟩
theorem op_notInT (hu : X.A.units + 65 < cLine) : OpR X (compareOp .NotIn) (rNotInT X.K) := by
  intro pins s σ H x y v u Q I rx ry h
  obtain ⟨d, ds, hd, he, sd, se, q⟩ := h
  obtain ⟨as, r1⟩ := Dp.reads I d x v hd rx
  obtain ⟨bs, r2⟩ := Dp.reads I (.tuple ds) y u he ry
  exact SeqAt.notIn_tuple_reads r2 r1 (SeqAt.canLay_of_shaped se) (SeqAt.canLay_of_shaped sd) (room_in_shaped sd hu) ⟨.bl _, H, I, rfl, q⟩
def rIn2 (K : PySem.W.Frag) : R2 := fun x y H Q => rInD K x y H Q ∨ rInT K x y H Q
def rNotIn2 (K : PySem.W.Frag) : R2 := fun x y H Q => rNotInD K x y H Q ∨ rNotInT K x y H Q
theorem op_in2 (hu : X.A.units + 65 < cLine) : OpR X (compareOp .In) (rIn2 X.K) := (op_inD hu).or (op_inT hu)
theorem op_notIn2 (hu : X.A.units + 65 < cLine) : OpR X (compareOp .NotIn) (rNotIn2 X.K) := (op_notInD hu).or (op_notInT hu)
end
def oIn2 (a b : D) (h : AH) : ER := match a.toP h 20, b.toP h 20 with
  | some p, some (.list qs) => .ok (.bl (qs.any fun z => PyData.eqv z p)) h
  | some p, some (.tuple qs) => .ok (.bl (qs.any fun z => PyData.eqv z p)) h
  | _, _ => .stuck
def oNotIn2 (a b : D) (h : AH) : ER := match a.toP h 20, b.toP h 20 with
  | some p, some (.list qs) => .ok (.bl (!qs.any fun z => PyData.eqv z p)) h
  | some p, some (.tuple qs) => .ok (.bl (!qs.any fun z => PyData.eqv z p)) h
  | _, _ => .stuck
section
variable {C : Ct}
theorem os_in2 : OpS C (rIn2 C.X.K) oIn2 := by
  intro ι h H σ x y d1 d2 Q R r1 r2 p
  unfold oIn2 at p
  split at p
  · rename_i a b e1 e2
    obtain ⟨a1, a2, a3⟩ := toP_dp R _ _ _ _ r1 e1
    obtain ⟨b1, b2, b3⟩ := toP_dp R _ _ _ _ r2 e2
    exact .inl ⟨a, b, a1, b1, toP_shaped a2 a3, toP_shaped b2 b3, p.here R (RD.bl.mpr rfl)⟩
  · rename_i a b e1 e2
    obtain ⟨a1, a2, a3⟩ := toP_dp R _ _ _ _ r1 e1
    obtain ⟨b1, b2, b3⟩ := toP_dp R _ _ _ _ r2 e2
    exact .inr ⟨a, b, a1, b1, toP_shaped a2 a3, toP_shaped b2 b3, p.here R (RD.bl.mpr rfl)⟩
  · exact p.elim
theorem os_notIn2 : OpS C (rNotIn2 C.X.K) oNotIn2 := by
  intro ι h H σ x y d1 d2 Q R r1 r2 p
  unfold oNotIn2 at p
  split at p
  · rename_i a b e1 e2
    obtain ⟨a1, a2, a3⟩ := toP_dp R _ _ _ _ r1 e1
    obtain ⟨b1, b2, b3⟩ := toP_dp R _ _ _ _ r2 e2
    exact .inl ⟨a, b, a1, b1, toP_shaped a2 a3, toP_shaped b2 b3, p.here R (RD.bl.mpr rfl)⟩
  · rename_i a b e1 e2
    obtain ⟨a1, a2, a3⟩ := toP_dp R _ _ _ _ r1 e1
    obtain ⟨b1, b2, b3⟩ := toP_dp R _ _ _ _ r2 e2
    exact .inr ⟨a, b, a1, b1, toP_shaped a2 a3, toP_shaped b2 b3, p.here R (RD.bl.mpr rfl)⟩
  · exact p.elim
end
end Rf

/-! printed by mk.py: the plain function of each def -/
namespace Law
open PySem Rf
noncomputable def wc_cycle_at_1 : EM := (eOp oNe (eOp oIx (eVar 0) (eOp oIx (eVar 2) (eUn oNeg (eC (.int 1))))) (eVar 1))
noncomputable def lb_cycle_at_1 : SM := (sExpr (eMeth "list" mAppend (eVar 2) (lCons (eOp oIx (eVar 0) (eOp oIx (eVar 2) (eUn oNeg (eC (.int 1))))) lNil)))
noncomputable def m_cycle_at : SM := (sSeq (sSet 2 (eLst (lCons (eVar 1) lNil)))
  (sSeq (sWhile wc_cycle_at_1 lb_cycle_at_1)
  (sRet (eVar 2))))
noncomputable def c_cycle_at : List D → AH → ER := fsem 3 m_cycle_at
noncomputable def lc_cycles_of_1 : EM := (eLc (iVal (eVar 0)) (gVar 4) (eC (.bl true)) (eC (.bl false)) [4])
noncomputable def lb_cycles_of_2 : SM := (sAsg (eC (.bl true)) (fun d e h => onlyNx ((gSub putL (eVar 3) (eVar 7)) d e h)))
noncomputable def lb_cycles_of_1 : SM := (sIf (eNot (eUn oTruth (eOp oIx (eVar 3) (eVar 5))))
    (sSeq (sSet 6 (eCall (argn 2 c_cycle_at) (lCons (eVar 0) (lCons (eVar 5) lNil))))
  (sSeq (sFor (iVal (eVar 6)) (gVar 7) lb_cycles_of_2)
  (sIf (eOr (eUn oTruth (eVar 1)) (eOp oGt (eCall cLen (lCons (eVar 6) lNil)) (eC (.int 1))))
    (sExpr (eMeth "list" mAppend (eVar 2) (lCons (eCall cTuple (lCons (eVar 6) lNil)) lNil)))
    sPass)))
    sPass)
noncomputable def m_cycles_of : SM := (sSeq (sSet 2 (eLst lNil))
  (sSeq (sSet 3 lc_cycles_of_1)
  (sSeq (sFor (iRange1 (lCons (eCall cLen (lCons (eVar 0) lNil)) lNil)) (gVar 5) lb_cycles_of_1)
  (sRet (eCall cTuple (lCons (eVar 2) lNil))))))
noncomputable def c_cycles_of : List D → AH → ER := fsem 8 m_cycles_of
noncomputable def lc_shape_of_1 : EM := (eLc (iVal (eCallK 1 1 [0] c_cycles_of (lCons (eVar 0) lNil) (lCons (eC (.bl true)) lNil))) (gVar 1) (eC (.bl true)) (eCall cLen (lCons (eVar 1) lNil)) [1])
noncomputable def m_shape_of : SM := (sRet (eCall cTuple (lCons (eCallBK cSortedR (lCons lc_shape_of_1 lNil) (lCons (eC (.bl true)) lNil)) lNil)))
noncomputable def c_shape_of : List D → AH → ER := fsem 2 m_shape_of
noncomputable def lb_cycle_lengths_2 : SM := (sAsg (eCall cLen (lCons (eVar 2) lNil)) (fun d e h => onlyNx ((gSub putL (eVar 1) (eVar 3)) d e h)))
noncomputable def lb_cycle_lengths_1 : SM := (sFor (iVal (eVar 2)) (gVar 3) lb_cycle_lengths_2)
noncomputable def m_cycle_lengths : SM := (sSeq (sSet 1 (eOp oMul (eLst (lCons (eC (.int 0)) lNil)) (eCall cLen (lCons (eVar 0) lNil))))
  (sSeq (sFor (iVal (eCallK 1 1 [0] c_cycles_of (lCons (eVar 0) lNil) (lCons (eC (.bl true)) lNil))) (gVar 2) lb_cycle_lengths_1)
  (sRet (eVar 1))))
noncomputable def c_cycle_lengths : List D → AH → ER := fsem 4 m_cycle_lengths
noncomputable def wc_matching_2 : EM := (eOp oEq (eOp oIx (eVar 4) (eVar 6)) (eUn oNeg (eC (.int 1))))
noncomputable def lb_matching_2 : SM := (sSeq (sAsg (eVar 7) (fun d e h => onlyNx ((gSub putL (eVar 4) (eVar 6)) d e h)))
  (sSeq (sAsg (eC (.int 0)) (fun d e h => onlyNx ((gSub putL (eVar 3) (eVar 7)) d e h)))
  (sSeq (sSet 6 (eOp oIx (eVar 0) (eVar 6)))
  (sSet 7 (eOp oIx (eVar 1) (eVar 7))))))
noncomputable def lb_matching_1 : SM := (sIf (eOp oEq (eOp oIx (eVar 4) (eVar 5)) (eUn oNeg (eC (.int 1))))
    (sSeq (sSet 6 (eVar 5))
  (sSeq (sSet 7 (eMeth "list" mIndex (eVar 3) (lCons (eOp oIx (eVar 2) (eVar 5)) lNil)))
  (sWhile wc_matching_2 lb_matching_2)))
    sPass)
noncomputable def m_matching : SM := (sSeq (sIf (eOp oNe (eCall (argn 1 c_shape_of) (lCons (eVar 0) lNil)) (eCall (argn 1 c_shape_of) (lCons (eVar 1) lNil)))
    (sRet (eC .non))
    sPass)
  (sSeq (sSet 2 (eCall (argn 1 c_cycle_lengths) (lCons (eVar 0) lNil)))
  (sSeq (sSet 3 (eCall (argn 1 c_cycle_lengths) (lCons (eVar 1) lNil)))
  (sSeq (sSet 4 (eOp oMul (eLst (lCons (eUn oNeg (eC (.int 1))) lNil)) (eCall cLen (lCons (eVar 0) lNil))))
  (sSeq (sFor (iRange1 (lCons (eCall cLen (lCons (eVar 0) lNil)) lNil)) (gVar 5) lb_matching_1)
  (sRet (eCall cTuple (lCons (eVar 4) lNil))))))))
noncomputable def c_matching : List D → AH → ER := fsem 8 m_matching
noncomputable def lc__law_box_1 : EM := (eLc (iVal (eSl (eVar 0) none (some (eC (.int 63))))) (gVar 2) (eC (.bl true)) (eOp oMod (eCall cInt (lCons (eVar 2) lNil)) (eOp oMul (eOp oMul (eOp oPow (eC (.int 10)) (eC (.int 60))) (eOp oPow (eC (.int 10)) (eC (.int 60)))) (eOp oPow (eC (.int 10)) (eC (.int 60))))) [2])
noncomputable def lb__law_box_1 : SM := (sSet 3 (eOp oMod (eCall cInt (lCons (eOp oAdd (eOp oAdd (eOp oMul (eVar 3) (eC (.int 69621))) (eOp oMod (eVar 2) (eC (.int 1000003)))) (eC (.int 17))) lNil)) (eC (.int 2147483647))))
noncomputable def m__law_box : SM := (sSeq (sSet 1 lc__law_box_1)
  (sSeq (sSet 3 (eCall cLen (lCons (eVar 1) lNil)))
  (sSeq (sFor (iVal (eVar 1)) (gVar 2) lb__law_box_1)
  (sRet (eLst (lCons (eVar 1) (lCons (eC (.int 0)) (lCons (eC (.int 0)) (lCons (eC (.int 0)) (lCons (eVar 3) lNil))))))))))
noncomputable def c__law_box : List D → AH → ER := fsem 4 m__law_box
noncomputable def m__law_take : SM := (sSeq (sSet 2 (eOp oIx (eVar 0) (eC (.int 0))))
  (sSeq (sAsg (eOp oAdd (eOp oIx (eVar 0) (eC (.int 3))) (eC (.int 1))) (fun d e h => onlyNx ((gSub putL (eVar 0) (eC (.int 3))) d e h)))
  (sSeq (sSet 3 (eOp oIx (eVar 0) (eC (.int 4))))
  (sSeq (sIf (eOp oLt (eOp oIx (eVar 0) (eC (.int 1))) (eCall cLen (lCons (eVar 2) lNil)))
    (sSeq (sSet 3 (eOp oIx (eVar 2) (eOp oIx (eVar 0) (eC (.int 1)))))
  (sSeq (sIf (eOp oGe (eVar 3) (eOp oPow (eC (.int 10)) (eC (.int 18))))
    (sSeq (sSet 4 (eOp oIx (eVar 0) (eC (.int 2))))
  (sSeq (sIf (eOp oEq (eVar 4) (eC (.int 0)))
    (sSet 4 (eVar 3))
    sPass)
  (sSeq (sAsg (eOp oDiv (eVar 4) (eVar 1)) (fun d e h => onlyNx ((gSub putL (eVar 0) (eC (.int 2))) d e h)))
  (sSeq (sIf (eOp oEq (eOp oIx (eVar 0) (eC (.int 2))) (eC (.int 0)))
    (sAsg (eOp oAdd (eOp oIx (eVar 0) (eC (.int 1))) (eC (.int 1))) (fun d e h => onlyNx ((gSub putL (eVar 0) (eC (.int 1))) d e h)))
    sPass)
  (sRet (eOp oMod (eCall cInt (lCons (eVar 4) lNil)) (eVar 1)))))))
    sPass)
  (sSeq (sAsg (eOp oAdd (eOp oIx (eVar 0) (eC (.int 2))) (eC (.int 1))) (fun d e h => onlyNx ((gSub putL (eVar 0) (eC (.int 2))) d e h)))
  (sIf (eOp oEq (eOp oIx (eVar 0) (eC (.int 2))) (eC (.int 6)))
    (sSeq (sAsg (eOp oAdd (eOp oIx (eVar 0) (eC (.int 1))) (eC (.int 1))) (fun d e h => onlyNx ((gSub putL (eVar 0) (eC (.int 1))) d e h)))
  (sAsg (eC (.int 0)) (fun d e h => onlyNx ((gSub putL (eVar 0) (eC (.int 2))) d e h))))
    sPass))))
    sPass)
  (sSeq (sSet 5 (eOp oMod (eCall cInt (lCons (eOp oAdd (eOp oAdd (eOp oMul (eVar 3) (eC (.int 48271))) (eOp oMul (eOp oIx (eVar 0) (eC (.int 3))) (eC (.int 69621)))) (eC (.int 65696))) lNil)) (eC (.int 2147483647))))
  (sSeq (sSet 6 (eOp oMod (eCall cInt (lCons (eOp oAdd (eOp oAdd (eOp oMul (eVar 5) (eVar 5)) (eOp oMul (eVar 5) (eC (.int 30269)))) (eOp oIx (eVar 0) (eC (.int 3)))) lNil)) (eC (.int 2147483629))))
  (sRet (eOp oMod (eCall cInt (lCons (eOp oDiv (eVar 6) (eC (.int 61))) lNil)) (eVar 1)))))))))
noncomputable def c__law_take : List D → AH → ER := fsem 7 m__law_take
noncomputable def lb__law_perm_1 : SM := (sExpr (eMeth "list" mAppend (eVar 3) (lCons (eMeth "list" mPopAt (eVar 2) (lCons (eCall (argn 2 c__law_take) (lCons (eVar 0) (lCons (eCall cLen (lCons (eVar 2) lNil)) lNil))) lNil)) lNil)))
noncomputable def m__law_perm : SM := (sSeq (sSet 2 (eRg1 false (eVar 1)))
  (sSeq (sSet 3 (eLst lNil))
  (sSeq (sFor (iRange1 (lCons (eVar 1) lNil)) (gVar 4) lb__law_perm_1)
  (sRet (eCall cTuple (lCons (eVar 3) lNil))))))
noncomputable def c__law_perm : List D → AH → ER := fsem 5 m__law_perm
noncomputable def lc__law_times_1 : EM := (eLc (iVal (eVar 0)) (gVar 2) (eC (.bl true)) (eOp oIx (eVar 1) (eVar 2)) [2])
noncomputable def m__law_times : SM := (sRet (eCall cTuple (lCons lc__law_times_1 lNil)))
noncomputable def c__law_times : List D → AH → ER := fsem 3 m__law_times
noncomputable def lb__law_conj_1 : SM := (sAsg (eOp oIx (eVar 1) (eOp oIx (eVar 0) (eVar 3))) (fun d e h => onlyNx ((gSub putL (eVar 2) (eOp oIx (eVar 1) (eVar 3))) d e h)))
noncomputable def m__law_conj : SM := (sSeq (sSet 2 (eOp oMul (eLst (lCons (eC (.int 0)) lNil)) (eCall cLen (lCons (eVar 0) lNil))))
  (sSeq (sFor (iRange1 (lCons (eCall cLen (lCons (eVar 0) lNil)) lNil)) (gVar 3) lb__law_conj_1)
  (sRet (eCall cTuple (lCons (eVar 2) lNil)))))
noncomputable def c__law_conj : List D → AH → ER := fsem 4 m__law_conj
noncomputable def lb__law_lengths_1 : SM := (sIf (eOp oGt (eVar 4) (eC (.int 0)))
    (sSeq (sSet 7 (eVar 4))
  (sSeq (sIf (eOp oEq (eVar 2) (eC (.int 0)))
    (sSet 7 (eOp oAdd (eC (.int 1)) (eCall (argn 2 c__law_take) (lCons (eVar 0) (lCons (eVar 4) lNil)))))
    (sIf (eOp oEq (eVar 2) (eC (.int 1)))
    (sSet 7 (eOp oAdd (eC (.int 1)) (eCall (argn 2 c__law_take) (lCons (eVar 0) (lCons (eCall cMin2 (lCons (eVar 4) (lCons (eC (.int 3)) lNil))) lNil)))))
    (sIf (eOp oLt (eVar 3) (eVar 4))
    (sSet 7 (eVar 3))
    sPass)))
  (sSeq (sExpr (eMeth "list" mAppend (eVar 5) (lCons (eVar 7) lNil)))
  (sSet 4 (eOp oSub (eVar 4) (eVar 7))))))
    sPass)
noncomputable def m__law_lengths : SM := (sSeq (sSet 2 (eCall (argn 2 c__law_take) (lCons (eVar 0) (lCons (eC (.int 3)) lNil))))
  (sSeq (sSet 3 (eOp oAdd (eC (.int 1)) (eCall (argn 2 c__law_take) (lCons (eVar 0) (lCons (eVar 1) lNil)))))
  (sSeq (sSet 4 (eVar 1))
  (sSeq (sSet 5 (eLst lNil))
  (sSeq (sFor (iRange1 (lCons (eVar 1) lNil)) (gVar 6) lb__law_lengths_1)
  (sRet (eVar 5)))))))
noncomputable def c__law_lengths : List D → AH → ER := fsem 8 m__law_lengths
noncomputable def lc__law_shaped_1 : EM := (eLc (iRange1 (lCons (eVar 2) lNil)) (gVar 4) (eC (.bl true)) (eOp oAdd (eVar 3) (eOp oMod (eCall cInt (lCons (eOp oAdd (eVar 4) (eC (.int 1))) lNil)) (eVar 2))) [4])
noncomputable def lb__law_shaped_1 : SM := (sSeq (sSet 3 (eCall cLen (lCons (eVar 1) lNil)))
  (sExpr (eMeth "list" mExtend (eVar 1) (lCons lc__law_shaped_1 lNil))))
noncomputable def m__law_shaped : SM := (sSeq (sSet 1 (eLst lNil))
  (sSeq (sFor (iVal (eVar 0)) (gVar 2) lb__law_shaped_1)
  (sRet (eCall cTuple (lCons (eVar 1) lNil)))))
noncomputable def c__law_shaped : List D → AH → ER := fsem 5 m__law_shaped
noncomputable def m__law_other : SM := (sSeq (sSet 4 (eCall (argn 2 c__law_take) (lCons (eVar 0) (lCons (eC (.int 4)) lNil))))
  (sSeq (sIf (eOp oEq (eVar 4) (eC (.int 0)))
    (sRet (eCall (argn 2 c__law_perm) (lCons (eVar 0) (lCons (eVar 3) lNil))))
    sPass)
  (sSeq (sIf (eAnd (eOp oLt (eVar 4) (eC (.int 3))) (eOp oGt (eCall cLen (lCons (eVar 2) lNil)) (eC (.int 1))))
    (sSeq (sSet 5 (eLst (lCons (eOp oSub (eOp oAdd (eOp oIx (eVar 2) (eC (.int 0))) (eOp oIx (eVar 2) (eC (.int 1)))) (eC (.int 1))) (lCons (eC (.int 1)) lNil))))
  (sSeq (sIf (eOp oEq (eVar 4) (eC (.int 2)))
    (sSet 5 (eLst (lCons (eOp oAdd (eOp oIx (eVar 2) (eC (.int 0))) (eOp oIx (eVar 2) (eC (.int 1)))) lNil)))
    sPass)
  (sRet (eCall (argn 2 c__law_conj) (lCons (eCall (argn 1 c__law_shaped) (lCons (eOp oAdd (eVar 5) (eSl (eVar 2) (some (eC (.int 2))) none)) lNil)) (lCons (eCall (argn 2 c__law_perm) (lCons (eVar 0) (lCons (eVar 3) lNil))) lNil))))))
    sPass)
  (sSeq (sIf (eOp oEq (eVar 3) (eC (.int 1)))
    (sRet (eVar 1))
    sPass)
  (sSeq (sSet 6 (eRg1 false (eVar 3)))
  (sSeq (sSet 7 (eCall (argn 2 c__law_take) (lCons (eVar 0) (lCons (eVar 3) lNil))))
  (sSeq (sSet 8 (eOp oMod (eCall cInt (lCons (eOp oAdd (eOp oAdd (eVar 7) (eC (.int 1))) (eCall (argn 2 c__law_take) (lCons (eVar 0) (lCons (eOp oSub (eVar 3) (eC (.int 1))) lNil)))) lNil)) (eVar 3)))
  (sSeq (sAsg (eVar 8) (fun d e h => onlyNx ((gSub putL (eVar 6) (eVar 7)) d e h)))
  (sSeq (sAsg (eVar 7) (fun d e h => onlyNx ((gSub putL (eVar 6) (eVar 8)) d e h)))
  (sRet (eCall (argn 2 c__law_times) (lCons (eVar 1) (lCons (eVar 6) lNil)))))))))))))
noncomputable def c__law_other : List D → AH → ER := fsem 9 m__law_other
noncomputable def lb__law_inverse_1 : SM := (sAsg (eVar 2) (fun d e h => onlyNx ((gSub putL (eVar 1) (eOp oIx (eVar 0) (eVar 2))) d e h)))
noncomputable def m__law_inverse : SM := (sSeq (sSet 1 (eOp oMul (eLst (lCons (eC (.int 0)) lNil)) (eCall cLen (lCons (eVar 0) lNil))))
  (sSeq (sFor (iRange1 (lCons (eCall cLen (lCons (eVar 0) lNil)) lNil)) (gVar 2) lb__law_inverse_1)
  (sRet (eCall cTuple (lCons (eVar 1) lNil)))))
noncomputable def c__law_inverse : List D → AH → ER := fsem 3 m__law_inverse
noncomputable def m__law_pairs : SM := (sSeq (sSet 2 (eCall (argn 2 c__law_lengths) (lCons (eVar 0) (lCons (eVar 1) lNil))))
  (sSeq (sSet 3 (eCall (argn 1 c__law_shaped) (lCons (eVar 2) lNil)))
  (sSeq (sSet 4 (eCall (argn 2 c__law_conj) (lCons (eVar 3) (lCons (eCall (argn 2 c__law_perm) (lCons (eVar 0) (lCons (eVar 1) lNil))) lNil))))
  (sSeq (sSet 5 (eCall (argn 2 c__law_conj) (lCons (eVar 3) (lCons (eCall (argn 2 c__law_perm) (lCons (eVar 0) (lCons (eVar 1) lNil))) lNil))))
  (sSeq (sSet 6 (eCall (argn 4 c__law_other) (lCons (eVar 0) (lCons (eVar 5) (lCons (eVar 2) (lCons (eVar 1) lNil))))))
  (sSeq (sSet 7 (eLst (lCons (eTup (lCons (eVar 4) (lCons (eVar 5) lNil))) (lCons (eTup (lCons (eVar 5) (lCons (eVar 4) lNil))) (lCons (eTup (lCons (eVar 4) (lCons (eVar 6) lNil))) (lCons (eTup (lCons (eVar 6) (lCons (eVar 4) lNil))) lNil))))))
  (sRet (eOp oAdd (eVar 7) (eLst (lCons (eTup (lCons (eVar 4) (lCons (eVar 4) lNil))) (lCons (eTup (lCons (eVar 4) (lCons (eCall (argn 1 c__law_inverse) (lCons (eVar 4) lNil)) lNil))) lNil)))))))))))
noncomputable def c__law_pairs : List D → AH → ER := fsem 8 m__law_pairs
noncomputable def lb__law_carries_1 : SM := (sIf (eOp oNe (eOp oIx (eVar 2) (eOp oIx (eVar 0) (eVar 3))) (eOp oIx (eVar 0) (eOp oIx (eVar 1) (eVar 3))))
    (sRet (eC (.bl false)))
    sPass)
noncomputable def m__law_carries : SM := (sSeq (sFor (iRange1 (lCons (eCall cLen (lCons (eVar 0) lNil)) lNil)) (gVar 3) lb__law_carries_1)
  (sRet (eC (.bl true))))
noncomputable def c__law_carries : List D → AH → ER := fsem 4 m__law_carries
noncomputable def lc__law_all_1 : EM := (eLc (iRange1 (lCons (eVar 0) lNil)) (gVar 5) (eOp oNotIn2 (eVar 5) (eVar 4)) (eOp oAdd (eVar 4) (eTup (lCons (eVar 5) lNil))) [5])
noncomputable def lb__law_all_2 : SM := (sExpr (eMeth "list" mExtend (eVar 3) (lCons lc__law_all_1 lNil)))
noncomputable def lb__law_all_1 : SM := (sSeq (sSet 3 (eLst lNil))
  (sSeq (sFor (iVal (eCall cList (lCons (eVar 1) lNil))) (gVar 4) lb__law_all_2)
  (sSet 1 (eVar 3))))
noncomputable def m__law_all : SM := (sSeq (sSet 1 (eLst (lCons (eTup lNil) lNil)))
  (sSeq (sFor (iRange1 (lCons (eVar 0) lNil)) (gVar 2) lb__law_all_1)
  (sRet (eVar 1))))
noncomputable def c__law_all : List D → AH → ER := fsem 6 m__law_all
noncomputable def lb__law_tried_1 : SM := (sIf (eUn oTruth (eCall (argn 3 c__law_carries) (lCons (eVar 3) (lCons (eVar 1) (lCons (eVar 2) lNil)))))
    (sRet (eVar 3))
    sPass)
noncomputable def m__law_tried : SM := (sSeq (sFor (iVal (eVar 0)) (gVar 3) lb__law_tried_1)
  (sRet (eC .non)))
noncomputable def c__law_tried : List D → AH → ER := fsem 4 m__law_tried
noncomputable def lb__law_is_perm_1 : SM := (sSeq (sIf (eOr (eNot (eUn oTruth (eCall cIsi (lCons (eVar 3) (lCons (eC (.ty "int")) lNil))))) (eOr (eUn oTruth (eCall cIsi (lCons (eVar 3) (lCons (eC (.ty "bool")) lNil)))) (eOr (eOp oLt (eVar 3) (eC (.int 0))) (eOr (eOp oGe (eVar 3) (eVar 1)) (eUn oTruth (eOp oIx (eVar 2) (eVar 3)))))))
    (sRet (eC (.bl false)))
    sPass)
  (sAsg (eC (.bl true)) (fun d e h => onlyNx ((gSub putL (eVar 2) (eVar 3)) d e h))))
noncomputable def m__law_is_perm : SM := (sSeq (sIf (eOr (eNot (eUn oTruth (eCall cIsi (lCons (eVar 0) (lCons (eC (.ty "tuple")) lNil))))) (eOp oNe (eCall cLen (lCons (eVar 0) lNil)) (eVar 1)))
    (sRet (eC (.bl false)))
    sPass)
  (sSeq (sSet 2 (eOp oMul (eLst (lCons (eC (.bl false)) lNil)) (eVar 1)))
  (sSeq (sFor (iVal (eVar 0)) (gVar 3) lb__law_is_perm_1)
  (sRet (eC (.bl true))))))
noncomputable def c__law_is_perm : List D → AH → ER := fsem 4 m__law_is_perm
noncomputable def lb__law_few_1 : SM := (sSeq (sSet 4 (eCall (argn 3 c__law_tried) (lCons (eVar 2) (lCons (eOp oIx (eVar 3) (eC (.int 0))) (lCons (eOp oIx (eVar 3) (eC (.int 1))) lNil)))))
  (sSeq (sSet 5 (eCall (argn 2 c_matching) (lCons (eOp oIx (eVar 3) (eC (.int 0))) (lCons (eOp oIx (eVar 3) (eC (.int 1))) lNil))))
  (sIf (eOp oIs (eVar 4) (eC .non))
    (sIf (eOp oIsNot (eVar 5) (eC .non))
    (sRet (eC (.bl false)))
    sPass)
    (sIf (eOr (eNot (eUn oTruth (eCall (argn 2 c__law_is_perm) (lCons (eVar 5) (lCons (eVar 1) lNil))))) (eOp oNe (eVar 5) (eVar 4)))
    (sRet (eC (.bl false)))
    sPass))))
noncomputable def m__law_few : SM := (sSeq (sSet 1 (eOp oAdd (eC (.int 1)) (eCall (argn 2 c__law_take) (lCons (eVar 0) (lCons (eC (.int 5)) lNil)))))
  (sSeq (sIf (eOp oEq (eCall (argn 2 c__law_take) (lCons (eVar 0) (lCons (eC (.int 8)) lNil))) (eC (.int 0)))
    (sSet 1 (eC (.int 6)))
    sPass)
  (sSeq (sSet 2 (eCall (argn 1 c__law_all) (lCons (eVar 1) lNil)))
  (sSeq (sFor (iVal (eCall (argn 2 c__law_pairs) (lCons (eVar 0) (lCons (eVar 1) lNil)))) (gVar 3) lb__law_few_1)
  (sRet (eC (.bl true)))))))
noncomputable def c__law_few : List D → AH → ER := fsem 6 m__law_few
noncomputable def wc__law_sizes_2 : EM := (eOp oNe (eVar 4) (eVar 2))
noncomputable def lb__law_sizes_2 : SM := (sSeq (sExpr (eMeth "list" mAppend (eVar 3) (lCons (eVar 4) lNil)))
  (sSet 4 (eOp oIx (eVar 0) (eVar 4))))
noncomputable def lb__law_sizes_3 : SM := (sAsg (eCall cLen (lCons (eVar 3) lNil)) (fun d e h => onlyNx ((gSub putL (eVar 1) (eVar 5)) d e h)))
noncomputable def lb__law_sizes_1 : SM := (sIf (eOp oEq (eOp oIx (eVar 1) (eVar 2)) (eC (.int 0)))
    (sSeq (sSet 3 (eLst (lCons (eVar 2) lNil)))
  (sSeq (sSet 4 (eOp oIx (eVar 0) (eVar 2)))
  (sSeq (sWhile wc__law_sizes_2 lb__law_sizes_2)
  (sFor (iVal (eVar 3)) (gVar 5) lb__law_sizes_3))))
    sPass)
noncomputable def m__law_sizes : SM := (sSeq (sSet 1 (eOp oMul (eLst (lCons (eC (.int 0)) lNil)) (eCall cLen (lCons (eVar 0) lNil))))
  (sSeq (sFor (iRange1 (lCons (eCall cLen (lCons (eVar 0) lNil)) lNil)) (gVar 2) lb__law_sizes_1)
  (sRet (eVar 1))))
noncomputable def c__law_sizes : List D → AH → ER := fsem 6 m__law_sizes
noncomputable def lb__law_tally_1 : SM := (sAsg (eOp oAdd (eOp oIx (eVar 1) (eVar 2)) (eC (.int 1))) (fun d e h => onlyNx ((gSub putL (eVar 1) (eVar 2)) d e h)))
noncomputable def m__law_tally : SM := (sSeq (sSet 1 (eOp oMul (eLst (lCons (eC (.int 0)) lNil)) (eOp oAdd (eCall cLen (lCons (eVar 0) lNil)) (eC (.int 1)))))
  (sSeq (sFor (iVal (eVar 0)) (gVar 2) lb__law_tally_1)
  (sRet (eVar 1))))
noncomputable def c__law_tally : List D → AH → ER := fsem 3 m__law_tally
noncomputable def lc__law_is_least_1 : EM := (eLc (iRange1 (lCons (eVar 8) lNil)) (gVar 11) (eAnd (eOp oEq (eOp oIx (eVar 4) (eVar 11)) (eOp oIx (eVar 4) (eVar 8))) (eNot (eUn oTruth (eOp oIx (eVar 6) (eVar 11))))) (eVar 11) [11])
noncomputable def lb__law_is_least_2 : SM := (sSeq (sAsg (eC (.bl true)) (fun d e h => onlyNx ((gSub putL (eVar 5) (eVar 9)) d e h)))
  (sSeq (sAsg (eC (.bl true)) (fun d e h => onlyNx ((gSub putL (eVar 6) (eOp oIx (eVar 0) (eVar 9))) d e h)))
  (sSet 9 (eOp oIx (eVar 1) (eVar 9)))))
noncomputable def lb__law_is_least_1 : SM := (sIf (eNot (eUn oTruth (eOp oIx (eVar 5) (eVar 7))))
    (sSeq (sSet 8 (eOp oIx (eVar 0) (eVar 7)))
  (sSeq (sIf (eOp oGt (eCall cLen (lCons lc__law_is_least_1 lNil)) (eC (.int 0)))
    (sRet (eC (.bl false)))
    sPass)
  (sSeq (sSet 9 (eVar 7))
  (sFor (iRange1 (lCons (eOp oIx (eVar 4) (eVar 8)) lNil)) (gVar 10) lb__law_is_least_2))))
    sPass)
noncomputable def m__law_is_least : SM := (sSeq (sSet 3 (eCall cLen (lCons (eVar 1) lNil)))
  (sSeq (sSet 4 (eCall (argn 1 c__law_sizes) (lCons (eVar 2) lNil)))
  (sSeq (sIf (eOp oNe (eCall (argn 1 c__law_tally) (lCons (eCall (argn 1 c__law_sizes) (lCons (eVar 1) lNil)) lNil)) (eCall (argn 1 c__law_tally) (lCons (eVar 4) lNil)))
    (sRet (eOp oIs (eVar 0) (eC .non)))
    sPass)
  (sSeq (sIf (eOr (eNot (eUn oTruth (eCall (argn 2 c__law_is_perm) (lCons (eVar 0) (lCons (eVar 3) lNil))))) (eNot (eUn oTruth (eCall (argn 3 c__law_carries) (lCons (eVar 0) (lCons (eVar 1) (lCons (eVar 2) lNil)))))))
    (sRet (eC (.bl false)))
    sPass)
  (sSeq (sSet 5 (eOp oMul (eLst (lCons (eC (.bl false)) lNil)) (eVar 3)))
  (sSeq (sSet 6 (eOp oMul (eLst (lCons (eC (.bl false)) lNil)) (eVar 3)))
  (sSeq (sFor (iRange1 (lCons (eVar 3) lNil)) (gVar 7) lb__law_is_least_1)
  (sRet (eC (.bl true))))))))))
noncomputable def c__law_is_least : List D → AH → ER := fsem 12 m__law_is_least
noncomputable def lb__law_many_1 : SM := (sIf (eNot (eUn oTruth (eCall (argn 3 c__law_is_least) (lCons (eCall (argn 2 c_matching) (lCons (eOp oIx (eVar 2) (eC (.int 0))) (lCons (eOp oIx (eVar 2) (eC (.int 1))) lNil))) (lCons (eOp oIx (eVar 2) (eC (.int 0))) (lCons (eOp oIx (eVar 2) (eC (.int 1))) lNil))))))
    (sRet (eC (.bl false)))
    sPass)
noncomputable def m__law_many : SM := (sSeq (sSet 1 (eOp oAdd (eC (.int 2)) (eCall (argn 2 c__law_take) (lCons (eVar 0) (lCons (eC (.int 12)) lNil)))))
  (sSeq (sIf (eOp oEq (eCall (argn 2 c__law_take) (lCons (eVar 0) (lCons (eC (.int 3)) lNil))) (eC (.int 0)))
    (sSet 1 (eOp oAdd (eC (.int 14)) (eCall (argn 2 c__law_take) (lCons (eVar 0) (lCons (eC (.int 27)) lNil)))))
    sPass)
  (sSeq (sFor (iVal (eCall (argn 2 c__law_pairs) (lCons (eVar 0) (lCons (eVar 1) lNil)))) (gVar 2) lb__law_many_1)
  (sRet (eC (.bl true))))))
noncomputable def c__law_many : List D → AH → ER := fsem 3 m__law_many
noncomputable def m_law : SM := (sSeq (sSet 1 (eCall (argn 1 c__law_box) (lCons (eVar 0) lNil)))
  (sRet (eAnd (eCall (argn 1 c__law_few) (lCons (eVar 1) lNil)) (eCall (argn 1 c__law_many) (lCons (eVar 1) lNil)))))
noncomputable def c_law : List D → AH → ER := fsem 2 m_law
end Law

set_option maxHeartbeats 4000000
/-! printed by mk.py: the walk of each def -/
namespace Law
open PySem PySem.Spec PyProof.Rows L2 Rf
def topS (i : Nat) : Stmt := PySem.Challenge.pw_tumbler_k30_least_matching.main.body.getD i (.Pass ⟨0, 0, 0, 0⟩)
abbrev s_cycle_at : Stmt := topS 1
abbrev N_cycle_at : List Str := ["perm", "point", "cycle"]
theorem sc_cycle_at : FnScope N_cycle_at ["perm", "point"] (defScope s_cycle_at) := ⟨rfl, rfl, rfl, by decide +kernel, rfl, by decide +kernel, by decide +kernel⟩
abbrev s_cycles_of : Stmt := topS 3
abbrev N_cycles_of : List Str := ["perm", "fixed", "cycles", "seen", "_", "start", "cycle", "point"]
theorem sc_cycles_of : FnScope N_cycles_of ["perm", "fixed"] (defScope s_cycles_of) := ⟨rfl, rfl, rfl, by decide +kernel, rfl, by decide +kernel, by decide +kernel⟩
abbrev s_shape_of : Stmt := topS 4
abbrev N_shape_of : List Str := ["perm", "cycle"]
theorem sc_shape_of : FnScope N_shape_of ["perm"] (defScope s_shape_of) := ⟨rfl, rfl, rfl, by decide +kernel, rfl, by decide +kernel, by decide +kernel⟩
abbrev s_cycle_lengths : Stmt := topS 6
abbrev N_cycle_lengths : List Str := ["perm", "lengths", "cycle", "point"]
theorem sc_cycle_lengths : FnScope N_cycle_lengths ["perm"] (defScope s_cycle_lengths) := ⟨rfl, rfl, rfl, by decide +kernel, rfl, by decide +kernel, by decide +kernel⟩
abbrev s_matching : Stmt := topS 7
abbrev N_matching : List Str := ["first", "second", "lengths", "free", "images", "point", "x", "y"]
theorem sc_matching : FnScope N_matching ["first", "second"] (defScope s_matching) := ⟨rfl, rfl, rfl, by decide +kernel, rfl, by decide +kernel, by decide +kernel⟩
abbrev s__law_box : Stmt := topS 9
abbrev N__law_box : List Str := ["script", "cells", "cell", "fold"]
theorem sc__law_box : FnScope N__law_box ["script"] (defScope s__law_box) := ⟨rfl, rfl, rfl, by decide +kernel, rfl, by decide +kernel, by decide +kernel⟩
abbrev s__law_take : Stmt := topS 10
abbrev N__law_take : List Str := ["box", "size", "cells", "base", "rest", "once", "twice"]
theorem sc__law_take : FnScope N__law_take ["box", "size"] (defScope s__law_take) := ⟨rfl, rfl, rfl, by decide +kernel, rfl, by decide +kernel, by decide +kernel⟩
abbrev s__law_perm : Stmt := topS 11
abbrev N__law_perm : List Str := ["box", "points", "left", "row", "k"]
theorem sc__law_perm : FnScope N__law_perm ["box", "points"] (defScope s__law_perm) := ⟨rfl, rfl, rfl, by decide +kernel, rfl, by decide +kernel, by decide +kernel⟩
abbrev s__law_times : Stmt := topS 12
abbrev N__law_times : List Str := ["first", "second", "x"]
theorem sc__law_times : FnScope N__law_times ["first", "second"] (defScope s__law_times) := ⟨rfl, rfl, rfl, by decide +kernel, rfl, by decide +kernel, by decide +kernel⟩
abbrev s__law_conj : Stmt := topS 13
abbrev N__law_conj : List Str := ["perm", "by", "row", "i"]
theorem sc__law_conj : FnScope N__law_conj ["perm", "by"] (defScope s__law_conj) := ⟨rfl, rfl, rfl, by decide +kernel, rfl, by decide +kernel, by decide +kernel⟩
abbrev s__law_lengths : Stmt := topS 14
abbrev N__law_lengths : List Str := ["box", "points", "mode", "alike", "left", "lengths", "k", "size"]
theorem sc__law_lengths : FnScope N__law_lengths ["box", "points"] (defScope s__law_lengths) := ⟨rfl, rfl, rfl, by decide +kernel, rfl, by decide +kernel, by decide +kernel⟩
abbrev s__law_shaped : Stmt := topS 15
abbrev N__law_shaped : List Str := ["lengths", "row", "size", "base", "x"]
theorem sc__law_shaped : FnScope N__law_shaped ["lengths"] (defScope s__law_shaped) := ⟨rfl, rfl, rfl, by decide +kernel, rfl, by decide +kernel, by decide +kernel⟩
abbrev s__law_other : Stmt := topS 16
abbrev N__law_other : List Str := ["box", "perm", "lengths", "points", "mode", "parts", "swap", "i", "j"]
theorem sc__law_other : FnScope N__law_other ["box", "perm", "lengths", "points"] (defScope s__law_other) := ⟨rfl, rfl, rfl, by decide +kernel, rfl, by decide +kernel, by decide +kernel⟩
abbrev s__law_inverse : Stmt := topS 17
abbrev N__law_inverse : List Str := ["perm", "row", "i"]
theorem sc__law_inverse : FnScope N__law_inverse ["perm"] (defScope s__law_inverse) := ⟨rfl, rfl, rfl, by decide +kernel, rfl, by decide +kernel, by decide +kernel⟩
abbrev s__law_pairs : Stmt := topS 18
abbrev N__law_pairs : List Str := ["box", "points", "lengths", "plain", "first", "second", "other", "pairs"]
theorem sc__law_pairs : FnScope N__law_pairs ["box", "points"] (defScope s__law_pairs) := ⟨rfl, rfl, rfl, by decide +kernel, rfl, by decide +kernel, by decide +kernel⟩
abbrev s__law_carries : Stmt := topS 19
abbrev N__law_carries : List Str := ["perm", "first", "second", "i"]
theorem sc__law_carries : FnScope N__law_carries ["perm", "first", "second"] (defScope s__law_carries) := ⟨rfl, rfl, rfl, by decide +kernel, rfl, by decide +kernel, by decide +kernel⟩
abbrev s__law_all : Stmt := topS 20
abbrev N__law_all : List Str := ["points", "rows", "k", "longer", "row", "x"]
theorem sc__law_all : FnScope N__law_all ["points"] (defScope s__law_all) := ⟨rfl, rfl, rfl, by decide +kernel, rfl, by decide +kernel, by decide +kernel⟩
abbrev s__law_tried : Stmt := topS 21
abbrev N__law_tried : List Str := ["rows", "first", "second", "row"]
theorem sc__law_tried : FnScope N__law_tried ["rows", "first", "second"] (defScope s__law_tried) := ⟨rfl, rfl, rfl, by decide +kernel, rfl, by decide +kernel, by decide +kernel⟩
abbrev s__law_is_perm : Stmt := topS 22
abbrev N__law_is_perm : List Str := ["value", "points", "met", "x"]
theorem sc__law_is_perm : FnScope N__law_is_perm ["value", "points"] (defScope s__law_is_perm) := ⟨rfl, rfl, rfl, by decide +kernel, rfl, by decide +kernel, by decide +kernel⟩
abbrev s__law_few : Stmt := topS 23
abbrev N__law_few : List Str := ["box", "points", "rows", "pair", "due", "told"]
theorem sc__law_few : FnScope N__law_few ["box"] (defScope s__law_few) := ⟨rfl, rfl, rfl, by decide +kernel, rfl, by decide +kernel, by decide +kernel⟩
abbrev s__law_sizes : Stmt := topS 24
abbrev N__law_sizes : List Str := ["perm", "sizes", "x", "line", "y", "z"]
theorem sc__law_sizes : FnScope N__law_sizes ["perm"] (defScope s__law_sizes) := ⟨rfl, rfl, rfl, by decide +kernel, rfl, by decide +kernel, by decide +kernel⟩
abbrev s__law_tally : Stmt := topS 25
abbrev N__law_tally : List Str := ["sizes", "tally", "size"]
theorem sc__law_tally : FnScope N__law_tally ["sizes"] (defScope s__law_tally) := ⟨rfl, rfl, rfl, by decide +kernel, rfl, by decide +kernel, by decide +kernel⟩
abbrev s__law_is_least : Stmt := topS 26
abbrev N__law_is_least : List Str := ["told", "first", "second", "points", "sizes", "met", "used", "i", "y", "x", "k", "z"]
theorem sc__law_is_least : FnScope N__law_is_least ["told", "first", "second"] (defScope s__law_is_least) := ⟨rfl, rfl, rfl, by decide +kernel, rfl, by decide +kernel, by decide +kernel⟩
abbrev s__law_many : Stmt := topS 27
abbrev N__law_many : List Str := ["box", "points", "pair"]
theorem sc__law_many : FnScope N__law_many ["box"] (defScope s__law_many) := ⟨rfl, rfl, rfl, by decide +kernel, rfl, by decide +kernel, by decide +kernel⟩
abbrev s_law : Stmt := topS 28
abbrev N_law : List Str := ["script", "box"]
theorem sc_law : FnScope N_law ["script"] (defScope s_law) := ⟨rfl, rfl, rfl, by decide +kernel, rfl, by decide +kernel, by decide +kernel⟩
structure Txt (K : PySem.W.Frag) (mg : Str → Option Value) where
  f_cycle_at : Addr
  fd_cycle_at : FuncData
  d_cycle_at : DA K mg "cycle_at" s_cycle_at ["perm", "point"] f_cycle_at fd_cycle_at
  f_cycles_of : Addr
  fd_cycles_of : FuncData
  d_cycles_of : DB K mg "cycles_of" s_cycles_of f_cycles_of fd_cycles_of
  f_shape_of : Addr
  fd_shape_of : FuncData
  d_shape_of : DA K mg "shape_of" s_shape_of ["perm"] f_shape_of fd_shape_of
  f_cycle_lengths : Addr
  fd_cycle_lengths : FuncData
  d_cycle_lengths : DA K mg "cycle_lengths" s_cycle_lengths ["perm"] f_cycle_lengths fd_cycle_lengths
  f_matching : Addr
  fd_matching : FuncData
  d_matching : DA K mg "matching" s_matching ["first", "second"] f_matching fd_matching
  f__law_box : Addr
  fd__law_box : FuncData
  d__law_box : DA K mg "_law_box" s__law_box ["script"] f__law_box fd__law_box
  f__law_take : Addr
  fd__law_take : FuncData
  d__law_take : DA K mg "_law_take" s__law_take ["box", "size"] f__law_take fd__law_take
  f__law_perm : Addr
  fd__law_perm : FuncData
  d__law_perm : DA K mg "_law_perm" s__law_perm ["box", "points"] f__law_perm fd__law_perm
  f__law_times : Addr
  fd__law_times : FuncData
  d__law_times : DA K mg "_law_times" s__law_times ["first", "second"] f__law_times fd__law_times
  f__law_conj : Addr
  fd__law_conj : FuncData
  d__law_conj : DA K mg "_law_conj" s__law_conj ["perm", "by"] f__law_conj fd__law_conj
  f__law_lengths : Addr
  fd__law_lengths : FuncData
  d__law_lengths : DA K mg "_law_lengths" s__law_lengths ["box", "points"] f__law_lengths fd__law_lengths
  f__law_shaped : Addr
  fd__law_shaped : FuncData
  d__law_shaped : DA K mg "_law_shaped" s__law_shaped ["lengths"] f__law_shaped fd__law_shaped
  f__law_other : Addr
  fd__law_other : FuncData
  d__law_other : DA K mg "_law_other" s__law_other ["box", "perm", "lengths", "points"] f__law_other fd__law_other
  f__law_inverse : Addr
  fd__law_inverse : FuncData
  d__law_inverse : DA K mg "_law_inverse" s__law_inverse ["perm"] f__law_inverse fd__law_inverse
  f__law_pairs : Addr
  fd__law_pairs : FuncData
  d__law_pairs : DA K mg "_law_pairs" s__law_pairs ["box", "points"] f__law_pairs fd__law_pairs
  f__law_carries : Addr
  fd__law_carries : FuncData
  d__law_carries : DA K mg "_law_carries" s__law_carries ["perm", "first", "second"] f__law_carries fd__law_carries
  f__law_all : Addr
  fd__law_all : FuncData
  d__law_all : DA K mg "_law_all" s__law_all ["points"] f__law_all fd__law_all
  f__law_tried : Addr
  fd__law_tried : FuncData
  d__law_tried : DA K mg "_law_tried" s__law_tried ["rows", "first", "second"] f__law_tried fd__law_tried
  f__law_is_perm : Addr
  fd__law_is_perm : FuncData
  d__law_is_perm : DA K mg "_law_is_perm" s__law_is_perm ["value", "points"] f__law_is_perm fd__law_is_perm
  f__law_few : Addr
  fd__law_few : FuncData
  d__law_few : DA K mg "_law_few" s__law_few ["box"] f__law_few fd__law_few
  f__law_sizes : Addr
  fd__law_sizes : FuncData
  d__law_sizes : DA K mg "_law_sizes" s__law_sizes ["perm"] f__law_sizes fd__law_sizes
  f__law_tally : Addr
  fd__law_tally : FuncData
  d__law_tally : DA K mg "_law_tally" s__law_tally ["sizes"] f__law_tally fd__law_tally
  f__law_is_least : Addr
  fd__law_is_least : FuncData
  d__law_is_least : DA K mg "_law_is_least" s__law_is_least ["told", "first", "second"] f__law_is_least fd__law_is_least
  f__law_many : Addr
  fd__law_many : FuncData
  d__law_many : DA K mg "_law_many" s__law_many ["box"] f__law_many fd__law_many
  f_law : Addr
  fd_law : FuncData
  d_law : DA K mg "law" s_law ["script"] f_law fd_law
  b_len : mg "len" = none
  b_range : mg "range" = none
  b_tuple : mg "tuple" = none
  b_sorted : mg "sorted" = none
  b_int : mg "int" = none
  b_list : mg "list" = none
  b_min : mg "min" = none
  b_isinstance : mg "isinstance" = none
  b_bool : mg "bool" = none
  kb_0 : KBn K fd_cycles_of ["perm", "fixed"] 1 ["fixed"] (permK [0]) (permK [0])
section
variable {P : Program} {w : World} {K : PySem.W.Frag} {mg : Str → Option Value} {base : Heap}
theorem w_cycle_at (T : Txt K mg) : FnOk P w K mg base (L2.CX P w) 1 T.f_cycle_at T.fd_cycle_at ["perm", "point"] (spF K mg 2 c_cycle_at) := by
  refine fn_ok (n := 3) (m := m_cycle_at) T.d_cycle_at.fn sc_cycle_at rfl rfl fun cdv A outer s H E hr => ?_
  have tk : Takes (cxOf (L2.CX P w) P w K mg base N_cycle_at "cycle_at" (defScope s_cycle_at) T.f_cycle_at cdv A outer s H E) (fun cls d _ H => E cls d H) := takes_of rfl rfl rfl rfl
  have po := passes_of (X := cxOf (L2.CX P w) P w K mg base N_cycle_at "cycle_at" (defScope s_cycle_at) T.f_cycle_at cdv A outer s H E) rfl
  exact (mb_cons (ms_set (i := 2) sc_cycle_at.nd rfl (.inl rfl) (me_lst (ma_cons (me_var 1) ma_nil)))
    (mb_cons (ms_while po (mt_cmp (op_neD hr.units) os_ne (me_ix ix_seq os_ix (me_var 0) (me_ix ix_seq os_ix (me_var 2) (me_un un_neg us_neg me_int))) (me_var 1) (nomark _))
      (mb_one (ms_expr (me_meth PySem.F.plainAttrs_list PySem.F.slot_list_append PySem.F.type_list_append mt_append ms_append (me_var 2) (ma_cons (me_ix ix_seq os_ix (me_var 0) (me_ix ix_seq os_ix (me_var 2) (me_un un_neg us_neg me_int))) ma_nil)))))
    (mb_one (ms_ret (me_var 2)))))
theorem w_cycles_of (T : Txt K mg) : FnOk P w K mg base (L2.CX P w) 2 T.f_cycles_of T.fd_cycles_of ["perm", "fixed"] (spF K mg 2 c_cycles_of) := by
  refine fn_ok (n := 8) (m := m_cycles_of) T.d_cycles_of.fn sc_cycles_of rfl rfl fun cdv A outer s H E hr => ?_
  have tk : Takes (cxOf (L2.CX P w) P w K mg base N_cycles_of "cycles_of" (defScope s_cycles_of) T.f_cycles_of cdv A outer s H E) (fun cls d _ H => E cls d H) := takes_of rfl rfl rfl rfl
  have po := passes_of (X := cxOf (L2.CX P w) P w K mg base N_cycles_of "cycles_of" (defScope s_cycles_of) T.f_cycles_of cdv A outer s H E) rfl
  exact (mb_cons (ms_set (i := 2) sc_cycles_of.nd rfl (.inl rfl) (me_lst ma_nil))
    (mb_cons (ms_setLc (i := 3) rfl sc_cycles_of.nd rfl rfl (sw_true rfl rfl rfl (by decide +kernel)) (mi_val (me_var 0)) (blkOk_by (own := [("_", 4)]) (by show blkC N_cycles_of (defScope s_cycles_of) _ _ = true; decide +kernel)) (fun _ _ _ _ _ => (mgc_var sc_cycles_of.nd rfl (.inl rfl) (by decide))) (fun _ _ _ _ _ => mts_nil) (fun _ _ _ _ _ => me_bl))
    (mb_cons (ms_for po rfl (mi_range1 T.b_range (ma_cons (me_callB cl_len cs_lenAll T.b_len (ma_cons (me_var 0) ma_nil)) ma_nil)) (mg_var sc_cycles_of.nd rfl (.inl rfl))
      (mb_one (ms_if (mt_not (mt_truth ts_truth (me_ix ix_seq os_ix (me_var 3) (me_var 5))))
      (mb_cons (ms_set (i := 6) sc_cycles_of.nd rfl (.inl rfl) (me_call (w_cycle_at T) (hr.mono (by decide)) T.d_cycle_at.mgf T.d_cycle_at.fn.kp T.d_cycle_at.bd tk (ma_cons (me_var 0) (ma_cons (me_var 5) ma_nil))))
    (mb_cons (ms_for po rfl (mi_val (me_var 6)) (mg_var sc_cycles_of.nd rfl (.inl rfl))
      (mb_one (ms_asg me_bl (mg_sub set_list ss_list (me_var 3) (me_var 7)))))
    (mb_one (ms_if (MW.mt (mw_or (mt_truth ts_truth (me_var 1)) (mw_or1 (mt_cmp op_gt os_gt (me_callB cl_len cs_lenAll T.b_len (ma_cons (me_var 6) ma_nil)) me_int (nomark _)))))
      (mb_one (ms_expr (me_meth PySem.F.plainAttrs_list PySem.F.slot_list_append PySem.F.type_list_append mt_append ms_append (me_var 2) (ma_cons (me_callTy call_tuple_of cs_tuple T.b_tuple (ma_cons (me_var 6) ma_nil)) ma_nil))))
      mb_nil))))
      mb_nil)))
    (mb_one (ms_ret (me_callTy call_tuple_of cs_tuple T.b_tuple (ma_cons (me_var 2) ma_nil)))))))
theorem w_shape_of (T : Txt K mg) : FnOk P w K mg base (L2.CX P w) 3 T.f_shape_of T.fd_shape_of ["perm"] (spF K mg 1 c_shape_of) := by
  refine fn_ok (n := 2) (m := m_shape_of) T.d_shape_of.fn sc_shape_of rfl rfl fun cdv A outer s H E hr => ?_
  have tk : Takes (cxOf (L2.CX P w) P w K mg base N_shape_of "shape_of" (defScope s_shape_of) T.f_shape_of cdv A outer s H E) (fun cls d _ H => E cls d H) := takes_of rfl rfl rfl rfl
  have po := passes_of (X := cxOf (L2.CX P w) P w K mg base N_shape_of "shape_of" (defScope s_shape_of) T.f_shape_of cdv A outer s H E) rfl
  exact (mb_one (ms_ret (me_callTy call_tuple_of cs_tuple T.b_tuple (ma_cons (me_callBK cr_sortedRv cs_sortedR T.b_sorted (ma_cons (me_lc rfl sc_shape_of.nd (mi_val (me_callK (pl := 2) (w_cycles_of T) (hr.mono (by decide)) T.d_cycles_of.mgf T.d_cycles_of.fn.kp T.kb_0 tk (ma_cons (me_var 0) ma_nil) (mk_cons me_bl mk_nil) (by exact fun us ws h1 h2 => match us, ws, h1, h2 with | [_], [_], _, _ => rfl))) (blkOk_by (own := [("cycle", 1)]) (by show blkC N_shape_of (defScope s_shape_of) _ _ = true; decide +kernel)) (fun _ _ _ _ _ => (mgc_var sc_shape_of.nd rfl (.inl rfl) (by decide))) (fun _ _ _ _ _ => mts_nil) (fun _ _ _ _ _ => (me_callB cl_len cs_lenAll T.b_len (ma_cons (me_var 1) ma_nil)))) ma_nil) (mk_cons me_bl mk_nil)) ma_nil))))
theorem w_cycle_lengths (T : Txt K mg) : FnOk P w K mg base (L2.CX P w) 3 T.f_cycle_lengths T.fd_cycle_lengths ["perm"] (spF K mg 1 c_cycle_lengths) := by
  refine fn_ok (n := 4) (m := m_cycle_lengths) T.d_cycle_lengths.fn sc_cycle_lengths rfl rfl fun cdv A outer s H E hr => ?_
  have tk : Takes (cxOf (L2.CX P w) P w K mg base N_cycle_lengths "cycle_lengths" (defScope s_cycle_lengths) T.f_cycle_lengths cdv A outer s H E) (fun cls d _ H => E cls d H) := takes_of rfl rfl rfl rfl
  have po := passes_of (X := cxOf (L2.CX P w) P w K mg base N_cycle_lengths "cycle_lengths" (defScope s_cycle_lengths) T.f_cycle_lengths cdv A outer s H E) rfl
  exact (mb_cons (ms_set (i := 1) sc_cycle_lengths.nd rfl (.inl rfl) (me_op op_mulAll os_mul (me_lst (ma_cons me_int ma_nil)) (me_callB cl_len cs_lenAll T.b_len (ma_cons (me_var 0) ma_nil))))
    (mb_cons (ms_for po rfl (mi_val (me_callK (pl := 2) (w_cycles_of T) (hr.mono (by decide)) T.d_cycles_of.mgf T.d_cycles_of.fn.kp T.kb_0 tk (ma_cons (me_var 0) ma_nil) (mk_cons me_bl mk_nil) (by exact fun us ws h1 h2 => match us, ws, h1, h2 with | [_], [_], _, _ => rfl))) (mg_var sc_cycle_lengths.nd rfl (.inl rfl))
      (mb_one (ms_for po rfl (mi_val (me_var 2)) (mg_var sc_cycle_lengths.nd rfl (.inl rfl))
      (mb_one (ms_asg (me_callB cl_len cs_lenAll T.b_len (ma_cons (me_var 2) ma_nil)) (mg_sub set_list ss_list (me_var 1) (me_var 3)))))))
    (mb_one (ms_ret (me_var 1)))))
theorem w_matching (T : Txt K mg) : FnOk P w K mg base (L2.CX P w) 4 T.f_matching T.fd_matching ["first", "second"] (spF K mg 2 c_matching) := by
  refine fn_ok (n := 8) (m := m_matching) T.d_matching.fn sc_matching rfl rfl fun cdv A outer s H E hr => ?_
  have tk : Takes (cxOf (L2.CX P w) P w K mg base N_matching "matching" (defScope s_matching) T.f_matching cdv A outer s H E) (fun cls d _ H => E cls d H) := takes_of rfl rfl rfl rfl
  have po := passes_of (X := cxOf (L2.CX P w) P w K mg base N_matching "matching" (defScope s_matching) T.f_matching cdv A outer s H E) rfl
  exact (mb_cons (ms_if (mt_cmp (op_neD hr.units) os_ne (me_call (w_shape_of T) (hr.mono (by decide)) T.d_shape_of.mgf T.d_shape_of.fn.kp T.d_shape_of.bd tk (ma_cons (me_var 0) ma_nil)) (me_call (w_shape_of T) (hr.mono (by decide)) T.d_shape_of.mgf T.d_shape_of.fn.kp T.d_shape_of.bd tk (ma_cons (me_var 1) ma_nil)) (nomark _))
      (mb_one (ms_ret me_non))
      mb_nil)
    (mb_cons (ms_set (i := 2) sc_matching.nd rfl (.inl rfl) (me_call (w_cycle_lengths T) (hr.mono (by decide)) T.d_cycle_lengths.mgf T.d_cycle_lengths.fn.kp T.d_cycle_lengths.bd tk (ma_cons (me_var 0) ma_nil)))
    (mb_cons (ms_set (i := 3) sc_matching.nd rfl (.inl rfl) (me_call (w_cycle_lengths T) (hr.mono (by decide)) T.d_cycle_lengths.mgf T.d_cycle_lengths.fn.kp T.d_cycle_lengths.bd tk (ma_cons (me_var 1) ma_nil)))
    (mb_cons (ms_set (i := 4) sc_matching.nd rfl (.inl rfl) (me_op op_mulAll os_mul (me_lst (ma_cons (me_un un_neg us_neg me_int) ma_nil)) (me_callB cl_len cs_lenAll T.b_len (ma_cons (me_var 0) ma_nil))))
    (mb_cons (ms_for po rfl (mi_range1 T.b_range (ma_cons (me_callB cl_len cs_lenAll T.b_len (ma_cons (me_var 0) ma_nil)) ma_nil)) (mg_var sc_matching.nd rfl (.inl rfl))
      (mb_one (ms_if (mt_cmp (op_eqD hr.units) os_eq (me_ix ix_seq os_ix (me_var 4) (me_var 5)) (me_un un_neg us_neg me_int) (nomark _))
      (mb_cons (ms_set (i := 6) sc_matching.nd rfl (.inl rfl) (me_var 5))
    (mb_cons (ms_set (i := 7) sc_matching.nd rfl (.inl rfl) (me_meth PySem.F.plainAttrs_list PySem.F.slot_list_index PySem.F.type_list_index (mt_indexD (units65 hr)) ms_index (me_var 3) (ma_cons (me_ix ix_seq os_ix (me_var 2) (me_var 5)) ma_nil)))
    (mb_one (ms_while po (mt_cmp (op_eqD hr.units) os_eq (me_ix ix_seq os_ix (me_var 4) (me_var 6)) (me_un un_neg us_neg me_int) (nomark _))
      (mb_cons (ms_asg (me_var 7) (mg_sub set_list ss_list (me_var 4) (me_var 6)))
    (mb_cons (ms_asg me_int (mg_sub set_list ss_list (me_var 3) (me_var 7)))
    (mb_cons (ms_set (i := 6) sc_matching.nd rfl (.inl rfl) (me_ix ix_seq os_ix (me_var 0) (me_var 6)))
    (mb_one (ms_set (i := 7) sc_matching.nd rfl (.inl rfl) (me_ix ix_seq os_ix (me_var 1) (me_var 7)))))))))))
      mb_nil)))
    (mb_one (ms_ret (me_callTy call_tuple_of cs_tuple T.b_tuple (ma_cons (me_var 4) ma_nil)))))))))
theorem w__law_box (T : Txt K mg) : FnOk P w K mg base (L2.CX P w) 1 T.f__law_box T.fd__law_box ["script"] (spF K mg 1 c__law_box) := by
  refine fn_ok (n := 4) (m := m__law_box) T.d__law_box.fn sc__law_box rfl rfl fun cdv A outer s H E hr => ?_
  have tk : Takes (cxOf (L2.CX P w) P w K mg base N__law_box "_law_box" (defScope s__law_box) T.f__law_box cdv A outer s H E) (fun cls d _ H => E cls d H) := takes_of rfl rfl rfl rfl
  have po := passes_of (X := cxOf (L2.CX P w) P w K mg base N__law_box "_law_box" (defScope s__law_box) T.f__law_box cdv A outer s H E) rfl
  exact (mb_cons (ms_setLc (i := 1) rfl sc__law_box.nd rfl rfl (sw_true rfl rfl rfl (by decide +kernel)) (mi_val (me_slice (me_var 0) mo_none (mo_some me_int))) (blkOk_by (own := [("cell", 2)]) (by show blkC N__law_box (defScope s__law_box) _ _ = true; decide +kernel)) (fun _ _ _ _ _ => (mgc_var sc__law_box.nd rfl (.inl rfl) (by decide))) (fun _ _ _ _ _ => mts_nil) (fun _ _ _ _ _ => (me_op op_mod os_mod (me_callTy call_int1 cs_int T.b_int (ma_cons (me_var 2) ma_nil)) (me_op op_mulAll os_mul (me_op op_mulAll os_mul (me_op op_pow os_pow me_int me_int) (me_op op_pow os_pow me_int me_int)) (me_op op_pow os_pow me_int me_int)))))
    (mb_cons (ms_set (i := 3) sc__law_box.nd rfl (.inl rfl) (me_callB cl_len cs_lenAll T.b_len (ma_cons (me_var 1) ma_nil)))
    (mb_cons (ms_for po rfl (mi_val (me_var 1)) (mg_var sc__law_box.nd rfl (.inl rfl))
      (mb_one (ms_set (i := 3) sc__law_box.nd rfl (.inl rfl) (me_op op_mod os_mod (me_callTy call_int1 cs_int T.b_int (ma_cons (me_op op_addAll os_add (me_op op_addAll os_add (me_op op_mulAll os_mul (me_var 3) me_int) (me_op op_mod os_mod (me_var 2) me_int)) me_int) ma_nil)) me_int))))
    (mb_one (ms_ret (me_lst (ma_cons (me_var 1) (ma_cons me_int (ma_cons me_int (ma_cons me_int (ma_cons (me_var 3) ma_nil)))))))))))
theorem w__law_take (T : Txt K mg) : FnOk P w K mg base (L2.CX P w) 1 T.f__law_take T.fd__law_take ["box", "size"] (spF K mg 2 c__law_take) := by
  refine fn_ok (n := 7) (m := m__law_take) T.d__law_take.fn sc__law_take rfl rfl fun cdv A outer s H E hr => ?_
  have tk : Takes (cxOf (L2.CX P w) P w K mg base N__law_take "_law_take" (defScope s__law_take) T.f__law_take cdv A outer s H E) (fun cls d _ H => E cls d H) := takes_of rfl rfl rfl rfl
  have po := passes_of (X := cxOf (L2.CX P w) P w K mg base N__law_take "_law_take" (defScope s__law_take) T.f__law_take cdv A outer s H E) rfl
  exact (mb_cons (ms_set (i := 2) sc__law_take.nd rfl (.inl rfl) (me_ix ix_seq os_ix (me_var 0) me_int))
    (mb_cons (ms_asg (me_op op_addAll os_add (me_ix ix_seq os_ix (me_var 0) me_int) me_int) (mg_sub set_list ss_list (me_var 0) me_int))
    (mb_cons (ms_set (i := 3) sc__law_take.nd rfl (.inl rfl) (me_ix ix_seq os_ix (me_var 0) me_int))
    (mb_cons (ms_if (mt_cmp (op_ltAll hr.units0) os_lt (me_ix ix_seq os_ix (me_var 0) me_int) (me_callB cl_len cs_lenAll T.b_len (ma_cons (me_var 2) ma_nil)) (nomark _))
      (mb_cons (ms_set (i := 3) sc__law_take.nd rfl (.inl rfl) (me_ix ix_seq os_ix (me_var 2) (me_ix ix_seq os_ix (me_var 0) me_int)))
    (mb_cons (ms_if (mt_cmp op_ge os_ge (me_var 3) (me_op op_pow os_pow me_int me_int) (nomark _))
      (mb_cons (ms_set (i := 4) sc__law_take.nd rfl (.inl rfl) (me_ix ix_seq os_ix (me_var 0) me_int))
    (mb_cons (ms_if (mt_cmp (op_eqD hr.units) os_eq (me_var 4) me_int (nomark _))
      (mb_one (ms_set (i := 4) sc__law_take.nd rfl (.inl rfl) (me_var 3)))
      mb_nil)
    (mb_cons (ms_asg (me_op op_fdivW os_div (me_var 4) (me_var 1)) (mg_sub set_list ss_list (me_var 0) me_int))
    (mb_cons (ms_if (mt_cmp (op_eqD hr.units) os_eq (me_ix ix_seq os_ix (me_var 0) me_int) me_int (nomark _))
      (mb_one (ms_asg (me_op op_addAll os_add (me_ix ix_seq os_ix (me_var 0) me_int) me_int) (mg_sub set_list ss_list (me_var 0) me_int)))
      mb_nil)
    (mb_one (ms_ret (me_op op_mod os_mod (me_callTy call_int1 cs_int T.b_int (ma_cons (me_var 4) ma_nil)) (me_var 1))))))))
      mb_nil)
    (mb_cons (ms_asg (me_op op_addAll os_add (me_ix ix_seq os_ix (me_var 0) me_int) me_int) (mg_sub set_list ss_list (me_var 0) me_int))
    (mb_one (ms_if (mt_cmp (op_eqD hr.units) os_eq (me_ix ix_seq os_ix (me_var 0) me_int) me_int (nomark _))
      (mb_cons (ms_asg (me_op op_addAll os_add (me_ix ix_seq os_ix (me_var 0) me_int) me_int) (mg_sub set_list ss_list (me_var 0) me_int))
    (mb_one (ms_asg me_int (mg_sub set_list ss_list (me_var 0) me_int))))
      mb_nil)))))
      mb_nil)
    (mb_cons (ms_set (i := 5) sc__law_take.nd rfl (.inl rfl) (me_op op_mod os_mod (me_callTy call_int1 cs_int T.b_int (ma_cons (me_op op_addAll os_add (me_op op_addAll os_add (me_op op_mulAll os_mul (me_var 3) me_int) (me_op op_mulAll os_mul (me_ix ix_seq os_ix (me_var 0) me_int) me_int)) me_int) ma_nil)) me_int))
    (mb_cons (ms_set (i := 6) sc__law_take.nd rfl (.inl rfl) (me_op op_mod os_mod (me_callTy call_int1 cs_int T.b_int (ma_cons (me_op op_addAll os_add (me_op op_addAll os_add (me_op op_mulAll os_mul (me_var 5) (me_var 5)) (me_op op_mulAll os_mul (me_var 5) me_int)) (me_ix ix_seq os_ix (me_var 0) me_int)) ma_nil)) me_int))
    (mb_one (ms_ret (me_op op_mod os_mod (me_callTy call_int1 cs_int T.b_int (ma_cons (me_op op_fdivW os_div (me_var 6) me_int) ma_nil)) (me_var 1))))))))))
theorem w__law_perm (T : Txt K mg) : FnOk P w K mg base (L2.CX P w) 2 T.f__law_perm T.fd__law_perm ["box", "points"] (spF K mg 2 c__law_perm) := by
  refine fn_ok (n := 5) (m := m__law_perm) T.d__law_perm.fn sc__law_perm rfl rfl fun cdv A outer s H E hr => ?_
  have tk : Takes (cxOf (L2.CX P w) P w K mg base N__law_perm "_law_perm" (defScope s__law_perm) T.f__law_perm cdv A outer s H E) (fun cls d _ H => E cls d H) := takes_of rfl rfl rfl rfl
  have po := passes_of (X := cxOf (L2.CX P w) P w K mg base N__law_perm "_law_perm" (defScope s__law_perm) T.f__law_perm cdv A outer s H E) rfl
  exact (mb_cons (ms_set (i := 2) sc__law_perm.nd rfl (.inl rfl) (me_listRg1 rfl T.b_list T.b_range (me_var 1)))
    (mb_cons (ms_set (i := 3) sc__law_perm.nd rfl (.inl rfl) (me_lst ma_nil))
    (mb_cons (ms_for po rfl (mi_range1 T.b_range (ma_cons (me_var 1) ma_nil)) (mg_var sc__law_perm.nd rfl (.inl rfl))
      (mb_one (ms_expr (me_meth PySem.F.plainAttrs_list PySem.F.slot_list_append PySem.F.type_list_append mt_append ms_append (me_var 3) (ma_cons (me_meth PySem.F.plainAttrs_list PySem.F.slot_list_pop PySem.F.type_list_pop mt_popAt ms_popAt (me_var 2) (ma_cons (me_call (w__law_take T) (hr.mono (by decide)) T.d__law_take.mgf T.d__law_take.fn.kp T.d__law_take.bd tk (ma_cons (me_var 0) (ma_cons (me_callB cl_len cs_lenAll T.b_len (ma_cons (me_var 2) ma_nil)) ma_nil))) ma_nil)) ma_nil)))))
    (mb_one (ms_ret (me_callTy call_tuple_of cs_tuple T.b_tuple (ma_cons (me_var 3) ma_nil)))))))
theorem w__law_times (T : Txt K mg) : FnOk P w K mg base (L2.CX P w) 1 T.f__law_times T.fd__law_times ["first", "second"] (spF K mg 2 c__law_times) := by
  refine fn_ok (n := 3) (m := m__law_times) T.d__law_times.fn sc__law_times rfl rfl fun cdv A outer s H E hr => ?_
  have tk : Takes (cxOf (L2.CX P w) P w K mg base N__law_times "_law_times" (defScope s__law_times) T.f__law_times cdv A outer s H E) (fun cls d _ H => E cls d H) := takes_of rfl rfl rfl rfl
  have po := passes_of (X := cxOf (L2.CX P w) P w K mg base N__law_times "_law_times" (defScope s__law_times) T.f__law_times cdv A outer s H E) rfl
  exact (mb_one (ms_ret (me_callTy call_tuple_of cs_tuple T.b_tuple (ma_cons (me_lc rfl sc__law_times.nd (mi_val (me_var 0)) (blkOk_by (own := [("x", 2)]) (by show blkC N__law_times (defScope s__law_times) _ _ = true; decide +kernel)) (fun _ _ _ _ _ => (mgc_var sc__law_times.nd rfl (.inl rfl) (by decide))) (fun _ _ _ _ _ => mts_nil) (fun _ _ _ _ _ => (me_ix ix_seq os_ix (me_var 1) (me_var 2)))) ma_nil))))
theorem w__law_conj (T : Txt K mg) : FnOk P w K mg base (L2.CX P w) 1 T.f__law_conj T.fd__law_conj ["perm", "by"] (spF K mg 2 c__law_conj) := by
  refine fn_ok (n := 4) (m := m__law_conj) T.d__law_conj.fn sc__law_conj rfl rfl fun cdv A outer s H E hr => ?_
  have tk : Takes (cxOf (L2.CX P w) P w K mg base N__law_conj "_law_conj" (defScope s__law_conj) T.f__law_conj cdv A outer s H E) (fun cls d _ H => E cls d H) := takes_of rfl rfl rfl rfl
  have po := passes_of (X := cxOf (L2.CX P w) P w K mg base N__law_conj "_law_conj" (defScope s__law_conj) T.f__law_conj cdv A outer s H E) rfl
  exact (mb_cons (ms_set (i := 2) sc__law_conj.nd rfl (.inl rfl) (me_op op_mulAll os_mul (me_lst (ma_cons me_int ma_nil)) (me_callB cl_len cs_lenAll T.b_len (ma_cons (me_var 0) ma_nil))))
    (mb_cons (ms_for po rfl (mi_range1 T.b_range (ma_cons (me_callB cl_len cs_lenAll T.b_len (ma_cons (me_var 0) ma_nil)) ma_nil)) (mg_var sc__law_conj.nd rfl (.inl rfl))
      (mb_one (ms_asg (me_ix ix_seq os_ix (me_var 1) (me_ix ix_seq os_ix (me_var 0) (me_var 3))) (mg_sub set_list ss_list (me_var 2) (me_ix ix_seq os_ix (me_var 1) (me_var 3))))))
    (mb_one (ms_ret (me_callTy call_tuple_of cs_tuple T.b_tuple (ma_cons (me_var 2) ma_nil))))))
theorem w__law_lengths (T : Txt K mg) : FnOk P w K mg base (L2.CX P w) 2 T.f__law_lengths T.fd__law_lengths ["box", "points"] (spF K mg 2 c__law_lengths) := by
  refine fn_ok (n := 8) (m := m__law_lengths) T.d__law_lengths.fn sc__law_lengths rfl rfl fun cdv A outer s H E hr => ?_
  have tk : Takes (cxOf (L2.CX P w) P w K mg base N__law_lengths "_law_lengths" (defScope s__law_lengths) T.f__law_lengths cdv A outer s H E) (fun cls d _ H => E cls d H) := takes_of rfl rfl rfl rfl
  have po := passes_of (X := cxOf (L2.CX P w) P w K mg base N__law_lengths "_law_lengths" (defScope s__law_lengths) T.f__law_lengths cdv A outer s H E) rfl
  exact (mb_cons (ms_set (i := 2) sc__law_lengths.nd rfl (.inl rfl) (me_call (w__law_take T) (hr.mono (by decide)) T.d__law_take.mgf T.d__law_take.fn.kp T.d__law_take.bd tk (ma_cons (me_var 0) (ma_cons me_int ma_nil))))
    (mb_cons (ms_set (i := 3) sc__law_lengths.nd rfl (.inl rfl) (me_op op_addAll os_add me_int (me_call (w__law_take T) (hr.mono (by decide)) T.d__law_take.mgf T.d__law_take.fn.kp T.d__law_take.bd tk (ma_cons (me_var 0) (ma_cons (me_var 1) ma_nil)))))
    (mb_cons (ms_set (i := 4) sc__law_lengths.nd rfl (.inl rfl) (me_var 1))
    (mb_cons (ms_set (i := 5) sc__law_lengths.nd rfl (.inl rfl) (me_lst ma_nil))
    (mb_cons (ms_for po rfl (mi_range1 T.b_range (ma_cons (me_var 1) ma_nil)) (mg_var sc__law_lengths.nd rfl (.inl rfl))
      (mb_one (ms_if (mt_cmp op_gt os_gt (me_var 4) me_int (nomark _))
      (mb_cons (ms_set (i := 7) sc__law_lengths.nd rfl (.inl rfl) (me_var 4))
    (mb_cons (ms_if (mt_cmp (op_eqD hr.units) os_eq (me_var 2) me_int (nomark _))
      (mb_one (ms_set (i := 7) sc__law_lengths.nd rfl (.inl rfl) (me_op op_addAll os_add me_int (me_call (w__law_take T) (hr.mono (by decide)) T.d__law_take.mgf T.d__law_take.fn.kp T.d__law_take.bd tk (ma_cons (me_var 0) (ma_cons (me_var 4) ma_nil))))))
      (mb_one (ms_if (mt_cmp (op_eqD hr.units) os_eq (me_var 2) me_int (nomark _))
      (mb_one (ms_set (i := 7) sc__law_lengths.nd rfl (.inl rfl) (me_op op_addAll os_add me_int (me_call (w__law_take T) (hr.mono (by decide)) T.d__law_take.mgf T.d__law_take.fn.kp T.d__law_take.bd tk (ma_cons (me_var 0) (ma_cons (me_callB (call_min2 rfl) cs_min2 T.b_min (ma_cons (me_var 4) (ma_cons me_int ma_nil))) ma_nil))))))
      (mb_one (ms_if (mt_cmp (op_ltAll hr.units0) os_lt (me_var 3) (me_var 4) (nomark _))
      (mb_one (ms_set (i := 7) sc__law_lengths.nd rfl (.inl rfl) (me_var 3)))
      mb_nil)))))
    (mb_cons (ms_expr (me_meth PySem.F.plainAttrs_list PySem.F.slot_list_append PySem.F.type_list_append mt_append ms_append (me_var 5) (ma_cons (me_var 7) ma_nil)))
    (mb_one (ms_set (i := 4) sc__law_lengths.nd rfl (.inl rfl) (me_op op_sub os_sub (me_var 4) (me_var 7)))))))
      mb_nil)))
    (mb_one (ms_ret (me_var 5))))))))
theorem w__law_shaped (T : Txt K mg) : FnOk P w K mg base (L2.CX P w) 1 T.f__law_shaped T.fd__law_shaped ["lengths"] (spF K mg 1 c__law_shaped) := by
  refine fn_ok (n := 5) (m := m__law_shaped) T.d__law_shaped.fn sc__law_shaped rfl rfl fun cdv A outer s H E hr => ?_
  have tk : Takes (cxOf (L2.CX P w) P w K mg base N__law_shaped "_law_shaped" (defScope s__law_shaped) T.f__law_shaped cdv A outer s H E) (fun cls d _ H => E cls d H) := takes_of rfl rfl rfl rfl
  have po := passes_of (X := cxOf (L2.CX P w) P w K mg base N__law_shaped "_law_shaped" (defScope s__law_shaped) T.f__law_shaped cdv A outer s H E) rfl
  exact (mb_cons (ms_set (i := 1) sc__law_shaped.nd rfl (.inl rfl) (me_lst ma_nil))
    (mb_cons (ms_for po rfl (mi_val (me_var 0)) (mg_var sc__law_shaped.nd rfl (.inr rfl))
      (mb_cons (ms_set (i := 3) sc__law_shaped.nd rfl (.inr rfl) (me_callB cl_len cs_lenAll T.b_len (ma_cons (me_var 1) ma_nil)))
    (mb_one (ms_expr (me_meth PySem.F.plainAttrs_list PySem.F.slot_list_extend PySem.F.type_list_extend mt_extend ms_extend (me_var 1) (ma_cons (me_lc rfl sc__law_shaped.nd (mi_range1 T.b_range (ma_cons (me_var 2) ma_nil)) (blkOk_by (own := [("x", 4)]) (by show blkC N__law_shaped (defScope s__law_shaped) _ _ = true; decide +kernel)) (fun _ _ _ _ _ => (mgc_var sc__law_shaped.nd rfl (.inl rfl) (by decide))) (fun _ _ _ _ _ => mts_nil) (fun _ _ _ _ _ => (me_op op_addAll os_add (me_var 3) (me_op op_mod os_mod (me_callTy call_int1 cs_int T.b_int (ma_cons (me_op op_addAll os_add (me_var 4) me_int) ma_nil)) (me_var 2))))) ma_nil))))))
    (mb_one (ms_ret (me_callTy call_tuple_of cs_tuple T.b_tuple (ma_cons (me_var 1) ma_nil))))))
theorem w__law_other (T : Txt K mg) : FnOk P w K mg base (L2.CX P w) 3 T.f__law_other T.fd__law_other ["box", "perm", "lengths", "points"] (spF K mg 4 c__law_other) := by
  refine fn_ok (n := 9) (m := m__law_other) T.d__law_other.fn sc__law_other rfl rfl fun cdv A outer s H E hr => ?_
  have tk : Takes (cxOf (L2.CX P w) P w K mg base N__law_other "_law_other" (defScope s__law_other) T.f__law_other cdv A outer s H E) (fun cls d _ H => E cls d H) := takes_of rfl rfl rfl rfl
  have po := passes_of (X := cxOf (L2.CX P w) P w K mg base N__law_other "_law_other" (defScope s__law_other) T.f__law_other cdv A outer s H E) rfl
  exact (mb_cons (ms_set (i := 4) sc__law_other.nd rfl (.inl rfl) (me_call (w__law_take T) (hr.mono (by decide)) T.d__law_take.mgf T.d__law_take.fn.kp T.d__law_take.bd tk (ma_cons (me_var 0) (ma_cons me_int ma_nil))))
    (mb_cons (ms_if (mt_cmp (op_eqD hr.units) os_eq (me_var 4) me_int (nomark _))
      (mb_one (ms_ret (me_call (w__law_perm T) (hr.mono (by decide)) T.d__law_perm.mgf T.d__law_perm.fn.kp T.d__law_perm.bd tk (ma_cons (me_var 0) (ma_cons (me_var 3) ma_nil)))))
      mb_nil)
    (mb_cons (ms_if (MW.mt (mw_and (mt_cmp (op_ltAll hr.units0) os_lt (me_var 4) me_int (nomark _)) (mw_and1 (mt_cmp op_gt os_gt (me_callB cl_len cs_lenAll T.b_len (ma_cons (me_var 2) ma_nil)) me_int (nomark _)))))
      (mb_cons (ms_set (i := 5) sc__law_other.nd rfl (.inl rfl) (me_lst (ma_cons (me_op op_sub os_sub (me_op op_addAll os_add (me_ix ix_seq os_ix (me_var 2) me_int) (me_ix ix_seq os_ix (me_var 2) me_int)) me_int) (ma_cons me_int ma_nil))))
    (mb_cons (ms_if (mt_cmp (op_eqD hr.units) os_eq (me_var 4) me_int (nomark _))
      (mb_one (ms_set (i := 5) sc__law_other.nd rfl (.inl rfl) (me_lst (ma_cons (me_op op_addAll os_add (me_ix ix_seq os_ix (me_var 2) me_int) (me_ix ix_seq os_ix (me_var 2) me_int)) ma_nil))))
      mb_nil)
    (mb_one (ms_ret (me_call (w__law_conj T) (hr.mono (by decide)) T.d__law_conj.mgf T.d__law_conj.fn.kp T.d__law_conj.bd tk (ma_cons (me_call (w__law_shaped T) (hr.mono (by decide)) T.d__law_shaped.mgf T.d__law_shaped.fn.kp T.d__law_shaped.bd tk (ma_cons (me_op op_addAll os_add (me_var 5) (me_slice (me_var 2) (mo_some me_int) mo_none)) ma_nil)) (ma_cons (me_call (w__law_perm T) (hr.mono (by decide)) T.d__law_perm.mgf T.d__law_perm.fn.kp T.d__law_perm.bd tk (ma_cons (me_var 0) (ma_cons (me_var 3) ma_nil))) ma_nil)))))))
      mb_nil)
    (mb_cons (ms_if (mt_cmp (op_eqD hr.units) os_eq (me_var 3) me_int (nomark _))
      (mb_one (ms_ret (me_var 1)))
      mb_nil)
    (mb_cons (ms_set (i := 6) sc__law_other.nd rfl (.inl rfl) (me_listRg1 rfl T.b_list T.b_range (me_var 3)))
    (mb_cons (ms_set (i := 7) sc__law_other.nd rfl (.inl rfl) (me_call (w__law_take T) (hr.mono (by decide)) T.d__law_take.mgf T.d__law_take.fn.kp T.d__law_take.bd tk (ma_cons (me_var 0) (ma_cons (me_var 3) ma_nil))))
    (mb_cons (ms_set (i := 8) sc__law_other.nd rfl (.inl rfl) (me_op op_mod os_mod (me_callTy call_int1 cs_int T.b_int (ma_cons (me_op op_addAll os_add (me_op op_addAll os_add (me_var 7) me_int) (me_call (w__law_take T) (hr.mono (by decide)) T.d__law_take.mgf T.d__law_take.fn.kp T.d__law_take.bd tk (ma_cons (me_var 0) (ma_cons (me_op op_sub os_sub (me_var 3) me_int) ma_nil)))) ma_nil)) (me_var 3)))
    (mb_cons (ms_asg (me_var 8) (mg_sub set_list ss_list (me_var 6) (me_var 7)))
    (mb_cons (ms_asg (me_var 7) (mg_sub set_list ss_list (me_var 6) (me_var 8)))
    (mb_one (ms_ret (me_call (w__law_times T) (hr.mono (by decide)) T.d__law_times.mgf T.d__law_times.fn.kp T.d__law_times.bd tk (ma_cons (me_var 1) (ma_cons (me_var 6) ma_nil))))))))))))))
theorem w__law_inverse (T : Txt K mg) : FnOk P w K mg base (L2.CX P w) 1 T.f__law_inverse T.fd__law_inverse ["perm"] (spF K mg 1 c__law_inverse) := by
  refine fn_ok (n := 3) (m := m__law_inverse) T.d__law_inverse.fn sc__law_inverse rfl rfl fun cdv A outer s H E hr => ?_
  have tk : Takes (cxOf (L2.CX P w) P w K mg base N__law_inverse "_law_inverse" (defScope s__law_inverse) T.f__law_inverse cdv A outer s H E) (fun cls d _ H => E cls d H) := takes_of rfl rfl rfl rfl
  have po := passes_of (X := cxOf (L2.CX P w) P w K mg base N__law_inverse "_law_inverse" (defScope s__law_inverse) T.f__law_inverse cdv A outer s H E) rfl
  exact (mb_cons (ms_set (i := 1) sc__law_inverse.nd rfl (.inl rfl) (me_op op_mulAll os_mul (me_lst (ma_cons me_int ma_nil)) (me_callB cl_len cs_lenAll T.b_len (ma_cons (me_var 0) ma_nil))))
    (mb_cons (ms_for po rfl (mi_range1 T.b_range (ma_cons (me_callB cl_len cs_lenAll T.b_len (ma_cons (me_var 0) ma_nil)) ma_nil)) (mg_var sc__law_inverse.nd rfl (.inl rfl))
      (mb_one (ms_asg (me_var 2) (mg_sub set_list ss_list (me_var 1) (me_ix ix_seq os_ix (me_var 0) (me_var 2))))))
    (mb_one (ms_ret (me_callTy call_tuple_of cs_tuple T.b_tuple (ma_cons (me_var 1) ma_nil))))))
theorem w__law_pairs (T : Txt K mg) : FnOk P w K mg base (L2.CX P w) 4 T.f__law_pairs T.fd__law_pairs ["box", "points"] (spF K mg 2 c__law_pairs) := by
  refine fn_ok (n := 8) (m := m__law_pairs) T.d__law_pairs.fn sc__law_pairs rfl rfl fun cdv A outer s H E hr => ?_
  have tk : Takes (cxOf (L2.CX P w) P w K mg base N__law_pairs "_law_pairs" (defScope s__law_pairs) T.f__law_pairs cdv A outer s H E) (fun cls d _ H => E cls d H) := takes_of rfl rfl rfl rfl
  have po := passes_of (X := cxOf (L2.CX P w) P w K mg base N__law_pairs "_law_pairs" (defScope s__law_pairs) T.f__law_pairs cdv A outer s H E) rfl
  exact (mb_cons (ms_set (i := 2) sc__law_pairs.nd rfl (.inl rfl) (me_call (w__law_lengths T) (hr.mono (by decide)) T.d__law_lengths.mgf T.d__law_lengths.fn.kp T.d__law_lengths.bd tk (ma_cons (me_var 0) (ma_cons (me_var 1) ma_nil))))
    (mb_cons (ms_set (i := 3) sc__law_pairs.nd rfl (.inl rfl) (me_call (w__law_shaped T) (hr.mono (by decide)) T.d__law_shaped.mgf T.d__law_shaped.fn.kp T.d__law_shaped.bd tk (ma_cons (me_var 2) ma_nil)))
    (mb_cons (ms_set (i := 4) sc__law_pairs.nd rfl (.inl rfl) (me_call (w__law_conj T) (hr.mono (by decide)) T.d__law_conj.mgf T.d__law_conj.fn.kp T.d__law_conj.bd tk (ma_cons (me_var 3) (ma_cons (me_call (w__law_perm T) (hr.mono (by decide)) T.d__law_perm.mgf T.d__law_perm.fn.kp T.d__law_perm.bd tk (ma_cons (me_var 0) (ma_cons (me_var 1) ma_nil))) ma_nil))))
    (mb_cons (ms_set (i := 5) sc__law_pairs.nd rfl (.inl rfl) (me_call (w__law_conj T) (hr.mono (by decide)) T.d__law_conj.mgf T.d__law_conj.fn.kp T.d__law_conj.bd tk (ma_cons (me_var 3) (ma_cons (me_call (w__law_perm T) (hr.mono (by decide)) T.d__law_perm.mgf T.d__law_perm.fn.kp T.d__law_perm.bd tk (ma_cons (me_var 0) (ma_cons (me_var 1) ma_nil))) ma_nil))))
    (mb_cons (ms_set (i := 6) sc__law_pairs.nd rfl (.inl rfl) (me_call (w__law_other T) (hr.mono (by decide)) T.d__law_other.mgf T.d__law_other.fn.kp T.d__law_other.bd tk (ma_cons (me_var 0) (ma_cons (me_var 5) (ma_cons (me_var 2) (ma_cons (me_var 1) ma_nil))))))
    (mb_cons (ms_set (i := 7) sc__law_pairs.nd rfl (.inl rfl) (me_lst (ma_cons (me_tup (ma_cons (me_var 4) (ma_cons (me_var 5) ma_nil))) (ma_cons (me_tup (ma_cons (me_var 5) (ma_cons (me_var 4) ma_nil))) (ma_cons (me_tup (ma_cons (me_var 4) (ma_cons (me_var 6) ma_nil))) (ma_cons (me_tup (ma_cons (me_var 6) (ma_cons (me_var 4) ma_nil))) ma_nil))))))
    (mb_one (ms_ret (me_op op_addAll os_add (me_var 7) (me_lst (ma_cons (me_tup (ma_cons (me_var 4) (ma_cons (me_var 4) ma_nil))) (ma_cons (me_tup (ma_cons (me_var 4) (ma_cons (me_call (w__law_inverse T) (hr.mono (by decide)) T.d__law_inverse.mgf T.d__law_inverse.fn.kp T.d__law_inverse.bd tk (ma_cons (me_var 4) ma_nil)) ma_nil))) ma_nil))))))))))))
theorem w__law_carries (T : Txt K mg) : FnOk P w K mg base (L2.CX P w) 1 T.f__law_carries T.fd__law_carries ["perm", "first", "second"] (spF K mg 3 c__law_carries) := by
  refine fn_ok (n := 4) (m := m__law_carries) T.d__law_carries.fn sc__law_carries rfl rfl fun cdv A outer s H E hr => ?_
  have tk : Takes (cxOf (L2.CX P w) P w K mg base N__law_carries "_law_carries" (defScope s__law_carries) T.f__law_carries cdv A outer s H E) (fun cls d _ H => E cls d H) := takes_of rfl rfl rfl rfl
  have po := passes_of (X := cxOf (L2.CX P w) P w K mg base N__law_carries "_law_carries" (defScope s__law_carries) T.f__law_carries cdv A outer s H E) rfl
  exact (mb_cons (ms_for po rfl (mi_range1 T.b_range (ma_cons (me_callB cl_len cs_lenAll T.b_len (ma_cons (me_var 0) ma_nil)) ma_nil)) (mg_var sc__law_carries.nd rfl (.inl rfl))
      (mb_one (ms_if (mt_cmp (op_neD hr.units) os_ne (me_ix ix_seq os_ix (me_var 2) (me_ix ix_seq os_ix (me_var 0) (me_var 3))) (me_ix ix_seq os_ix (me_var 0) (me_ix ix_seq os_ix (me_var 1) (me_var 3))) (nomark _))
      (mb_one (ms_ret me_bl))
      mb_nil)))
    (mb_one (ms_ret me_bl)))
theorem w__law_all (T : Txt K mg) : FnOk P w K mg base (L2.CX P w) 1 T.f__law_all T.fd__law_all ["points"] (spF K mg 1 c__law_all) := by
  refine fn_ok (n := 6) (m := m__law_all) T.d__law_all.fn sc__law_all rfl rfl fun cdv A outer s H E hr => ?_
  have tk : Takes (cxOf (L2.CX P w) P w K mg base N__law_all "_law_all" (defScope s__law_all) T.f__law_all cdv A outer s H E) (fun cls d _ H => E cls d H) := takes_of rfl rfl rfl rfl
  have po := passes_of (X := cxOf (L2.CX P w) P w K mg base N__law_all "_law_all" (defScope s__law_all) T.f__law_all cdv A outer s H E) rfl
  exact (mb_cons (ms_set (i := 1) sc__law_all.nd rfl (.inl rfl) (me_lst (ma_cons (me_tup ma_nil) ma_nil)))
    (mb_cons (ms_for po rfl (mi_range1 T.b_range (ma_cons (me_var 0) ma_nil)) (mg_var sc__law_all.nd rfl (.inl rfl))
      (mb_cons (ms_set (i := 3) sc__law_all.nd rfl (.inl rfl) (me_lst ma_nil))
    (mb_cons (ms_for po rfl (mi_val (me_callTy call_list_of cs_list T.b_list (ma_cons (me_var 1) ma_nil))) (mg_var sc__law_all.nd rfl (.inr rfl))
      (mb_one (ms_expr (me_meth PySem.F.plainAttrs_list PySem.F.slot_list_extend PySem.F.type_list_extend mt_extend ms_extend (me_var 3) (ma_cons (me_lc rfl sc__law_all.nd (mi_range1 T.b_range (ma_cons (me_var 0) ma_nil)) (blkOk_by (own := [("x", 5)]) (by show blkC N__law_all (defScope s__law_all) _ _ = true; decide +kernel)) (fun _ _ _ _ _ => (mgc_var sc__law_all.nd rfl (.inl rfl) (by decide))) (fun _ _ _ _ _ => (mts_one (mt_cmp (op_notIn2 (units65 hr)) os_notIn2 (me_var 5) (me_var 4) rfl))) (fun _ _ _ _ _ => (me_op op_addAll os_add (me_var 4) (me_tup (ma_cons (me_var 5) ma_nil))))) ma_nil)))))
    (mb_one (ms_set (i := 1) sc__law_all.nd rfl (.inl rfl) (me_var 3))))))
    (mb_one (ms_ret (me_var 1)))))
theorem w__law_tried (T : Txt K mg) : FnOk P w K mg base (L2.CX P w) 2 T.f__law_tried T.fd__law_tried ["rows", "first", "second"] (spF K mg 3 c__law_tried) := by
  refine fn_ok (n := 4) (m := m__law_tried) T.d__law_tried.fn sc__law_tried rfl rfl fun cdv A outer s H E hr => ?_
  have tk : Takes (cxOf (L2.CX P w) P w K mg base N__law_tried "_law_tried" (defScope s__law_tried) T.f__law_tried cdv A outer s H E) (fun cls d _ H => E cls d H) := takes_of rfl rfl rfl rfl
  have po := passes_of (X := cxOf (L2.CX P w) P w K mg base N__law_tried "_law_tried" (defScope s__law_tried) T.f__law_tried cdv A outer s H E) rfl
  exact (mb_cons (ms_for po rfl (mi_val (me_var 0)) (mg_var sc__law_tried.nd rfl (.inl rfl))
      (mb_one (ms_if (mt_truth ts_truth (me_call (w__law_carries T) (hr.mono (by decide)) T.d__law_carries.mgf T.d__law_carries.fn.kp T.d__law_carries.bd tk (ma_cons (me_var 3) (ma_cons (me_var 1) (ma_cons (me_var 2) ma_nil)))))
      (mb_one (ms_ret (me_var 3)))
      mb_nil)))
    (mb_one (ms_ret me_non)))
theorem w__law_is_perm (T : Txt K mg) : FnOk P w K mg base (L2.CX P w) 1 T.f__law_is_perm T.fd__law_is_perm ["value", "points"] (spF K mg 2 c__law_is_perm) := by
  refine fn_ok (n := 4) (m := m__law_is_perm) T.d__law_is_perm.fn sc__law_is_perm rfl rfl fun cdv A outer s H E hr => ?_
  have tk : Takes (cxOf (L2.CX P w) P w K mg base N__law_is_perm "_law_is_perm" (defScope s__law_is_perm) T.f__law_is_perm cdv A outer s H E) (fun cls d _ H => E cls d H) := takes_of rfl rfl rfl rfl
  have po := passes_of (X := cxOf (L2.CX P w) P w K mg base N__law_is_perm "_law_is_perm" (defScope s__law_is_perm) T.f__law_is_perm cdv A outer s H E) rfl
  exact (mb_cons (ms_if (MW.mt (mw_or (mt_not (mt_truth ts_truth (me_callB call_isi cs_isi T.b_isinstance (ma_cons (me_var 0) (ma_cons (me_ty T.b_tuple) ma_nil))))) (mw_or1 (mt_cmp (op_neD hr.units) os_ne (me_callB cl_len cs_lenAll T.b_len (ma_cons (me_var 0) ma_nil)) (me_var 1) (nomark _)))))
      (mb_one (ms_ret me_bl))
      mb_nil)
    (mb_cons (ms_set (i := 2) sc__law_is_perm.nd rfl (.inl rfl) (me_op op_mulAll os_mul (me_lst (ma_cons me_bl ma_nil)) (me_var 1)))
    (mb_cons (ms_for po rfl (mi_val (me_var 0)) (mg_var sc__law_is_perm.nd rfl (.inl rfl))
      (mb_cons (ms_if (MW.mt (mw_or (mt_not (mt_truth ts_truth (me_callB call_isi cs_isi T.b_isinstance (ma_cons (me_var 3) (ma_cons (me_ty T.b_int) ma_nil))))) (mw_or (mt_truth ts_truth (me_callB call_isi cs_isi T.b_isinstance (ma_cons (me_var 3) (ma_cons (me_ty T.b_bool) ma_nil)))) (mw_or (mt_cmp (op_ltAll hr.units0) os_lt (me_var 3) me_int (nomark _)) (mw_or (mt_cmp op_ge os_ge (me_var 3) (me_var 1) (nomark _)) (mw_or1 (mt_truth ts_truth (me_ix ix_seq os_ix (me_var 2) (me_var 3)))))))))
      (mb_one (ms_ret me_bl))
      mb_nil)
    (mb_one (ms_asg me_bl (mg_sub set_list ss_list (me_var 2) (me_var 3))))))
    (mb_one (ms_ret me_bl)))))
theorem w__law_few (T : Txt K mg) : FnOk P w K mg base (L2.CX P w) 5 T.f__law_few T.fd__law_few ["box"] (spF K mg 1 c__law_few) := by
  refine fn_ok (n := 6) (m := m__law_few) T.d__law_few.fn sc__law_few rfl rfl fun cdv A outer s H E hr => ?_
  have tk : Takes (cxOf (L2.CX P w) P w K mg base N__law_few "_law_few" (defScope s__law_few) T.f__law_few cdv A outer s H E) (fun cls d _ H => E cls d H) := takes_of rfl rfl rfl rfl
  have po := passes_of (X := cxOf (L2.CX P w) P w K mg base N__law_few "_law_few" (defScope s__law_few) T.f__law_few cdv A outer s H E) rfl
  exact (mb_cons (ms_set (i := 1) sc__law_few.nd rfl (.inl rfl) (me_op op_addAll os_add me_int (me_call (w__law_take T) (hr.mono (by decide)) T.d__law_take.mgf T.d__law_take.fn.kp T.d__law_take.bd tk (ma_cons (me_var 0) (ma_cons me_int ma_nil)))))
    (mb_cons (ms_if (mt_cmp (op_eqD hr.units) os_eq (me_call (w__law_take T) (hr.mono (by decide)) T.d__law_take.mgf T.d__law_take.fn.kp T.d__law_take.bd tk (ma_cons (me_var 0) (ma_cons me_int ma_nil))) me_int (nomark _))
      (mb_one (ms_set (i := 1) sc__law_few.nd rfl (.inl rfl) me_int))
      mb_nil)
    (mb_cons (ms_set (i := 2) sc__law_few.nd rfl (.inl rfl) (me_call (w__law_all T) (hr.mono (by decide)) T.d__law_all.mgf T.d__law_all.fn.kp T.d__law_all.bd tk (ma_cons (me_var 1) ma_nil)))
    (mb_cons (ms_for po rfl (mi_val (me_call (w__law_pairs T) (hr.mono (by decide)) T.d__law_pairs.mgf T.d__law_pairs.fn.kp T.d__law_pairs.bd tk (ma_cons (me_var 0) (ma_cons (me_var 1) ma_nil)))) (mg_var sc__law_few.nd rfl (.inl rfl))
      (mb_cons (ms_set (i := 4) sc__law_few.nd rfl (.inl rfl) (me_call (w__law_tried T) (hr.mono (by decide)) T.d__law_tried.mgf T.d__law_tried.fn.kp T.d__law_tried.bd tk (ma_cons (me_var 2) (ma_cons (me_ix ix_seq os_ix (me_var 3) me_int) (ma_cons (me_ix ix_seq os_ix (me_var 3) me_int) ma_nil)))))
    (mb_cons (ms_set (i := 5) sc__law_few.nd rfl (.inl rfl) (me_call (w_matching T) (hr.mono (by decide)) T.d_matching.mgf T.d_matching.fn.kp T.d_matching.bd tk (ma_cons (me_ix ix_seq os_ix (me_var 3) me_int) (ma_cons (me_ix ix_seq os_ix (me_var 3) me_int) ma_nil))))
    (mb_one (ms_if (mt_cmp op_isN os_is (me_var 4) me_non (nomark _))
      (mb_one (ms_if (mt_cmp op_notN os_isNot (me_var 5) me_non (nomark _))
      (mb_one (ms_ret me_bl))
      mb_nil))
      (mb_one (ms_if (MW.mt (mw_or (mt_not (mt_truth ts_truth (me_call (w__law_is_perm T) (hr.mono (by decide)) T.d__law_is_perm.mgf T.d__law_is_perm.fn.kp T.d__law_is_perm.bd tk (ma_cons (me_var 5) (ma_cons (me_var 1) ma_nil))))) (mw_or1 (mt_cmp (op_neD hr.units) os_ne (me_var 5) (me_var 4) (nomark _)))))
      (mb_one (ms_ret me_bl))
      mb_nil)))))))
    (mb_one (ms_ret me_bl))))))
theorem w__law_sizes (T : Txt K mg) : FnOk P w K mg base (L2.CX P w) 1 T.f__law_sizes T.fd__law_sizes ["perm"] (spF K mg 1 c__law_sizes) := by
  refine fn_ok (n := 6) (m := m__law_sizes) T.d__law_sizes.fn sc__law_sizes rfl rfl fun cdv A outer s H E hr => ?_
  have tk : Takes (cxOf (L2.CX P w) P w K mg base N__law_sizes "_law_sizes" (defScope s__law_sizes) T.f__law_sizes cdv A outer s H E) (fun cls d _ H => E cls d H) := takes_of rfl rfl rfl rfl
  have po := passes_of (X := cxOf (L2.CX P w) P w K mg base N__law_sizes "_law_sizes" (defScope s__law_sizes) T.f__law_sizes cdv A outer s H E) rfl
  exact (mb_cons (ms_set (i := 1) sc__law_sizes.nd rfl (.inl rfl) (me_op op_mulAll os_mul (me_lst (ma_cons me_int ma_nil)) (me_callB cl_len cs_lenAll T.b_len (ma_cons (me_var 0) ma_nil))))
    (mb_cons (ms_for po rfl (mi_range1 T.b_range (ma_cons (me_callB cl_len cs_lenAll T.b_len (ma_cons (me_var 0) ma_nil)) ma_nil)) (mg_var sc__law_sizes.nd rfl (.inl rfl))
      (mb_one (ms_if (mt_cmp (op_eqD hr.units) os_eq (me_ix ix_seq os_ix (me_var 1) (me_var 2)) me_int (nomark _))
      (mb_cons (ms_set (i := 3) sc__law_sizes.nd rfl (.inl rfl) (me_lst (ma_cons (me_var 2) ma_nil)))
    (mb_cons (ms_set (i := 4) sc__law_sizes.nd rfl (.inl rfl) (me_ix ix_seq os_ix (me_var 0) (me_var 2)))
    (mb_cons (ms_while po (mt_cmp (op_neD hr.units) os_ne (me_var 4) (me_var 2) (nomark _))
      (mb_cons (ms_expr (me_meth PySem.F.plainAttrs_list PySem.F.slot_list_append PySem.F.type_list_append mt_append ms_append (me_var 3) (ma_cons (me_var 4) ma_nil)))
    (mb_one (ms_set (i := 4) sc__law_sizes.nd rfl (.inl rfl) (me_ix ix_seq os_ix (me_var 0) (me_var 4))))))
    (mb_one (ms_for po rfl (mi_val (me_var 3)) (mg_var sc__law_sizes.nd rfl (.inl rfl))
      (mb_one (ms_asg (me_callB cl_len cs_lenAll T.b_len (ma_cons (me_var 3) ma_nil)) (mg_sub set_list ss_list (me_var 1) (me_var 5)))))))))
      mb_nil)))
    (mb_one (ms_ret (me_var 1)))))
theorem w__law_tally (T : Txt K mg) : FnOk P w K mg base (L2.CX P w) 1 T.f__law_tally T.fd__law_tally ["sizes"] (spF K mg 1 c__law_tally) := by
  refine fn_ok (n := 3) (m := m__law_tally) T.d__law_tally.fn sc__law_tally rfl rfl fun cdv A outer s H E hr => ?_
  have tk : Takes (cxOf (L2.CX P w) P w K mg base N__law_tally "_law_tally" (defScope s__law_tally) T.f__law_tally cdv A outer s H E) (fun cls d _ H => E cls d H) := takes_of rfl rfl rfl rfl
  have po := passes_of (X := cxOf (L2.CX P w) P w K mg base N__law_tally "_law_tally" (defScope s__law_tally) T.f__law_tally cdv A outer s H E) rfl
  exact (mb_cons (ms_set (i := 1) sc__law_tally.nd rfl (.inl rfl) (me_op op_mulAll os_mul (me_lst (ma_cons me_int ma_nil)) (me_op op_addAll os_add (me_callB cl_len cs_lenAll T.b_len (ma_cons (me_var 0) ma_nil)) me_int)))
    (mb_cons (ms_for po rfl (mi_val (me_var 0)) (mg_var sc__law_tally.nd rfl (.inl rfl))
      (mb_one (ms_asg (me_op op_addAll os_add (me_ix ix_seq os_ix (me_var 1) (me_var 2)) me_int) (mg_sub set_list ss_list (me_var 1) (me_var 2)))))
    (mb_one (ms_ret (me_var 1)))))
theorem w__law_is_least (T : Txt K mg) : FnOk P w K mg base (L2.CX P w) 2 T.f__law_is_least T.fd__law_is_least ["told", "first", "second"] (spF K mg 3 c__law_is_least) := by
  refine fn_ok (n := 12) (m := m__law_is_least) T.d__law_is_least.fn sc__law_is_least rfl rfl fun cdv A outer s H E hr => ?_
  have tk : Takes (cxOf (L2.CX P w) P w K mg base N__law_is_least "_law_is_least" (defScope s__law_is_least) T.f__law_is_least cdv A outer s H E) (fun cls d _ H => E cls d H) := takes_of rfl rfl rfl rfl
  have po := passes_of (X := cxOf (L2.CX P w) P w K mg base N__law_is_least "_law_is_least" (defScope s__law_is_least) T.f__law_is_least cdv A outer s H E) rfl
  exact (mb_cons (ms_set (i := 3) sc__law_is_least.nd rfl (.inl rfl) (me_callB cl_len cs_lenAll T.b_len (ma_cons (me_var 1) ma_nil)))
    (mb_cons (ms_set (i := 4) sc__law_is_least.nd rfl (.inr rfl) (me_call (w__law_sizes T) (hr.mono (by decide)) T.d__law_sizes.mgf T.d__law_sizes.fn.kp T.d__law_sizes.bd tk (ma_cons (me_var 2) ma_nil)))
    (mb_cons (ms_if (mt_cmp (op_neD hr.units) os_ne (me_call (w__law_tally T) (hr.mono (by decide)) T.d__law_tally.mgf T.d__law_tally.fn.kp T.d__law_tally.bd tk (ma_cons (me_call (w__law_sizes T) (hr.mono (by decide)) T.d__law_sizes.mgf T.d__law_sizes.fn.kp T.d__law_sizes.bd tk (ma_cons (me_var 1) ma_nil)) ma_nil)) (me_call (w__law_tally T) (hr.mono (by decide)) T.d__law_tally.mgf T.d__law_tally.fn.kp T.d__law_tally.bd tk (ma_cons (me_var 4) ma_nil)) (nomark _))
      (mb_one (ms_ret (me_cmp op_isN os_is (me_var 0) me_non (nomark _))))
      mb_nil)
    (mb_cons (ms_if (MW.mt (mw_or (mt_not (mt_truth ts_truth (me_call (w__law_is_perm T) (hr.mono (by decide)) T.d__law_is_perm.mgf T.d__law_is_perm.fn.kp T.d__law_is_perm.bd tk (ma_cons (me_var 0) (ma_cons (me_var 3) ma_nil))))) (mw_or1 (mt_not (mt_truth ts_truth (me_call (w__law_carries T) (hr.mono (by decide)) T.d__law_carries.mgf T.d__law_carries.fn.kp T.d__law_carries.bd tk (ma_cons (me_var 0) (ma_cons (me_var 1) (ma_cons (me_var 2) ma_nil)))))))))
      (mb_one (ms_ret me_bl))
      mb_nil)
    (mb_cons (ms_set (i := 5) sc__law_is_least.nd rfl (.inl rfl) (me_op op_mulAll os_mul (me_lst (ma_cons me_bl ma_nil)) (me_var 3)))
    (mb_cons (ms_set (i := 6) sc__law_is_least.nd rfl (.inr rfl) (me_op op_mulAll os_mul (me_lst (ma_cons me_bl ma_nil)) (me_var 3)))
    (mb_cons (ms_for po rfl (mi_range1 T.b_range (ma_cons (me_var 3) ma_nil)) (mg_var sc__law_is_least.nd rfl (.inl rfl))
      (mb_one (ms_if (mt_not (mt_truth ts_truth (me_ix ix_seq os_ix (me_var 5) (me_var 7))))
      (mb_cons (ms_set (i := 8) sc__law_is_least.nd rfl (.inr rfl) (me_ix ix_seq os_ix (me_var 0) (me_var 7)))
    (mb_cons (ms_if (mt_cmp op_gt os_gt (me_callB cl_len cs_lenAll T.b_len (ma_cons (me_lc rfl sc__law_is_least.nd (mi_range1 T.b_range (ma_cons (me_var 8) ma_nil)) (blkOk_by (own := [("z", 11)]) (by show blkC N__law_is_least (defScope s__law_is_least) _ _ = true; decide +kernel)) (fun _ _ _ _ _ => (mgc_var sc__law_is_least.nd rfl (.inl rfl) (by decide))) (fun _ _ _ _ _ => (mts_one (MW.mt (mw_and (mt_cmp (op_eqD hr.units) os_eq (me_ix ix_seq os_ix (me_var 4) (me_var 11)) (me_ix ix_seq os_ix (me_var 4) (me_var 8)) (nomark _)) (mw_and1 (mt_not (mt_truth ts_truth (me_ix ix_seq os_ix (me_var 6) (me_var 11))))))))) (fun _ _ _ _ _ => (me_var 11))) ma_nil)) me_int (nomark _))
      (mb_one (ms_ret me_bl))
      mb_nil)
    (mb_cons (ms_set (i := 9) sc__law_is_least.nd rfl (.inl rfl) (me_var 7))
    (mb_one (ms_for po rfl (mi_range1 T.b_range (ma_cons (me_ix ix_seq os_ix (me_var 4) (me_var 8)) ma_nil)) (mg_var sc__law_is_least.nd rfl (.inl rfl))
      (mb_cons (ms_asg me_bl (mg_sub set_list ss_list (me_var 5) (me_var 9)))
    (mb_cons (ms_asg me_bl (mg_sub set_list ss_list (me_var 6) (me_ix ix_seq os_ix (me_var 0) (me_var 9))))
    (mb_one (ms_set (i := 9) sc__law_is_least.nd rfl (.inl rfl) (me_ix ix_seq os_ix (me_var 1) (me_var 9)))))))))))
      mb_nil)))
    (mb_one (ms_ret me_bl)))))))))
theorem w__law_many (T : Txt K mg) : FnOk P w K mg base (L2.CX P w) 5 T.f__law_many T.fd__law_many ["box"] (spF K mg 1 c__law_many) := by
  refine fn_ok (n := 3) (m := m__law_many) T.d__law_many.fn sc__law_many rfl rfl fun cdv A outer s H E hr => ?_
  have tk : Takes (cxOf (L2.CX P w) P w K mg base N__law_many "_law_many" (defScope s__law_many) T.f__law_many cdv A outer s H E) (fun cls d _ H => E cls d H) := takes_of rfl rfl rfl rfl
  have po := passes_of (X := cxOf (L2.CX P w) P w K mg base N__law_many "_law_many" (defScope s__law_many) T.f__law_many cdv A outer s H E) rfl
  exact (mb_cons (ms_set (i := 1) sc__law_many.nd rfl (.inl rfl) (me_op op_addAll os_add me_int (me_call (w__law_take T) (hr.mono (by decide)) T.d__law_take.mgf T.d__law_take.fn.kp T.d__law_take.bd tk (ma_cons (me_var 0) (ma_cons me_int ma_nil)))))
    (mb_cons (ms_if (mt_cmp (op_eqD hr.units) os_eq (me_call (w__law_take T) (hr.mono (by decide)) T.d__law_take.mgf T.d__law_take.fn.kp T.d__law_take.bd tk (ma_cons (me_var 0) (ma_cons me_int ma_nil))) me_int (nomark _))
      (mb_one (ms_set (i := 1) sc__law_many.nd rfl (.inl rfl) (me_op op_addAll os_add me_int (me_call (w__law_take T) (hr.mono (by decide)) T.d__law_take.mgf T.d__law_take.fn.kp T.d__law_take.bd tk (ma_cons (me_var 0) (ma_cons me_int ma_nil))))))
      mb_nil)
    (mb_cons (ms_for po rfl (mi_val (me_call (w__law_pairs T) (hr.mono (by decide)) T.d__law_pairs.mgf T.d__law_pairs.fn.kp T.d__law_pairs.bd tk (ma_cons (me_var 0) (ma_cons (me_var 1) ma_nil)))) (mg_var sc__law_many.nd rfl (.inl rfl))
      (mb_one (ms_if (mt_not (mt_truth ts_truth (me_call (w__law_is_least T) (hr.mono (by decide)) T.d__law_is_least.mgf T.d__law_is_least.fn.kp T.d__law_is_least.bd tk (ma_cons (me_call (w_matching T) (hr.mono (by decide)) T.d_matching.mgf T.d_matching.fn.kp T.d_matching.bd tk (ma_cons (me_ix ix_seq os_ix (me_var 2) me_int) (ma_cons (me_ix ix_seq os_ix (me_var 2) me_int) ma_nil))) (ma_cons (me_ix ix_seq os_ix (me_var 2) me_int) (ma_cons (me_ix ix_seq os_ix (me_var 2) me_int) ma_nil))))))
      (mb_one (ms_ret me_bl))
      mb_nil)))
    (mb_one (ms_ret me_bl)))))
theorem w_law (T : Txt K mg) : FnOk P w K mg base (L2.CX P w) 6 T.f_law T.fd_law ["script"] (spF K mg 1 c_law) := by
  refine fn_ok (n := 2) (m := m_law) T.d_law.fn sc_law rfl rfl fun cdv A outer s H E hr => ?_
  have tk : Takes (cxOf (L2.CX P w) P w K mg base N_law "law" (defScope s_law) T.f_law cdv A outer s H E) (fun cls d _ H => E cls d H) := takes_of rfl rfl rfl rfl
  have po := passes_of (X := cxOf (L2.CX P w) P w K mg base N_law "law" (defScope s_law) T.f_law cdv A outer s H E) rfl
  exact (mb_cons (ms_set (i := 1) sc_law.nd rfl (.inl rfl) (me_call (w__law_box T) (hr.mono (by decide)) T.d__law_box.mgf T.d__law_box.fn.kp T.d__law_box.bd tk (ma_cons (me_var 0) ma_nil)))
    (mb_one (ms_ret (me_and (me_call (w__law_few T) (hr.mono (by decide)) T.d__law_few.mgf T.d__law_few.fn.kp T.d__law_few.bd tk (ma_cons (me_var 1) ma_nil)) (me_one (me_call (w__law_many T) (hr.mono (by decide)) T.d__law_many.mgf T.d__law_many.fn.kp T.d__law_many.bd tk (ma_cons (me_var 1) ma_nil)))))))
end
end Law

set_option maxHeartbeats 4000000
/-! printed by mk.py: what the top leaves, the end -/
namespace Law
open PySem PySem.Spec PyProof.Rows L2 Rf
theorem txt_mk {K : PySem.W.Frag} {mg : Str → Option Value} {h : Heap} (X : K.In h) (G : h.Ns mainGlobals mg)
  {od0 od1 od2 od3 od4 od5 od6 od7 od8 od9 od10 od11 od12 od13 od14 od15 od16 od17 od18 od19 od20 od21 od22 od23 od24 : Option Addr}
  {an0 an1 an2 an3 an4 an5 an6 an7 an8 an9 an10 an11 an12 an13 an14 an15 an16 an17 an18 an19 an20 an21 an22 an23 an24 : Option Addr}
  {sl0 sl1 sl2 sl3 sl4 sl5 sl6 sl7 sl8 sl9 sl10 sl11 sl12 sl13 sl14 sl15 sl16 sl17 sl18 sl19 sl20 sl21 sl22 sl23 sl24 : Array (Option Value)}
  {oc0 kV0 dc0 pm0 cd0 ct0 oc1 kV1 dc1 pm1 cd1 ct1 oc2 kV2 dc2 pm2 cd2 ct2 oc3 kV3 dc3 pm3 cd3 ct3 oc4 kV4 dc4 pm4 cd4 ct4 oc5 kV5 dc5 pm5 cd5 ct5 oc6 kV6 dc6 pm6 cd6 ct6 oc7 kV7 dc7 pm7 cd7 ct7 oc8 kV8 dc8 pm8 cd8 ct8 oc9 kV9 dc9 pm9 cd9 ct9 oc10 kV10 dc10 pm10 cd10 ct10 oc11 kV11 dc11 pm11 cd11 ct11 oc12 kV12 dc12 pm12 cd12 ct12 oc13 kV13 dc13 pm13 cd13 ct13 oc14 kV14 dc14 pm14 cd14 ct14 oc15 kV15 dc15 pm15 cd15 ct15 oc16 kV16 dc16 pm16 cd16 ct16 oc17 kV17 dc17 pm17 cd17 ct17 oc18 kV18 dc18 pm18 cd18 ct18 oc19 kV19 dc19 pm19 cd19 ct19 oc20 kV20 dc20 pm20 cd20 ct20 oc21 kV21 dc21 pm21 cd21 ct21 oc22 kV22 dc22 pm22 cd22 ct22 oc23 kV23 dc23 pm23 cd23 ct23 oc24 kV24 dc24 pm24 cd24 ct24 : Value}
  {f0 f1 f2 f3 f4 f5 f6 f7 f8 f9 f10 f11 f12 f13 f14 f15 f16 f17 f18 f19 f20 f21 f22 f23 f24 : Addr}
  (a0 : PySem.W.nsIn K mainGlobals "cycle_at" = some (some (.ref f0))) (l0 : K.lookup f0 = some ⟨oc0, od0, .func (PySem.W.fnOf "cycle_at" "cycle_at" (defArgs s_cycle_at) (defBody s_cycle_at) (defScope s_cycle_at) .none kV0 dc0 pm0 an0 cd0 ct0), sl0⟩) (c0 : PySem.W.codeIn K cd0 "cycle_at" = true) (k0 : PySem.W.keepIn K (.ref f0) = true)
  (a1 : PySem.W.nsIn K mainGlobals "cycles_of" = some (some (.ref f1))) (l1 : K.lookup f1 = some ⟨oc1, od1, .func (PySem.W.fnOf "cycles_of" "cycles_of" (defArgs s_cycles_of) (defBody s_cycles_of) (defScope s_cycles_of) .none kV1 dc1 pm1 an1 cd1 ct1), sl1⟩) (c1 : PySem.W.codeIn K cd1 "cycles_of" = true) (k1 : PySem.W.keepIn K (.ref f1) = true)
  (a2 : PySem.W.nsIn K mainGlobals "shape_of" = some (some (.ref f2))) (l2 : K.lookup f2 = some ⟨oc2, od2, .func (PySem.W.fnOf "shape_of" "shape_of" (defArgs s_shape_of) (defBody s_shape_of) (defScope s_shape_of) .none kV2 dc2 pm2 an2 cd2 ct2), sl2⟩) (c2 : PySem.W.codeIn K cd2 "shape_of" = true) (k2 : PySem.W.keepIn K (.ref f2) = true)
  (a3 : PySem.W.nsIn K mainGlobals "cycle_lengths" = some (some (.ref f3))) (l3 : K.lookup f3 = some ⟨oc3, od3, .func (PySem.W.fnOf "cycle_lengths" "cycle_lengths" (defArgs s_cycle_lengths) (defBody s_cycle_lengths) (defScope s_cycle_lengths) .none kV3 dc3 pm3 an3 cd3 ct3), sl3⟩) (c3 : PySem.W.codeIn K cd3 "cycle_lengths" = true) (k3 : PySem.W.keepIn K (.ref f3) = true)
  (a4 : PySem.W.nsIn K mainGlobals "matching" = some (some (.ref f4))) (l4 : K.lookup f4 = some ⟨oc4, od4, .func (PySem.W.fnOf "matching" "matching" (defArgs s_matching) (defBody s_matching) (defScope s_matching) .none kV4 dc4 pm4 an4 cd4 ct4), sl4⟩) (c4 : PySem.W.codeIn K cd4 "matching" = true) (k4 : PySem.W.keepIn K (.ref f4) = true)
  (a5 : PySem.W.nsIn K mainGlobals "_law_box" = some (some (.ref f5))) (l5 : K.lookup f5 = some ⟨oc5, od5, .func (PySem.W.fnOf "_law_box" "_law_box" (defArgs s__law_box) (defBody s__law_box) (defScope s__law_box) .none kV5 dc5 pm5 an5 cd5 ct5), sl5⟩) (c5 : PySem.W.codeIn K cd5 "_law_box" = true) (k5 : PySem.W.keepIn K (.ref f5) = true)
  (a6 : PySem.W.nsIn K mainGlobals "_law_take" = some (some (.ref f6))) (l6 : K.lookup f6 = some ⟨oc6, od6, .func (PySem.W.fnOf "_law_take" "_law_take" (defArgs s__law_take) (defBody s__law_take) (defScope s__law_take) .none kV6 dc6 pm6 an6 cd6 ct6), sl6⟩) (c6 : PySem.W.codeIn K cd6 "_law_take" = true) (k6 : PySem.W.keepIn K (.ref f6) = true)
  (a7 : PySem.W.nsIn K mainGlobals "_law_perm" = some (some (.ref f7))) (l7 : K.lookup f7 = some ⟨oc7, od7, .func (PySem.W.fnOf "_law_perm" "_law_perm" (defArgs s__law_perm) (defBody s__law_perm) (defScope s__law_perm) .none kV7 dc7 pm7 an7 cd7 ct7), sl7⟩) (c7 : PySem.W.codeIn K cd7 "_law_perm" = true) (k7 : PySem.W.keepIn K (.ref f7) = true)
  (a8 : PySem.W.nsIn K mainGlobals "_law_times" = some (some (.ref f8))) (l8 : K.lookup f8 = some ⟨oc8, od8, .func (PySem.W.fnOf "_law_times" "_law_times" (defArgs s__law_times) (defBody s__law_times) (defScope s__law_times) .none kV8 dc8 pm8 an8 cd8 ct8), sl8⟩) (c8 : PySem.W.codeIn K cd8 "_law_times" = true) (k8 : PySem.W.keepIn K (.ref f8) = true)
  (a9 : PySem.W.nsIn K mainGlobals "_law_conj" = some (some (.ref f9))) (l9 : K.lookup f9 = some ⟨oc9, od9, .func (PySem.W.fnOf "_law_conj" "_law_conj" (defArgs s__law_conj) (defBody s__law_conj) (defScope s__law_conj) .none kV9 dc9 pm9 an9 cd9 ct9), sl9⟩) (c9 : PySem.W.codeIn K cd9 "_law_conj" = true) (k9 : PySem.W.keepIn K (.ref f9) = true)
  (a10 : PySem.W.nsIn K mainGlobals "_law_lengths" = some (some (.ref f10))) (l10 : K.lookup f10 = some ⟨oc10, od10, .func (PySem.W.fnOf "_law_lengths" "_law_lengths" (defArgs s__law_lengths) (defBody s__law_lengths) (defScope s__law_lengths) .none kV10 dc10 pm10 an10 cd10 ct10), sl10⟩) (c10 : PySem.W.codeIn K cd10 "_law_lengths" = true) (k10 : PySem.W.keepIn K (.ref f10) = true)
  (a11 : PySem.W.nsIn K mainGlobals "_law_shaped" = some (some (.ref f11))) (l11 : K.lookup f11 = some ⟨oc11, od11, .func (PySem.W.fnOf "_law_shaped" "_law_shaped" (defArgs s__law_shaped) (defBody s__law_shaped) (defScope s__law_shaped) .none kV11 dc11 pm11 an11 cd11 ct11), sl11⟩) (c11 : PySem.W.codeIn K cd11 "_law_shaped" = true) (k11 : PySem.W.keepIn K (.ref f11) = true)
  (a12 : PySem.W.nsIn K mainGlobals "_law_other" = some (some (.ref f12))) (l12 : K.lookup f12 = some ⟨oc12, od12, .func (PySem.W.fnOf "_law_other" "_law_other" (defArgs s__law_other) (defBody s__law_other) (defScope s__law_other) .none kV12 dc12 pm12 an12 cd12 ct12), sl12⟩) (c12 : PySem.W.codeIn K cd12 "_law_other" = true) (k12 : PySem.W.keepIn K (.ref f12) = true)
  (a13 : PySem.W.nsIn K mainGlobals "_law_inverse" = some (some (.ref f13))) (l13 : K.lookup f13 = some ⟨oc13, od13, .func (PySem.W.fnOf "_law_inverse" "_law_inverse" (defArgs s__law_inverse) (defBody s__law_inverse) (defScope s__law_inverse) .none kV13 dc13 pm13 an13 cd13 ct13), sl13⟩) (c13 : PySem.W.codeIn K cd13 "_law_inverse" = true) (k13 : PySem.W.keepIn K (.ref f13) = true)
  (a14 : PySem.W.nsIn K mainGlobals "_law_pairs" = some (some (.ref f14))) (l14 : K.lookup f14 = some ⟨oc14, od14, .func (PySem.W.fnOf "_law_pairs" "_law_pairs" (defArgs s__law_pairs) (defBody s__law_pairs) (defScope s__law_pairs) .none kV14 dc14 pm14 an14 cd14 ct14), sl14⟩) (c14 : PySem.W.codeIn K cd14 "_law_pairs" = true) (k14 : PySem.W.keepIn K (.ref f14) = true)
  (a15 : PySem.W.nsIn K mainGlobals "_law_carries" = some (some (.ref f15))) (l15 : K.lookup f15 = some ⟨oc15, od15, .func (PySem.W.fnOf "_law_carries" "_law_carries" (defArgs s__law_carries) (defBody s__law_carries) (defScope s__law_carries) .none kV15 dc15 pm15 an15 cd15 ct15), sl15⟩) (c15 : PySem.W.codeIn K cd15 "_law_carries" = true) (k15 : PySem.W.keepIn K (.ref f15) = true)
  (a16 : PySem.W.nsIn K mainGlobals "_law_all" = some (some (.ref f16))) (l16 : K.lookup f16 = some ⟨oc16, od16, .func (PySem.W.fnOf "_law_all" "_law_all" (defArgs s__law_all) (defBody s__law_all) (defScope s__law_all) .none kV16 dc16 pm16 an16 cd16 ct16), sl16⟩) (c16 : PySem.W.codeIn K cd16 "_law_all" = true) (k16 : PySem.W.keepIn K (.ref f16) = true)
  (a17 : PySem.W.nsIn K mainGlobals "_law_tried" = some (some (.ref f17))) (l17 : K.lookup f17 = some ⟨oc17, od17, .func (PySem.W.fnOf "_law_tried" "_law_tried" (defArgs s__law_tried) (defBody s__law_tried) (defScope s__law_tried) .none kV17 dc17 pm17 an17 cd17 ct17), sl17⟩) (c17 : PySem.W.codeIn K cd17 "_law_tried" = true) (k17 : PySem.W.keepIn K (.ref f17) = true)
  (a18 : PySem.W.nsIn K mainGlobals "_law_is_perm" = some (some (.ref f18))) (l18 : K.lookup f18 = some ⟨oc18, od18, .func (PySem.W.fnOf "_law_is_perm" "_law_is_perm" (defArgs s__law_is_perm) (defBody s__law_is_perm) (defScope s__law_is_perm) .none kV18 dc18 pm18 an18 cd18 ct18), sl18⟩) (c18 : PySem.W.codeIn K cd18 "_law_is_perm" = true) (k18 : PySem.W.keepIn K (.ref f18) = true)
  (a19 : PySem.W.nsIn K mainGlobals "_law_few" = some (some (.ref f19))) (l19 : K.lookup f19 = some ⟨oc19, od19, .func (PySem.W.fnOf "_law_few" "_law_few" (defArgs s__law_few) (defBody s__law_few) (defScope s__law_few) .none kV19 dc19 pm19 an19 cd19 ct19), sl19⟩) (c19 : PySem.W.codeIn K cd19 "_law_few" = true) (k19 : PySem.W.keepIn K (.ref f19) = true)
  (a20 : PySem.W.nsIn K mainGlobals "_law_sizes" = some (some (.ref f20))) (l20 : K.lookup f20 = some ⟨oc20, od20, .func (PySem.W.fnOf "_law_sizes" "_law_sizes" (defArgs s__law_sizes) (defBody s__law_sizes) (defScope s__law_sizes) .none kV20 dc20 pm20 an20 cd20 ct20), sl20⟩) (c20 : PySem.W.codeIn K cd20 "_law_sizes" = true) (k20 : PySem.W.keepIn K (.ref f20) = true)
  (a21 : PySem.W.nsIn K mainGlobals "_law_tally" = some (some (.ref f21))) (l21 : K.lookup f21 = some ⟨oc21, od21, .func (PySem.W.fnOf "_law_tally" "_law_tally" (defArgs s__law_tally) (defBody s__law_tally) (defScope s__law_tally) .none kV21 dc21 pm21 an21 cd21 ct21), sl21⟩) (c21 : PySem.W.codeIn K cd21 "_law_tally" = true) (k21 : PySem.W.keepIn K (.ref f21) = true)
  (a22 : PySem.W.nsIn K mainGlobals "_law_is_least" = some (some (.ref f22))) (l22 : K.lookup f22 = some ⟨oc22, od22, .func (PySem.W.fnOf "_law_is_least" "_law_is_least" (defArgs s__law_is_least) (defBody s__law_is_least) (defScope s__law_is_least) .none kV22 dc22 pm22 an22 cd22 ct22), sl22⟩) (c22 : PySem.W.codeIn K cd22 "_law_is_least" = true) (k22 : PySem.W.keepIn K (.ref f22) = true)
  (a23 : PySem.W.nsIn K mainGlobals "_law_many" = some (some (.ref f23))) (l23 : K.lookup f23 = some ⟨oc23, od23, .func (PySem.W.fnOf "_law_many" "_law_many" (defArgs s__law_many) (defBody s__law_many) (defScope s__law_many) .none kV23 dc23 pm23 an23 cd23 ct23), sl23⟩) (c23 : PySem.W.codeIn K cd23 "_law_many" = true) (k23 : PySem.W.keepIn K (.ref f23) = true)
  (a24 : PySem.W.nsIn K mainGlobals "law" = some (some (.ref f24))) (l24 : K.lookup f24 = some ⟨oc24, od24, .func (PySem.W.fnOf "law" "law" (defArgs s_law) (defBody s_law) (defScope s_law) .none kV24 dc24 pm24 an24 cd24 ct24), sl24⟩) (c24 : PySem.W.codeIn K cd24 "law" = true) (k24 : PySem.W.keepIn K (.ref f24) = true)
  (z0 : PySem.W.nsIn K mainGlobals "len" = some none)
  (z1 : PySem.W.nsIn K mainGlobals "range" = some none)
  (z2 : PySem.W.nsIn K mainGlobals "tuple" = some none)
  (z3 : PySem.W.nsIn K mainGlobals "sorted" = some none)
  (z4 : PySem.W.nsIn K mainGlobals "int" = some none)
  (z5 : PySem.W.nsIn K mainGlobals "list" = some none)
  (z6 : PySem.W.nsIn K mainGlobals "min" = some none)
  (z7 : PySem.W.nsIn K mainGlobals "isinstance" = some none)
  (z8 : PySem.W.nsIn K mainGlobals "bool" = some none) : ∃ T : Txt K mg, T.fd_law = (PySem.W.fnOf "law" "law" (defArgs s_law) (defBody s_law) (defScope s_law) .none kV24 dc24 pm24 an24 cd24 ct24) := by
  have F0 := fun_mk (st := s_cycle_at) l0 c0 k0
  have B0 := F0.binds (ps := ["perm", "point"]) fun _ _ _ _ _ _ us hl => match us, hl with | [_, _], _ => rfl
  have F1 := fun_mk (st := s_cycles_of) l1 c1 k1
  have F2 := fun_mk (st := s_shape_of) l2 c2 k2
  have B2 := F2.binds (ps := ["perm"]) fun _ _ _ _ _ _ us hl => match us, hl with | [_], _ => rfl
  have F3 := fun_mk (st := s_cycle_lengths) l3 c3 k3
  have B3 := F3.binds (ps := ["perm"]) fun _ _ _ _ _ _ us hl => match us, hl with | [_], _ => rfl
  have F4 := fun_mk (st := s_matching) l4 c4 k4
  have B4 := F4.binds (ps := ["first", "second"]) fun _ _ _ _ _ _ us hl => match us, hl with | [_, _], _ => rfl
  have F5 := fun_mk (st := s__law_box) l5 c5 k5
  have B5 := F5.binds (ps := ["script"]) fun _ _ _ _ _ _ us hl => match us, hl with | [_], _ => rfl
  have F6 := fun_mk (st := s__law_take) l6 c6 k6
  have B6 := F6.binds (ps := ["box", "size"]) fun _ _ _ _ _ _ us hl => match us, hl with | [_, _], _ => rfl
  have F7 := fun_mk (st := s__law_perm) l7 c7 k7
  have B7 := F7.binds (ps := ["box", "points"]) fun _ _ _ _ _ _ us hl => match us, hl with | [_, _], _ => rfl
  have F8 := fun_mk (st := s__law_times) l8 c8 k8
  have B8 := F8.binds (ps := ["first", "second"]) fun _ _ _ _ _ _ us hl => match us, hl with | [_, _], _ => rfl
  have F9 := fun_mk (st := s__law_conj) l9 c9 k9
  have B9 := F9.binds (ps := ["perm", "by"]) fun _ _ _ _ _ _ us hl => match us, hl with | [_, _], _ => rfl
  have F10 := fun_mk (st := s__law_lengths) l10 c10 k10
  have B10 := F10.binds (ps := ["box", "points"]) fun _ _ _ _ _ _ us hl => match us, hl with | [_, _], _ => rfl
  have F11 := fun_mk (st := s__law_shaped) l11 c11 k11
  have B11 := F11.binds (ps := ["lengths"]) fun _ _ _ _ _ _ us hl => match us, hl with | [_], _ => rfl
  have F12 := fun_mk (st := s__law_other) l12 c12 k12
  have B12 := F12.binds (ps := ["box", "perm", "lengths", "points"]) fun _ _ _ _ _ _ us hl => match us, hl with | [_, _, _, _], _ => rfl
  have F13 := fun_mk (st := s__law_inverse) l13 c13 k13
  have B13 := F13.binds (ps := ["perm"]) fun _ _ _ _ _ _ us hl => match us, hl with | [_], _ => rfl
  have F14 := fun_mk (st := s__law_pairs) l14 c14 k14
  have B14 := F14.binds (ps := ["box", "points"]) fun _ _ _ _ _ _ us hl => match us, hl with | [_, _], _ => rfl
  have F15 := fun_mk (st := s__law_carries) l15 c15 k15
  have B15 := F15.binds (ps := ["perm", "first", "second"]) fun _ _ _ _ _ _ us hl => match us, hl with | [_, _, _], _ => rfl
  have F16 := fun_mk (st := s__law_all) l16 c16 k16
  have B16 := F16.binds (ps := ["points"]) fun _ _ _ _ _ _ us hl => match us, hl with | [_], _ => rfl
  have F17 := fun_mk (st := s__law_tried) l17 c17 k17
  have B17 := F17.binds (ps := ["rows", "first", "second"]) fun _ _ _ _ _ _ us hl => match us, hl with | [_, _, _], _ => rfl
  have F18 := fun_mk (st := s__law_is_perm) l18 c18 k18
  have B18 := F18.binds (ps := ["value", "points"]) fun _ _ _ _ _ _ us hl => match us, hl with | [_, _], _ => rfl
  have F19 := fun_mk (st := s__law_few) l19 c19 k19
  have B19 := F19.binds (ps := ["box"]) fun _ _ _ _ _ _ us hl => match us, hl with | [_], _ => rfl
  have F20 := fun_mk (st := s__law_sizes) l20 c20 k20
  have B20 := F20.binds (ps := ["perm"]) fun _ _ _ _ _ _ us hl => match us, hl with | [_], _ => rfl
  have F21 := fun_mk (st := s__law_tally) l21 c21 k21
  have B21 := F21.binds (ps := ["sizes"]) fun _ _ _ _ _ _ us hl => match us, hl with | [_], _ => rfl
  have F22 := fun_mk (st := s__law_is_least) l22 c22 k22
  have B22 := F22.binds (ps := ["told", "first", "second"]) fun _ _ _ _ _ _ us hl => match us, hl with | [_, _, _], _ => rfl
  have F23 := fun_mk (st := s__law_many) l23 c23 k23
  have B23 := F23.binds (ps := ["box"]) fun _ _ _ _ _ _ us hl => match us, hl with | [_], _ => rfl
  have F24 := fun_mk (st := s_law) l24 c24 k24
  have B24 := F24.binds (ps := ["script"]) fun _ _ _ _ _ _ us hl => match us, hl with | [_], _ => rfl
  exact ⟨⟨f0, _, ⟨F0, PySem.W.mg_of X G a0, B0⟩, f1, _, ⟨F1, PySem.W.mg_of X G a1⟩, f2, _, ⟨F2, PySem.W.mg_of X G a2, B2⟩, f3, _, ⟨F3, PySem.W.mg_of X G a3, B3⟩, f4, _, ⟨F4, PySem.W.mg_of X G a4, B4⟩, f5, _, ⟨F5, PySem.W.mg_of X G a5, B5⟩, f6, _, ⟨F6, PySem.W.mg_of X G a6, B6⟩, f7, _, ⟨F7, PySem.W.mg_of X G a7, B7⟩, f8, _, ⟨F8, PySem.W.mg_of X G a8, B8⟩, f9, _, ⟨F9, PySem.W.mg_of X G a9, B9⟩, f10, _, ⟨F10, PySem.W.mg_of X G a10, B10⟩, f11, _, ⟨F11, PySem.W.mg_of X G a11, B11⟩, f12, _, ⟨F12, PySem.W.mg_of X G a12, B12⟩, f13, _, ⟨F13, PySem.W.mg_of X G a13, B13⟩, f14, _, ⟨F14, PySem.W.mg_of X G a14, B14⟩, f15, _, ⟨F15, PySem.W.mg_of X G a15, B15⟩, f16, _, ⟨F16, PySem.W.mg_of X G a16, B16⟩, f17, _, ⟨F17, PySem.W.mg_of X G a17, B17⟩, f18, _, ⟨F18, PySem.W.mg_of X G a18, B18⟩, f19, _, ⟨F19, PySem.W.mg_of X G a19, B19⟩, f20, _, ⟨F20, PySem.W.mg_of X G a20, B20⟩, f21, _, ⟨F21, PySem.W.mg_of X G a21, B21⟩, f22, _, ⟨F22, PySem.W.mg_of X G a22, B22⟩, f23, _, ⟨F23, PySem.W.mg_of X G a23, B23⟩, f24, _, ⟨F24, PySem.W.mg_of X G a24, B24⟩, PySem.W.mg_none_of X G z0, PySem.W.mg_none_of X G z1, PySem.W.mg_none_of X G z2, PySem.W.mg_none_of X G z3, PySem.W.mg_none_of X G z4, PySem.W.mg_none_of X G z5, PySem.W.mg_none_of X G z6, PySem.W.mg_none_of X G z7, PySem.W.mg_none_of X G z8, ⟨fun s us ws X l1 l2 => match us, ws, l1, l2 with | [_], [_], _, _ => .of_eq rfl, fun r q => permK_Vals r q _⟩⟩, rfl⟩
theorem all_mk {w : World} {K : PySem.W.Frag} {mg : Str → Option Value} {h : Heap} {fa : Addr} (X : K.In h) (G : h.Ns mainGlobals mg) (hfa : mg "law" = some (.ref fa))
  {od0 od1 od2 od3 od4 od5 od6 od7 od8 od9 od10 od11 od12 od13 od14 od15 od16 od17 od18 od19 od20 od21 od22 od23 od24 : Option Addr}
  {an0 an1 an2 an3 an4 an5 an6 an7 an8 an9 an10 an11 an12 an13 an14 an15 an16 an17 an18 an19 an20 an21 an22 an23 an24 : Option Addr}
  {sl0 sl1 sl2 sl3 sl4 sl5 sl6 sl7 sl8 sl9 sl10 sl11 sl12 sl13 sl14 sl15 sl16 sl17 sl18 sl19 sl20 sl21 sl22 sl23 sl24 : Array (Option Value)}
  {oc0 kV0 dc0 pm0 cd0 ct0 oc1 kV1 dc1 pm1 cd1 ct1 oc2 kV2 dc2 pm2 cd2 ct2 oc3 kV3 dc3 pm3 cd3 ct3 oc4 kV4 dc4 pm4 cd4 ct4 oc5 kV5 dc5 pm5 cd5 ct5 oc6 kV6 dc6 pm6 cd6 ct6 oc7 kV7 dc7 pm7 cd7 ct7 oc8 kV8 dc8 pm8 cd8 ct8 oc9 kV9 dc9 pm9 cd9 ct9 oc10 kV10 dc10 pm10 cd10 ct10 oc11 kV11 dc11 pm11 cd11 ct11 oc12 kV12 dc12 pm12 cd12 ct12 oc13 kV13 dc13 pm13 cd13 ct13 oc14 kV14 dc14 pm14 cd14 ct14 oc15 kV15 dc15 pm15 cd15 ct15 oc16 kV16 dc16 pm16 cd16 ct16 oc17 kV17 dc17 pm17 cd17 ct17 oc18 kV18 dc18 pm18 cd18 ct18 oc19 kV19 dc19 pm19 cd19 ct19 oc20 kV20 dc20 pm20 cd20 ct20 oc21 kV21 dc21 pm21 cd21 ct21 oc22 kV22 dc22 pm22 cd22 ct22 oc23 kV23 dc23 pm23 cd23 ct23 oc24 kV24 dc24 pm24 cd24 ct24 : Value}
  {f0 f1 f2 f3 f4 f5 f6 f7 f8 f9 f10 f11 f12 f13 f14 f15 f16 f17 f18 f19 f20 f21 f22 f23 f24 : Addr}
  (a0 : PySem.W.nsIn K mainGlobals "cycle_at" = some (some (.ref f0))) (l0 : K.lookup f0 = some ⟨oc0, od0, .func (PySem.W.fnOf "cycle_at" "cycle_at" (defArgs s_cycle_at) (defBody s_cycle_at) (defScope s_cycle_at) .none kV0 dc0 pm0 an0 cd0 ct0), sl0⟩) (c0 : PySem.W.codeIn K cd0 "cycle_at" = true) (k0 : PySem.W.keepIn K (.ref f0) = true)
  (a1 : PySem.W.nsIn K mainGlobals "cycles_of" = some (some (.ref f1))) (l1 : K.lookup f1 = some ⟨oc1, od1, .func (PySem.W.fnOf "cycles_of" "cycles_of" (defArgs s_cycles_of) (defBody s_cycles_of) (defScope s_cycles_of) .none kV1 dc1 pm1 an1 cd1 ct1), sl1⟩) (c1 : PySem.W.codeIn K cd1 "cycles_of" = true) (k1 : PySem.W.keepIn K (.ref f1) = true)
  (a2 : PySem.W.nsIn K mainGlobals "shape_of" = some (some (.ref f2))) (l2 : K.lookup f2 = some ⟨oc2, od2, .func (PySem.W.fnOf "shape_of" "shape_of" (defArgs s_shape_of) (defBody s_shape_of) (defScope s_shape_of) .none kV2 dc2 pm2 an2 cd2 ct2), sl2⟩) (c2 : PySem.W.codeIn K cd2 "shape_of" = true) (k2 : PySem.W.keepIn K (.ref f2) = true)
  (a3 : PySem.W.nsIn K mainGlobals "cycle_lengths" = some (some (.ref f3))) (l3 : K.lookup f3 = some ⟨oc3, od3, .func (PySem.W.fnOf "cycle_lengths" "cycle_lengths" (defArgs s_cycle_lengths) (defBody s_cycle_lengths) (defScope s_cycle_lengths) .none kV3 dc3 pm3 an3 cd3 ct3), sl3⟩) (c3 : PySem.W.codeIn K cd3 "cycle_lengths" = true) (k3 : PySem.W.keepIn K (.ref f3) = true)
  (a4 : PySem.W.nsIn K mainGlobals "matching" = some (some (.ref f4))) (l4 : K.lookup f4 = some ⟨oc4, od4, .func (PySem.W.fnOf "matching" "matching" (defArgs s_matching) (defBody s_matching) (defScope s_matching) .none kV4 dc4 pm4 an4 cd4 ct4), sl4⟩) (c4 : PySem.W.codeIn K cd4 "matching" = true) (k4 : PySem.W.keepIn K (.ref f4) = true)
  (a5 : PySem.W.nsIn K mainGlobals "_law_box" = some (some (.ref f5))) (l5 : K.lookup f5 = some ⟨oc5, od5, .func (PySem.W.fnOf "_law_box" "_law_box" (defArgs s__law_box) (defBody s__law_box) (defScope s__law_box) .none kV5 dc5 pm5 an5 cd5 ct5), sl5⟩) (c5 : PySem.W.codeIn K cd5 "_law_box" = true) (k5 : PySem.W.keepIn K (.ref f5) = true)
  (a6 : PySem.W.nsIn K mainGlobals "_law_take" = some (some (.ref f6))) (l6 : K.lookup f6 = some ⟨oc6, od6, .func (PySem.W.fnOf "_law_take" "_law_take" (defArgs s__law_take) (defBody s__law_take) (defScope s__law_take) .none kV6 dc6 pm6 an6 cd6 ct6), sl6⟩) (c6 : PySem.W.codeIn K cd6 "_law_take" = true) (k6 : PySem.W.keepIn K (.ref f6) = true)
  (a7 : PySem.W.nsIn K mainGlobals "_law_perm" = some (some (.ref f7))) (l7 : K.lookup f7 = some ⟨oc7, od7, .func (PySem.W.fnOf "_law_perm" "_law_perm" (defArgs s__law_perm) (defBody s__law_perm) (defScope s__law_perm) .none kV7 dc7 pm7 an7 cd7 ct7), sl7⟩) (c7 : PySem.W.codeIn K cd7 "_law_perm" = true) (k7 : PySem.W.keepIn K (.ref f7) = true)
  (a8 : PySem.W.nsIn K mainGlobals "_law_times" = some (some (.ref f8))) (l8 : K.lookup f8 = some ⟨oc8, od8, .func (PySem.W.fnOf "_law_times" "_law_times" (defArgs s__law_times) (defBody s__law_times) (defScope s__law_times) .none kV8 dc8 pm8 an8 cd8 ct8), sl8⟩) (c8 : PySem.W.codeIn K cd8 "_law_times" = true) (k8 : PySem.W.keepIn K (.ref f8) = true)
  (a9 : PySem.W.nsIn K mainGlobals "_law_conj" = some (some (.ref f9))) (l9 : K.lookup f9 = some ⟨oc9, od9, .func (PySem.W.fnOf "_law_conj" "_law_conj" (defArgs s__law_conj) (defBody s__law_conj) (defScope s__law_conj) .none kV9 dc9 pm9 an9 cd9 ct9), sl9⟩) (c9 : PySem.W.codeIn K cd9 "_law_conj" = true) (k9 : PySem.W.keepIn K (.ref f9) = true)
  (a10 : PySem.W.nsIn K mainGlobals "_law_lengths" = some (some (.ref f10))) (l10 : K.lookup f10 = some ⟨oc10, od10, .func (PySem.W.fnOf "_law_lengths" "_law_lengths" (defArgs s__law_lengths) (defBody s__law_lengths) (defScope s__law_lengths) .none kV10 dc10 pm10 an10 cd10 ct10), sl10⟩) (c10 : PySem.W.codeIn K cd10 "_law_lengths" = true) (k10 : PySem.W.keepIn K (.ref f10) = true)
  (a11 : PySem.W.nsIn K mainGlobals "_law_shaped" = some (some (.ref f11))) (l11 : K.lookup f11 = some ⟨oc11, od11, .func (PySem.W.fnOf "_law_shaped" "_law_shaped" (defArgs s__law_shaped) (defBody s__law_shaped) (defScope s__law_shaped) .none kV11 dc11 pm11 an11 cd11 ct11), sl11⟩) (c11 : PySem.W.codeIn K cd11 "_law_shaped" = true) (k11 : PySem.W.keepIn K (.ref f11) = true)
  (a12 : PySem.W.nsIn K mainGlobals "_law_other" = some (some (.ref f12))) (l12 : K.lookup f12 = some ⟨oc12, od12, .func (PySem.W.fnOf "_law_other" "_law_other" (defArgs s__law_other) (defBody s__law_other) (defScope s__law_other) .none kV12 dc12 pm12 an12 cd12 ct12), sl12⟩) (c12 : PySem.W.codeIn K cd12 "_law_other" = true) (k12 : PySem.W.keepIn K (.ref f12) = true)
  (a13 : PySem.W.nsIn K mainGlobals "_law_inverse" = some (some (.ref f13))) (l13 : K.lookup f13 = some ⟨oc13, od13, .func (PySem.W.fnOf "_law_inverse" "_law_inverse" (defArgs s__law_inverse) (defBody s__law_inverse) (defScope s__law_inverse) .none kV13 dc13 pm13 an13 cd13 ct13), sl13⟩) (c13 : PySem.W.codeIn K cd13 "_law_inverse" = true) (k13 : PySem.W.keepIn K (.ref f13) = true)
  (a14 : PySem.W.nsIn K mainGlobals "_law_pairs" = some (some (.ref f14))) (l14 : K.lookup f14 = some ⟨oc14, od14, .func (PySem.W.fnOf "_law_pairs" "_law_pairs" (defArgs s__law_pairs) (defBody s__law_pairs) (defScope s__law_pairs) .none kV14 dc14 pm14 an14 cd14 ct14), sl14⟩) (c14 : PySem.W.codeIn K cd14 "_law_pairs" = true) (k14 : PySem.W.keepIn K (.ref f14) = true)
  (a15 : PySem.W.nsIn K mainGlobals "_law_carries" = some (some (.ref f15))) (l15 : K.lookup f15 = some ⟨oc15, od15, .func (PySem.W.fnOf "_law_carries" "_law_carries" (defArgs s__law_carries) (defBody s__law_carries) (defScope s__law_carries) .none kV15 dc15 pm15 an15 cd15 ct15), sl15⟩) (c15 : PySem.W.codeIn K cd15 "_law_carries" = true) (k15 : PySem.W.keepIn K (.ref f15) = true)
  (a16 : PySem.W.nsIn K mainGlobals "_law_all" = some (some (.ref f16))) (l16 : K.lookup f16 = some ⟨oc16, od16, .func (PySem.W.fnOf "_law_all" "_law_all" (defArgs s__law_all) (defBody s__law_all) (defScope s__law_all) .none kV16 dc16 pm16 an16 cd16 ct16), sl16⟩) (c16 : PySem.W.codeIn K cd16 "_law_all" = true) (k16 : PySem.W.keepIn K (.ref f16) = true)
  (a17 : PySem.W.nsIn K mainGlobals "_law_tried" = some (some (.ref f17))) (l17 : K.lookup f17 = some ⟨oc17, od17, .func (PySem.W.fnOf "_law_tried" "_law_tried" (defArgs s__law_tried) (defBody s__law_tried) (defScope s__law_tried) .none kV17 dc17 pm17 an17 cd17 ct17), sl17⟩) (c17 : PySem.W.codeIn K cd17 "_law_tried" = true) (k17 : PySem.W.keepIn K (.ref f17) = true)
  (a18 : PySem.W.nsIn K mainGlobals "_law_is_perm" = some (some (.ref f18))) (l18 : K.lookup f18 = some ⟨oc18, od18, .func (PySem.W.fnOf "_law_is_perm" "_law_is_perm" (defArgs s__law_is_perm) (defBody s__law_is_perm) (defScope s__law_is_perm) .none kV18 dc18 pm18 an18 cd18 ct18), sl18⟩) (c18 : PySem.W.codeIn K cd18 "_law_is_perm" = true) (k18 : PySem.W.keepIn K (.ref f18) = true)
  (a19 : PySem.W.nsIn K mainGlobals "_law_few" = some (some (.ref f19))) (l19 : K.lookup f19 = some ⟨oc19, od19, .func (PySem.W.fnOf "_law_few" "_law_few" (defArgs s__law_few) (defBody s__law_few) (defScope s__law_few) .none kV19 dc19 pm19 an19 cd19 ct19), sl19⟩) (c19 : PySem.W.codeIn K cd19 "_law_few" = true) (k19 : PySem.W.keepIn K (.ref f19) = true)
  (a20 : PySem.W.nsIn K mainGlobals "_law_sizes" = some (some (.ref f20))) (l20 : K.lookup f20 = some ⟨oc20, od20, .func (PySem.W.fnOf "_law_sizes" "_law_sizes" (defArgs s__law_sizes) (defBody s__law_sizes) (defScope s__law_sizes) .none kV20 dc20 pm20 an20 cd20 ct20), sl20⟩) (c20 : PySem.W.codeIn K cd20 "_law_sizes" = true) (k20 : PySem.W.keepIn K (.ref f20) = true)
  (a21 : PySem.W.nsIn K mainGlobals "_law_tally" = some (some (.ref f21))) (l21 : K.lookup f21 = some ⟨oc21, od21, .func (PySem.W.fnOf "_law_tally" "_law_tally" (defArgs s__law_tally) (defBody s__law_tally) (defScope s__law_tally) .none kV21 dc21 pm21 an21 cd21 ct21), sl21⟩) (c21 : PySem.W.codeIn K cd21 "_law_tally" = true) (k21 : PySem.W.keepIn K (.ref f21) = true)
  (a22 : PySem.W.nsIn K mainGlobals "_law_is_least" = some (some (.ref f22))) (l22 : K.lookup f22 = some ⟨oc22, od22, .func (PySem.W.fnOf "_law_is_least" "_law_is_least" (defArgs s__law_is_least) (defBody s__law_is_least) (defScope s__law_is_least) .none kV22 dc22 pm22 an22 cd22 ct22), sl22⟩) (c22 : PySem.W.codeIn K cd22 "_law_is_least" = true) (k22 : PySem.W.keepIn K (.ref f22) = true)
  (a23 : PySem.W.nsIn K mainGlobals "_law_many" = some (some (.ref f23))) (l23 : K.lookup f23 = some ⟨oc23, od23, .func (PySem.W.fnOf "_law_many" "_law_many" (defArgs s__law_many) (defBody s__law_many) (defScope s__law_many) .none kV23 dc23 pm23 an23 cd23 ct23), sl23⟩) (c23 : PySem.W.codeIn K cd23 "_law_many" = true) (k23 : PySem.W.keepIn K (.ref f23) = true)
  (a24 : PySem.W.nsIn K mainGlobals "law" = some (some (.ref f24))) (l24 : K.lookup f24 = some ⟨oc24, od24, .func (PySem.W.fnOf "law" "law" (defArgs s_law) (defBody s_law) (defScope s_law) .none kV24 dc24 pm24 an24 cd24 ct24), sl24⟩) (c24 : PySem.W.codeIn K cd24 "law" = true) (k24 : PySem.W.keepIn K (.ref f24) = true)
  (z0 : PySem.W.nsIn K mainGlobals "len" = some none)
  (z1 : PySem.W.nsIn K mainGlobals "range" = some none)
  (z2 : PySem.W.nsIn K mainGlobals "tuple" = some none)
  (z3 : PySem.W.nsIn K mainGlobals "sorted" = some none)
  (z4 : PySem.W.nsIn K mainGlobals "int" = some none)
  (z5 : PySem.W.nsIn K mainGlobals "list" = some none)
  (z6 : PySem.W.nsIn K mainGlobals "min" = some none)
  (z7 : PySem.W.nsIn K mainGlobals "isinstance" = some none)
  (z8 : PySem.W.nsIn K mainGlobals "bool" = some none) :
  ∃ fd : FuncData, (∀ (s : Shared) (v : Value), BindsTo s fd ⟨[v], []⟩ [("script", v)]) ∧ ∀ base : Heap, K.In base → base.Ns mainGlobals mg → FnOk PySem.Challenge.rw_tumbler_k30_least_matching.prog w K mg base (L2.CX PySem.Challenge.rw_tumbler_k30_least_matching.prog w) 6 fa fd ["script"] (spLaw K c_law) := by
  obtain ⟨T, eT⟩ := txt_mk X G a0 l0 c0 k0 a1 l1 c1 k1 a2 l2 c2 k2 a3 l3 c3 k3 a4 l4 c4 k4 a5 l5 c5 k5 a6 l6 c6 k6 a7 l7 c7 k7 a8 l8 c8 k8 a9 l9 c9 k9 a10 l10 c10 k10 a11 l11 c11 k11 a12 l12 c12 k12 a13 l13 c13 k13 a14 l14 c14 k14 a15 l15 c15 k15 a16 l16 c16 k16 a17 l17 c17 k17 a18 l18 c18 k18 a19 l19 c19 k19 a20 l20 c20 k20 a21 l21 c21 k21 a22 l22 c22 k22 a23 l23 c23 k23 a24 l24 c24 k24 z0 z1 z2 z3 z4 z5 z6 z7 z8
  have e := hfa.symm.trans T.d_law.mgf
  obtain rfl : fa = T.f_law := by cases e; rfl
  refine ⟨T.fd_law, fun s v => by rw [eT]; exact .of_eq rfl, fun base _ _ => (w_law T).imp fun vs H Q E q => spLaw.of vs H Q E q⟩
end Law

set_option maxHeartbeats 1000000
/-! Reckoning with the plain functions: what simp is to know, loops by invariants, what a call leaves. -/
namespace Rf
open PySem L2

/-! ### pieces -/
@[simp] theorem then_ok (d : D) (h : AH) (f : D → AH → ER) : (ER.ok d h).then f = f d h := rfl
@[simp] theorem then_exc (c : Str) (fs : List (Str × D)) (h : AH) (f : D → AH → ER) : (ER.exc c fs h).then f = .exc c fs h := rfl
@[simp] theorem thenS_ok (d : D) (h : AH) (e : AE) (f : D → AH → SR) : (ER.ok d h).thenS e f = f d h := rfl
@[simp] theorem thenS_exc (c : Str) (fs : List (Str × D)) (h : AH) (e : AE) (f : D → AH → SR) : (ER.exc c fs h).thenS e f = .exc c fs e h := rfl
@[simp] theorem lthen_ok (ds : List D) (h : AH) (f : List D → AH → ER) : (LR.ok ds h).then f = f ds h := rfl
@[simp] theorem lthen_exc (c : Str) (fs : List (Str × D)) (h : AH) (f : List D → AH → ER) : (LR.exc c fs h).then f = .exc c fs h := rfl
@[simp] theorem sthen_nx (e : AE) (h : AH) (f : SM) : (SR.nx e h).then f = f e h := rfl
@[simp] theorem sthen_rt (d : D) (h : AH) (f : SM) : (SR.rt d h).then f = .rt d h := rfl
@[simp] theorem sthen_bk (e : AE) (h : AH) (f : SM) : (SR.bk e h).then f = .bk e h := rfl
@[simp] theorem sthen_ct (e : AE) (h : AH) (f : SM) : (SR.ct e h).then f = .ct e h := rfl
@[simp] theorem sthen_exc (c : Str) (fs : List (Str × D)) (e : AE) (h : AH) (f : SM) : (SR.exc c fs e h).then f = .exc c fs e h := rfl
@[simp] theorem onlyNx_nx (e : AE) (h : AH) : onlyNx (.nx e h) = .nx e h := rfl
@[simp] theorem again_nx (e : AE) (h : AH) (k : SM) : again (.nx e h) k = k e h := rfl
@[simp] theorem again_ct (e : AE) (h : AH) (k : SM) : again (.ct e h) k = k e h := rfl
@[simp] theorem again_bk (e : AE) (h : AH) (k : SM) : again (.bk e h) k = .nx e h := rfl
@[simp] theorem again_rt (d : D) (h : AH) (k : SM) : again (.rt d h) k = .rt d h := rfl
@[simp] theorem again_exc (c : Str) (fs : List (Str × D)) (e : AE) (h : AH) (k : SM) : again (.exc c fs e h) k = .exc c fs e h := rfl
@[simp] theorem outS_rt (d : D) (h : AH) : outS (.rt d h) = .ok d h := rfl
@[simp] theorem outS_nx (e : AE) (h : AH) : outS (.nx e h) = .ok .non h := rfl
@[simp] theorem outS_exc (c : Str) (fs : List (Str × D)) (e : AE) (h : AH) : outS (.exc c fs e h) = .exc c fs h := rfl
/-- by a bool -/
def onB (d : D) (x y : SR) : SR := match d with
  | .bl true => x
  | .bl false => y
  | _ => .stuck
@[simp] theorem onB_bl (b : Bool) (x y : SR) : onB (.bl b) x y = if b = true then x else y := by cases b <;> rfl
def onE (d : D) (x y : ER) : ER := match d with
  | .bl true => x
  | .bl false => y
  | _ => .stuck
@[simp] theorem onE_bl (b : Bool) (x y : ER) : onE (.bl b) x y = if b = true then x else y := by cases b <;> rfl
@[simp] theorem eVar_ (i : Nat) (env : AE) (h : AH) : eVar i env h = match env[i]? with | some (some d) => .ok d h | _ => .stuck := rfl
@[simp] theorem eC_ (d : D) (env : AE) (h : AH) : eC d env h = .ok d h := rfl
@[simp] theorem eOp_ (g : D → D → AH → ER) (a b : EM) (env : AE) (h : AH) : eOp g a b env h = (a env h).then fun d1 h1 => (b env h1).then fun d2 h2 => g d1 d2 h2 := rfl
@[simp] theorem eUn_ (g : D → AH → ER) (a : EM) (env : AE) (h : AH) : eUn g a env h = (a env h).then fun d1 h1 => g d1 h1 := rfl
@[simp] theorem eIf_ (c a b : EM) (env : AE) (h : AH) : eIf c a b env h = (c env h).then fun d h1 => onE d (a env h1) (b env h1) := by
  unfold eIf ER.then onE
  cases c env h with
  | ok d h1 => cases d with
    | bl b => cases b <;> rfl
    | _ => rfl
  | _ => rfl
@[simp] theorem eAnd_ (a b : EM) (env : AE) (h : AH) : eAnd a b env h = (a env h).then fun d h1 => onE d (b env h1) (.ok (.bl false) h1) := by
  unfold eAnd ER.then onE
  cases a env h with
  | ok d h1 => cases d with
    | bl b => cases b <;> rfl
    | _ => rfl
  | _ => rfl
@[simp] theorem eOr_ (a b : EM) (env : AE) (h : AH) : eOr a b env h = (a env h).then fun d h1 => onE d (.ok (.bl true) h1) (b env h1) := by
  unfold eOr ER.then onE
  cases a env h with
  | ok d h1 => cases d with
    | bl b => cases b <;> rfl
    | _ => rfl
  | _ => rfl
def notD (d : D) (h : AH) : ER := match d with
  | .bl b => .ok (.bl (!b)) h
  | _ => .stuck
@[simp] theorem notD_bl (b : Bool) (h : AH) : notD (.bl b) h = .ok (.bl (!b)) h := rfl
@[simp] theorem eNot_ (a : EM) (env : AE) (h : AH) : eNot a env h = (a env h).then notD := by
  unfold eNot ER.then notD
  cases a env h with
  | ok d h1 => cases d <;> rfl
  | _ => rfl
@[simp] theorem lNil_ (env : AE) (h : AH) : lNil env h = .ok [] h := rfl
def LR.cons (d : D) (l : LR) : LR := match l with
  | .ok ds h => .ok (d :: ds) h
  | .exc c fs h => .exc c fs h
  | .stuck => .stuck
@[simp] theorem lrcons_ok (d : D) (ds : List D) (h : AH) : LR.cons d (.ok ds h) = .ok (d :: ds) h := rfl
@[simp] theorem lrcons_exc (d : D) (c : Str) (fs : List (Str × D)) (h : AH) : LR.cons d (.exc c fs h) = .exc c fs h := rfl
def ER.thenL (o : ER) (f : D → AH → LR) : LR := match o with
  | .ok d h => f d h
  | .exc c fs h => .exc c fs h
  | .stuck => .stuck
@[simp] theorem thenL_ok (d : D) (h : AH) (f : D → AH → LR) : (ER.ok d h).thenL f = f d h := rfl
@[simp] theorem thenL_exc (c : Str) (fs : List (Str × D)) (h : AH) (f : D → AH → LR) : (ER.exc c fs h).thenL f = .exc c fs h := rfl
@[simp] theorem lCons_ (a : EM) (r : LM) (env : AE) (h : AH) : lCons a r env h = (a env h).thenL fun d h1 => LR.cons d (r env h1) := by
  unfold lCons ER.thenL LR.cons
  cases a env h with
  | ok d h1 => rfl
  | _ => rfl
@[simp] theorem eCall_ (g : List D → AH → ER) (a : LM) (env : AE) (h : AH) : eCall g a env h = (a env h).then g := rfl
@[simp] theorem argn_ok (n : Nat) (F : List D → AH → ER) (ds : List D) (h : AH) (e : ds.length = n) : argn n F ds h = F ds h := if_pos e
@[simp] theorem eTup_ (l : LM) (env : AE) (h : AH) : eTup l env h = (l env h).then fun ds h1 => if Fits ds.length then .ok (.tup ds) h1 else .stuck := rfl
@[simp] theorem eLst_ (l : LM) (env : AE) (h : AH) : eLst l env h = (l env h).then fun ds h1 => if Fits ds.length then .ok (.ref h1.length) (h1 ++ [.lst ds]) else .stuck := rfl
@[simp] theorem eMeth_ (T : String) (g : D → List D → AH → ER) (o : EM) (l : LM) (env : AE) (h : AH) : eMeth T g o l env h = (o env h).then fun d h1 => if tyOk h1 T d then (l env h1).then fun ds h2 => g d ds h2 else .stuck := rfl
@[simp] theorem sPass_ (e : AE) (h : AH) : sPass e h = .nx e h := rfl
@[simp] theorem sSeq_ (a b : SM) (e : AE) (h : AH) : sSeq a b e h = (a e h).then b := rfl
@[simp] theorem sRet_ (m : EM) (e : AE) (h : AH) : sRet m e h = (m e h).thenS e fun d h1 => .rt d h1 := rfl
@[simp] theorem sRetN_ (e : AE) (h : AH) : sRetN e h = .rt .non h := rfl
@[simp] theorem sExpr_ (m : EM) (e : AE) (h : AH) : sExpr m e h = (m e h).thenS e fun _ h1 => .nx e h1 := rfl
@[simp] theorem sIf_ (c : EM) (a b : SM) (e : AE) (h : AH) : sIf c a b e h = (c e h).thenS e fun d h1 => onB d (a e h1) (b e h1) := by
  unfold sIf ER.thenS onB
  cases c e h with
  | ok d h1 => cases d with
    | bl b => cases b <;> rfl
    | _ => rfl
  | _ => rfl
@[simp] theorem sBreak_ (e : AE) (h : AH) : sBreak e h = .bk e h := rfl
@[simp] theorem sCont_ (e : AE) (h : AH) : sCont e h = .ct e h := rfl
@[simp] theorem sSet_ (i : Nat) (m : EM) (e : AE) (h : AH) : sSet i m e h = (m e h).thenS e fun d h1 => .nx (e.set i (some d)) h1 := rfl
@[simp] theorem sAsg_ (m : EM) (g : GM) (e : AE) (h : AH) : sAsg m g e h = (m e h).thenS e fun d h1 => g d e h1 := rfl
@[simp] theorem gVar_ (i : Nat) (d : D) (e : AE) (h : AH) : gVar i d e h = .nx (e.set i (some d)) h := rfl
@[simp] theorem gNils_ (e : AE) (h : AH) : gNils [] e h = .nx e h := rfl
@[simp] theorem gCons_ (g : GM) (r : List D → AE → AH → SR) (d : D) (ds : List D) (e : AE) (h : AH) : gCons g r (d :: ds) e h = (onlyNx (g d e h)).then fun e1 h1 => r ds e1 h1 := rfl
@[simp] theorem gTup_ (k : Nat) (r : List D → AE → AH → SR) (ds : List D) (e : AE) (h : AH) : gTup k r (.tup ds) e h = if ds.length = k then r ds e h else .stuck := rfl
def putS (o : Option AH) (e : AE) : SR := match o with
  | some h => .nx e h
  | none => .stuck
@[simp] theorem putS_some (h : AH) (e : AE) : putS (some h) e = .nx e h := rfl
@[simp] theorem gSub_ (g : D → D → D → AH → Option AH) (o i : EM) (d : D) (e : AE) (h : AH) : gSub g o i d e h = (o e h).thenS e fun d1 h1 => (i e h1).thenS e fun d2 h2 => putS (g d1 d2 d h2) e := by
  unfold gSub putS ER.thenS
  cases o e h with
  | ok d1 h1 => cases i e h1 with
    | ok d2 h2 => rfl
    | _ => rfl
  | _ => rfl
@[simp] theorem eSl_nn (a : EM) (env : AE) (h : AH) : eSl a none none env h = (a env h).then fun d h1 => oSl d none none h1 := rfl
def intD (d : D) (f : Int → ER) : ER := match d with
  | .int i => f i
  | _ => .stuck
@[simp] theorem intD_int (i : Int) (f : Int → ER) : intD (.int i) f = f i := rfl
@[simp] theorem ePart_n (env : AE) (h : AH) (f : Option Int → AH → ER) : ePart none env h f = f none h := rfl
@[simp] theorem ePart_s (m : EM) (env : AE) (h : AH) (f : Option Int → AH → ER) : ePart (some m) env h f = (m env h).then fun d h1 => intD d fun i => f (some i) h1 := by
  show ((m env h).then fun d h1 => match d with | .int i => f (some i) h1 | _ => .stuck) = _
  unfold intD
  cases m env h with
  | ok d h1 => cases d <;> rfl
  | _ => rfl
@[simp] theorem eSl_ (a : EM) (lo hi : Option EM) (env : AE) (h : AH) : eSl a lo hi env h = (a env h).then fun d h1 => ePart lo env h1 fun l h2 => ePart hi env h2 fun u h3 => oSl d l u h3 := rfl

/-! ### operators on ints -/
@[simp] theorem oAdd_int (i j : Int) (h : AH) : oAdd (.int i) (.int j) h = .ok (.int (i + j)) h := rfl
@[simp] theorem oSub_int (i j : Int) (h : AH) : oSub (.int i) (.int j) h = .ok (.int (i - j)) h := rfl
@[simp] theorem oNeg_int (i : Int) (h : AH) : oNeg (.int i) h = .ok (.int (-i)) h := rfl
@[simp] theorem oLt_int (i j : Int) (h : AH) : oLt (.int i) (.int j) h = .ok (.bl (decide (i < j))) h := rfl
@[simp] theorem oLe_int (i j : Int) (h : AH) : oLe (.int i) (.int j) h = .ok (.bl (decide (i ≤ j))) h := rfl
@[simp] theorem oGt_int (i j : Int) (h : AH) : oGt (.int i) (.int j) h = .ok (.bl (decide (j < i))) h := rfl
@[simp] theorem oGe_int (i j : Int) (h : AH) : oGe (.int i) (.int j) h = .ok (.bl (decide (j ≤ i))) h := rfl
@[simp] theorem oEq_int (i j : Int) (h : AH) : oEq (.int i) (.int j) h = .ok (.bl (i == j)) h := by
  simp [oEq, D.toP, PyData.eqv]
@[simp] theorem oNe_int (i j : Int) (h : AH) : oNe (.int i) (.int j) h = .ok (.bl (!(i == j))) h := by
  simp [oNe, D.toP, PyData.eqv]
@[simp] theorem oIs_non (d : D) (h : AH) : oIs d .non h = .ok (.bl d.isNon) h := rfl
@[simp] theorem oIsNot_non (d : D) (h : AH) : oIsNot d .non h = .ok (.bl (!d.isNon)) h := rfl
@[simp] theorem oTruth_bl (b : Bool) (h : AH) : oTruth (.bl b) h = .ok (.bl b) h := rfl
@[simp] theorem oTruth_int (i : Int) (h : AH) : oTruth (.int i) h = .ok (.bl (i != 0)) h := rfl
@[simp] theorem oTruth_non (h : AH) : oTruth .non h = .ok (.bl false) h := rfl
@[simp] theorem oTruth_tup (ds : List D) (h : AH) : oTruth (.tup ds) h = .ok (.bl (!ds.isEmpty)) h := rfl
theorem oMod_int {i j : Int} {h : AH} (hj : 0 < j) : oMod (.int i) (.int j) h = .ok (.int (i % j)) h := by unfold oMod; exact if_pos hj
theorem oMul_int {i j : Int} {h : AH} (hc : CMulX i j) : oMul (.int i) (.int j) h = .ok (.int (i * j)) h := by unfold oMul; exact if_pos hc
theorem oDiv_int {i j : Int} {h : AH} (hj : DivOk j) : oDiv (.int i) (.int j) h = .ok (.int (i / j)) h := by unfold oDiv; exact if_pos hj
/-- products of numbers below 2^10000 -/
theorem mulOk {i j : Int} (hi : i.natAbs < 2 ^ 10000) (hj : j.natAbs < 2 ^ 10000) : CMulX i j := mulx_ok hi hj (by decide)
theorem log2_small {j : Int} (h1 : 0 < j) (h2 : j.natAbs < 2 ^ 9000) : j.natAbs.log2 < 9000 := by
  have h0 : j.natAbs ≠ 0 := by omega
  exact (Nat.log2_lt h0).mpr h2
@[simp] theorem cLen_tup (ds : List D) (h : AH) : cLen [.tup ds] h = .ok (.int ds.length) h := rfl
@[simp] theorem cLen_rol (ds : List D) (h : AH) : cLen [.rol ds] h = .ok (.int ds.length) h := rfl
theorem cLen_ref {r : Nat} {ds : List D} {h : AH} (e : h[r]? = some (.lst ds)) : cLen [.ref r] h = .ok (.int ds.length) h := by simp [cLen, e]
@[simp] theorem cInt_int (i : Int) (h : AH) : cInt [.int i] h = .ok (.int i) h := rfl
@[simp] theorem cMin2_int (i j : Int) (h : AH) : cMin2 [.int i, .int j] h = .ok (.int (if j < i then j else i)) h := rfl
@[simp] theorem cMax2_int (i j : Int) (h : AH) : cMax2 [.int i, .int j] h = .ok (.int (if j > i then j else i)) h := rfl
@[simp] theorem cAbs_int (i : Int) (h : AH) : cAbs [.int i] h = .ok (.int (if i < 0 then -i else i)) h := rfl
@[simp] theorem cTuple_tup (ds : List D) (h : AH) : cTuple [.tup ds] h = .ok (.tup ds) h := rfl
theorem cTuple_ref {r : Nat} {ds : List D} {h : AH} (e : h[r]? = some (.lst ds)) : cTuple [.ref r] h = .ok (.tup ds) h := by simp [cTuple, seqOf, e]
@[simp] theorem cTuple_rol (ds : List D) (h : AH) : cTuple [.rol ds] h = .ok (.tup ds) h := rfl
@[simp] theorem cList_tup (ds : List D) (h : AH) : cList [.tup ds] h = .ok (.ref h.length) (h ++ [.lst ds]) := rfl
theorem cList_ref {r : Nat} {ds : List D} {h : AH} (e : h[r]? = some (.lst ds)) : cList [.ref r] h = .ok (.ref h.length) (h ++ [.lst ds]) := by simp [cList, seqOf, e]
@[simp] theorem getLast_app {h : AH} {o : AO} : (h ++ [o])[h.length]? = some o := by simp
@[simp] theorem cIsi_int (i : Int) (n : String) (h : AH) (hn : n ∈ askTys := by decide) : cIsi [.int i, .ty n] h = .ok (.bl (isTy "int" n)) h := by simp [cIsi, D.tyn, hn]
@[simp] theorem cIsi_bl (i : Bool) (n : String) (h : AH) (hn : n ∈ askTys := by decide) : cIsi [.bl i, .ty n] h = .ok (.bl (isTy "bool" n)) h := by simp [cIsi, D.tyn, hn]
@[simp] theorem cIsi_str (i : Str) (n : String) (h : AH) (hn : n ∈ askTys := by decide) : cIsi [.str i, .ty n] h = .ok (.bl (isTy "str" n)) h := by simp [cIsi, D.tyn, hn]
@[simp] theorem cIsi_non (n : String) (h : AH) (hn : n ∈ askTys := by decide) : cIsi [.non, .ty n] h = .ok (.bl (isTy "NoneType" n)) h := by simp [cIsi, D.tyn, hn]
@[simp] theorem cIsi_tup (ds : List D) (n : String) (h : AH) (hn : n ∈ askTys := by decide) : cIsi [.tup ds, .ty n] h = .ok (.bl (isTy "tuple" n)) h := by simp [cIsi, D.tyn, hn]

/-! ### items -/
theorem atI_nat' {α : Type} {xs : List α} {j : Nat} (h : j < xs.length) : L2.atI xs (j : Int) = some xs[j] := atI_nat (List.getElem?_eq_getElem h)
theorem oIx_tup {ds : List D} {i : Nat} {h : AH} {d : D} (e : ds[i]? = some d) : oIx (.tup ds) (.int (i : Int)) h = .ok d h := by
  simp [oIx, seqOf, atI_nat e]
theorem oIx_rol {ds : List D} {i : Nat} {h : AH} {d : D} (e : ds[i]? = some d) : oIx (.rol ds) (.int (i : Int)) h = .ok d h := by
  simp [oIx, seqOf, atI_nat e]
theorem oIx_ref {r : Nat} {ds : List D} {i : Nat} {h : AH} {d : D} (e0 : h[r]? = some (.lst ds)) (e : ds[i]? = some d) : oIx (.ref r) (.int (i : Int)) h = .ok d h := by
  simp [oIx, seqOf, e0, atI_nat e]
theorem putL_ref {r : Nat} {ds : List D} {i : Nat} {v : D} {h : AH} (e0 : h[r]? = some (.lst ds)) (hi : i < ds.length) : putL (.ref r) (.int (i : Int)) v h = some (h.set r (.lst (ds.set i v))) := by
  have : L2.ixN ds.length (i : Int) = some i := by
    unfold L2.ixN
    rw [if_pos (by omega), if_pos (by omega)]
    simp
  simp [putL, e0, this]
theorem mAppend_ref {r : Nat} {ds : List D} {v : D} {h : AH} (e0 : h[r]? = some (.lst ds)) (hl : ds.length < sizeLine) : mAppend (.ref r) [v] h = .ok .non (h.set r (.lst (ds ++ [v]))) := by
  have hl : FitsL ds.length := hl
  simp [mAppend, e0, hl]
theorem tyOk_list {r : Nat} {ds : List D} {h : AH} (e0 : h[r]? = some (.lst ds)) : tyOk h "list" (.ref r) = true := by simp [tyOk, e0]

/-! ### loops -/
theorem drop_cons {α : Type} {l r : List α} {i : Nat} {d : α} (h : l.drop i = d :: r) : l[i]? = some d ∧ l.drop (i + 1) = r := by
  refine ⟨?_, ?_⟩
  · have := congrArg (·[0]?) h
    simpa using this
  · have : (l.drop i).drop 1 = r := by rw [h]; rfl
    rwa [List.drop_drop] at this
/-- the body at each item -/
def sLoop (g : GM) (b : SM) : List D → SM
  | [] => fun e h => .nx e h
  | d :: ds => fun e h => again ((onlyNx (g d e h)).then b) (sLoop g b ds)
theorem forN_stat {g : GM} {b : SM} {ds : List D} : ∀ (r : List D) (i : Nat) (e : AE) (h : AH), ds.drop i = r → forN (stat ds) g b (r.length + 1) i e h = sLoop g b r e h
  | [], i, e, h, hd => by
    have hi : ds[i]? = none := by
      have q : ds.length - i = 0 := by simpa using congrArg List.length hd
      have : ds.length ≤ i := by omega
      exact List.getElem?_eq_none_iff.mpr this
    unfold forN
    simp [stat, hi, sLoop]
  | d :: r, i, e, h, hd => by
    obtain ⟨hi, hr⟩ := drop_cons hd
    rw [List.length_cons]
    unfold forN
    simp only [stat, hi]
    unfold sLoop
    congr 1
    funext e' h'
    exact forN_stat r (i + 1) e' h' hr
theorem sFor_stat {mi : IM} {g : GM} {b : SM} {e : AE} {h h1 : AH} {ds : List D} (hm : mi e h = .ok (stat ds) h1) : sFor mi g b e h = sLoop g b ds e h1 := by
  unfold sFor
  rw [hm]
  exact forN_stat ds 0 e h1 rfl
/-- a loop by an invariant: it goes through -/
theorem loop_inv {g : GM} {b : SM} (P : Nat → AE → AH → Prop) : ∀ (ds : List D) (k : Nat) (e : AE) (h : AH), P k e h →
    (∀ (i : Nat) (d : D) (e : AE) (h : AH), ds[i]? = some d → P (k + i) e h → ∃ e' h', (onlyNx (g d e h)).then b = .nx e' h' ∧ P (k + i + 1) e' h') → ∃ e' h', sLoop g b ds e h = .nx e' h' ∧ P (k + ds.length) e' h'
  | [], k, e, h, p, _ => ⟨e, h, rfl, p⟩
  | d :: ds, k, e, h, p, st => by
    obtain ⟨e1, h1, q, p1⟩ := st 0 d e h rfl p
    obtain ⟨e2, h2, q2, p2⟩ := loop_inv P ds (k + 1) e1 h1 p1 fun i d' e' h' hd hp => by
      have hp' : P (k + (i + 1)) e' h' := by rwa [show k + (i + 1) = k + 1 + i by omega]
      obtain ⟨e3, h3, a, c⟩ := st (i + 1) d' e' h' (by simpa using hd) hp'
      exact ⟨e3, h3, a, by rwa [show k + 1 + i + 1 = k + (i + 1) + 1 by omega]⟩
    refine ⟨e2, h2, ?_, by rwa [List.length_cons, show k + (ds.length + 1) = k + 1 + ds.length by omega]⟩
    unfold sLoop
    rw [q]
    exact q2
/-- .. or leaves by a return -/
theorem loop_ret {g : GM} {b : SM} (P : Nat → AE → AH → Prop) (R : D → AH → Prop) : ∀ (ds : List D) (k : Nat) (e : AE) (h : AH), P k e h →
    (∀ (i : Nat) (d : D) (e : AE) (h : AH), ds[i]? = some d → P (k + i) e h → (∃ e' h', (onlyNx (g d e h)).then b = .nx e' h' ∧ P (k + i + 1) e' h') ∨ ∃ d' h', (onlyNx (g d e h)).then b = .rt d' h' ∧ R d' h') →
    (∃ e' h', sLoop g b ds e h = .nx e' h' ∧ P (k + ds.length) e' h') ∨ ∃ d' h', sLoop g b ds e h = .rt d' h' ∧ R d' h'
  | [], k, e, h, p, _ => .inl ⟨e, h, rfl, p⟩
  | d :: ds, k, e, h, p, st => by
    rcases st 0 d e h rfl p with ⟨e1, h1, q, p1⟩ | ⟨d', h', q, r⟩
    · rcases loop_ret P R ds (k + 1) e1 h1 p1 fun i d' e' h' hd hp => by
          have hp' : P (k + (i + 1)) e' h' := by rwa [show k + (i + 1) = k + 1 + i by omega]
          rcases st (i + 1) d' e' h' (by simpa using hd) hp' with ⟨e3, h3, a, c⟩ | c
          · exact .inl ⟨e3, h3, a, by rwa [show k + 1 + i + 1 = k + (i + 1) + 1 by omega]⟩
          · exact .inr c with ⟨e2, h2, q2, p2⟩ | ⟨d2, h2, q2, r2⟩
      · refine .inl ⟨e2, h2, ?_, by rwa [List.length_cons, show k + (ds.length + 1) = k + 1 + ds.length by omega]⟩
        unfold sLoop
        rw [q]
        exact q2
      · refine .inr ⟨d2, h2, ?_, r2⟩
        unfold sLoop
        rw [q]
        exact q2
    · refine .inr ⟨d', h', ?_, r⟩
      unfold sLoop
      rw [q]
      rfl
/-- a list of the heap walked, that stands as it stands -/
theorem forN_live {g : GM} {b : SM} {r : Nat} {ds : List D} {m : Nat} (P : Nat → AE → AH → Prop) (hP : ∀ i e h, P i e h → h[r]? = some (.lst ds)) : ∀ (k i : Nat) (e : AE) (h : AH), i + k = ds.length → P i e h →
    (∀ (i : Nat) (d : D) (e : AE) (h : AH), ds[i]? = some d → P i e h → ∃ e' h', (onlyNx (g d e h)).then b = .nx e' h' ∧ P (i + 1) e' h') → ∃ e' h', forN (live r m) g b (k + 1) i e h = .nx e' h' ∧ P ds.length e' h'
  | 0, i, e, h, hk, p, st => by
    have e0 := hP i e h p
    have ei : i = ds.length := by omega
    refine ⟨e, h, ?_, by rw [← ei]; exact p⟩
    unfold forN
    simp [live, e0, ei]
  | k + 1, i, e, h, hk, p, st => by
    have e0 := hP i e h p
    have hi : i < ds.length := by omega
    obtain ⟨e1, h1, q, p1⟩ := st i ds[i] e h (List.getElem?_eq_getElem hi) p
    obtain ⟨e2, h2, q2, p2⟩ := forN_live P hP k (i + 1) e1 h1 (by omega) p1 st
    refine ⟨e2, h2, ?_, p2⟩
    unfold forN
    simp only [live, e0, List.getElem?_eq_getElem hi]
    rw [q]
    exact q2
theorem sFor_live {mi : IM} {g : GM} {b : SM} {e : AE} {h h1 : AH} {r : Nat} {ds : List D} (P : Nat → AE → AH → Prop) (hm : mi e h = .ok (live r ds.length) h1) (hP : ∀ i e h, P i e h → h[r]? = some (.lst ds)) (p : P 0 e h1)
    (st : ∀ (i : Nat) (d : D) (e : AE) (h : AH), ds[i]? = some d → P i e h → ∃ e' h', (onlyNx (g d e h)).then b = .nx e' h' ∧ P (i + 1) e' h') : ∃ e' h', sFor mi g b e h = .nx e' h' ∧ P ds.length e' h' := by
  unfold sFor
  rw [hm]
  exact forN_live P hP ds.length 0 e h1 (Nat.zero_add _) p st
theorem forN_live_ret {g : GM} {b : SM} {r : Nat} {ds : List D} {m : Nat} (P : Nat → AE → AH → Prop) (R : D → AH → Prop) (hP : ∀ i e h, P i e h → h[r]? = some (.lst ds)) : ∀ (k i : Nat) (e : AE) (h : AH), i + k = ds.length → P i e h →
    (∀ (i : Nat) (d : D) (e : AE) (h : AH), ds[i]? = some d → P i e h → (∃ e' h', (onlyNx (g d e h)).then b = .nx e' h' ∧ P (i + 1) e' h') ∨ ∃ d' h', (onlyNx (g d e h)).then b = .rt d' h' ∧ R d' h') →
    (∃ e' h', forN (live r m) g b (k + 1) i e h = .nx e' h' ∧ P ds.length e' h') ∨ ∃ d' h', forN (live r m) g b (k + 1) i e h = .rt d' h' ∧ R d' h'
  | 0, i, e, h, hk, p, st => by
    have e0 := hP i e h p
    have ei : i = ds.length := by omega
    refine .inl ⟨e, h, ?_, by rw [← ei]; exact p⟩
    unfold forN
    simp [live, e0, ei]
  | k + 1, i, e, h, hk, p, st => by
    have e0 := hP i e h p
    have hi : i < ds.length := by omega
    rcases st i ds[i] e h (List.getElem?_eq_getElem hi) p with ⟨e1, h1, q, p1⟩ | ⟨d', h', q, rr⟩
    · rcases forN_live_ret P R hP k (i + 1) e1 h1 (by omega) p1 st with ⟨e2, h2, q2, p2⟩ | ⟨d2, h2, q2, r2⟩
      · refine .inl ⟨e2, h2, ?_, p2⟩
        unfold forN
        simp only [live, e0, List.getElem?_eq_getElem hi]
        rw [q]
        exact q2
      · refine .inr ⟨d2, h2, ?_, r2⟩
        unfold forN
        simp only [live, e0, List.getElem?_eq_getElem hi]
        rw [q]
        exact q2
    · refine .inr ⟨d', h', ?_, rr⟩
      unfold forN
      simp only [live, e0, List.getElem?_eq_getElem hi]
      rw [q]
      rfl
theorem sFor_live_ret {mi : IM} {g : GM} {b : SM} {e : AE} {h h1 : AH} {r : Nat} {ds : List D} (P : Nat → AE → AH → Prop) (R : D → AH → Prop) (hm : mi e h = .ok (live r ds.length) h1) (hP : ∀ i e h, P i e h → h[r]? = some (.lst ds)) (p : P 0 e h1)
    (st : ∀ (i : Nat) (d : D) (e : AE) (h : AH), ds[i]? = some d → P i e h → (∃ e' h', (onlyNx (g d e h)).then b = .nx e' h' ∧ P (i + 1) e' h') ∨ ∃ d' h', (onlyNx (g d e h)).then b = .rt d' h' ∧ R d' h') :
    (∃ e' h', sFor mi g b e h = .nx e' h' ∧ P ds.length e' h') ∨ ∃ d' h', sFor mi g b e h = .rt d' h' ∧ R d' h' := by
  unfold sFor
  rw [hm]
  exact forN_live_ret P R hP ds.length 0 e h1 (Nat.zero_add _) p st
/-- a while by an invariant and a number that falls -/
theorem while_inv {c : EM} {b : SM} (P : AE → AH → Prop) (μ : AE → AH → Nat) (T : AE → AH → Prop)
    (st : ∀ e h, P e h → (∃ h1, c e h = .ok (.bl false) h1 ∧ T e h1) ∨ ∃ h1, c e h = .ok (.bl true) h1 ∧ ∃ e' h', b e h1 = .nx e' h' ∧ P e' h' ∧ μ e' h' < μ e h) : ∀ (n : Nat) (e : AE) (h : AH), μ e h ≤ n → P e h → ∃ e' h', sWhile c b e h = .nx e' h' ∧ T e' h' := by
  have key : ∀ (n : Nat) (e : AE) (h : AH), μ e h ≤ n → P e h → ∃ k e' h', whileN c b k e h = .nx e' h' ∧ T e' h' := by
    intro n
    induction n with
    | zero =>
      intro e h hn p
      rcases st e h p with ⟨h1, hc, t⟩ | ⟨h1, hc, e', h', hb, p', l⟩
      · exact ⟨1, e, h1, (by unfold whileN; rw [hc]; rfl), t⟩
      · omega
    | succ n ih =>
      intro e h hn p
      rcases st e h p with ⟨h1, hc, t⟩ | ⟨h1, hc, e', h', hb, p', l⟩
      · exact ⟨1, e, h1, (by unfold whileN; rw [hc]; rfl), t⟩
      · obtain ⟨k, e2, h2, q, t⟩ := ih e' h' (by omega) p'
        refine ⟨k + 1, e2, h2, ?_, t⟩
        unfold whileN
        rw [hc]
        show again (b e h1) (whileN c b k) = _
        rw [hb]
        exact q
  intro n e h hn p
  obtain ⟨k, e', h', q, t⟩ := key n e h hn p
  exact ⟨e', h', sWhile_eq q (by intro z; cases z), t⟩

/-! ### comprehensions -/
theorem lc_pure {α : Type} {φ : α → D} {k : Nat} {tt te : EM} {e0 : AE} {h : AH} (p : α → Bool) (f : α → D) {ds : List D} : ∀ (r : List α) (i : Nat) (acc : List D), ds.drop i = r.map φ → acc.length + r.length ≤ sizeLine →
    (∀ x ∈ r, tt (e0.set k (some (φ x))) h = .ok (.bl (p x)) h) → (∀ x ∈ r, p x = true → te (e0.set k (some (φ x))) h = .ok (f x) h) →
    lcN (stat ds) (gVar k) tt te e0 (r.length + 1) i acc h = .inr (acc ++ (r.filter p).map f, h)
  | [], i, acc, hd, _, _, _ => by
    have hi : ds[i]? = none := by
      have q : ds.length - i = 0 := by simpa using congrArg List.length hd
      have : ds.length ≤ i := by omega
      exact List.getElem?_eq_none_iff.mpr this
    unfold lcN
    simp [stat, hi]
  | x :: r, i, acc, hd, hl, ht, hf => by
    obtain ⟨hi, hr⟩ := drop_cons (show ds.drop i = φ x :: r.map φ from hd)
    rw [List.length_cons] at hl ⊢
    unfold lcN
    simp only [stat, hi, gVar_, ht x List.mem_cons_self]
    cases hp : p x with
    | true =>
      simp only [hf x List.mem_cons_self hp]
      rw [if_pos (show FitsL acc.length from (by omega : acc.length < sizeLine))]
      have ih := lc_pure (φ := φ) (k := k) (tt := tt) (te := te) (e0 := e0) (h := h) p f (ds := ds) r (i + 1) (acc ++ [f x]) hr (by simp; omega) (fun y hy => ht y (List.mem_cons_of_mem _ hy)) fun y hy => hf y (List.mem_cons_of_mem _ hy)
      simp only [stat] at ih
      rw [ih, List.filter_cons, if_pos hp, List.map_cons, List.append_assoc]; rfl
    | false =>
      have ih := lc_pure (φ := φ) (k := k) (tt := tt) (te := te) (e0 := e0) (h := h) p f (ds := ds) r (i + 1) acc hr (by omega) (fun y hy => ht y (List.mem_cons_of_mem _ hy)) fun y hy => hf y (List.mem_cons_of_mem _ hy)
      simp only [stat] at ih
      dsimp only
      rw [ih, List.filter_cons, if_neg (by rw [hp]; exact Bool.false_ne_true)]
/-- [f x for x in a row that stands still if p x], nothing else changes -/
theorem eLc_pure {α : Type} {φ : α → D} {k : Nat} {mi : IM} {tt te : EM} {vs : List Nat} {e : AE} {h h1 : AH} (xs : List α) (p : α → Bool) (f : α → D) (hm : mi e h = .ok (stat (xs.map φ)) h1) (hl : xs.length ≤ sizeLine)
    (ht : ∀ x ∈ xs, tt ((wipeE e vs).set k (some (φ x))) h1 = .ok (.bl (p x)) h1) (hf : ∀ x ∈ xs, p x = true → te ((wipeE e vs).set k (some (φ x))) h1 = .ok (f x) h1) :
    eLc mi (gVar k) tt te vs e h = .ok (.ref h1.length) (h1 ++ [.lst ((xs.filter p).map f)]) := by
  unfold eLc
  rw [hm]
  have := lc_pure (φ := φ) (k := k) (tt := tt) (te := te) (e0 := wipeE e vs) (h := h1) p f (ds := xs.map φ) xs 0 [] rfl (by simpa using hl) ht hf
  have hn : (stat (xs.map φ)).n = xs.length := by simp [stat]
  simp only [hn, this, List.nil_append]
theorem eLc_map {α : Type} {φ : α → D} {k : Nat} {mi : IM} {te : EM} {vs : List Nat} {e : AE} {h h1 : AH} (xs : List α) (f : α → D) (hm : mi e h = .ok (stat (xs.map φ)) h1) (hl : xs.length ≤ sizeLine)
    (hf : ∀ x ∈ xs, te ((wipeE e vs).set k (some (φ x))) h1 = .ok (f x) h1) : eLc mi (gVar k) (eC (.bl true)) te vs e h = .ok (.ref h1.length) (h1 ++ [.lst (xs.map f)]) := by
  have := eLc_pure (tt := eC (.bl true)) (φ := φ) (k := k) (te := te) (vs := vs) xs (fun _ => true) f hm hl (fun _ _ => rfl) (fun x hx _ => hf x hx)
  rw [this, List.filter_eq_self.mpr (by simp)]
/-- a list of the heap that stands still is as good as a row -/
theorem lcN_live {g : GM} {tt te : EM} {e0 : AE} {r m : Nat} {ds : List D} : ∀ (k i : Nat) (acc : List D) (h : AH), h[r]? = some (.lst ds) →
    (∀ (i : Nat) (d : D), ds[i]? = some d → ∀ e1 h1, g d e0 h = .nx e1 h1 → h1 = h ∧ (∀ b h2, tt e1 h = .ok (.bl b) h2 → h2 = h) ∧ ∀ d2 h3, te e1 h = .ok d2 h3 → h3 = h) → lcN (live r m) g tt te e0 k i acc h = lcN (stat ds) g tt te e0 k i acc h
  | 0, i, acc, h, _, _ => rfl
  | k + 1, i, acc, h, e0', hs => by
    unfold lcN
    simp only [live, e0', stat]
    cases hd : ds[i]? with
    | none => rfl
    | some d =>
      dsimp only
      cases hg : g d e0 h with
      | nx e1 h1 =>
        obtain ⟨rfl, q1, q2⟩ := hs i d hd e1 h1 hg
        dsimp only
        cases ht : tt e1 h1 with
        | ok db h2 =>
          cases db with
          | bl b =>
            have := q1 b h2 ht
            subst this
            cases b with
            | true =>
              dsimp only
              cases he : te e1 h2 with
              | ok d2 h3 =>
                have := q2 d2 h3 he
                subst this
                dsimp only
                split
                · exact lcN_live k (i + 1) (acc ++ [d2]) h3 e0' hs
                · rfl
              | _ => rfl
            | false => exact lcN_live k (i + 1) acc h2 e0' hs
          | _ => rfl
        | _ => rfl
      | _ => rfl
theorem eLc_pureL {α : Type} {φ : α → D} {k r : Nat} {mi : IM} {tt te : EM} {vs : List Nat} {e : AE} {h h1 : AH} (xs : List α) (p : α → Bool) (f : α → D) (hm : mi e h = .ok (live r xs.length) h1) (hr : h1[r]? = some (.lst (xs.map φ))) (hl : xs.length ≤ sizeLine)
    (ht : ∀ x ∈ xs, tt ((wipeE e vs).set k (some (φ x))) h1 = .ok (.bl (p x)) h1) (hf : ∀ x ∈ xs, te ((wipeE e vs).set k (some (φ x))) h1 = .ok (f x) h1) :
    eLc mi (gVar k) tt te vs e h = .ok (.ref h1.length) (h1 ++ [.lst ((xs.filter p).map f)]) := by
  unfold eLc
  rw [hm]
  have := lc_pure (φ := φ) (k := k) (tt := tt) (te := te) (e0 := wipeE e vs) (h := h1) p f (ds := xs.map φ) xs 0 [] rfl (by simpa using hl) ht fun x hx _ => hf x hx
  have l := lcN_live (g := gVar k) (tt := tt) (te := te) (e0 := wipeE e vs) (r := r) (m := xs.length) (ds := xs.map φ) (xs.length + 1) 0 [] h1 hr fun i d hd e1 h1' hg => by
    rw [gVar_] at hg
    cases hg
    rw [List.getElem?_map] at hd
    cases hx : xs[i]? with
    | none => rw [hx] at hd; cases hd
    | some x =>
      rw [hx] at hd
      cases hd
      have mx := List.mem_of_getElem? hx
      refine ⟨rfl, fun b h2 e2 => ?_, fun d2 h3 e3 => ?_⟩
      · rw [ht x mx] at e2; cases e2; rfl
      · rw [hf x mx] at e3; cases e3; rfl
  have hn : (live r xs.length).n = xs.length := rfl
  simp only [hn, l, this, List.nil_append]

/-! ### what a call leaves -/
theorem keep_app {h g : AH} : Keep h (h ++ g) := ⟨by simp, fun i o hi e => .inl (by rwa [List.getElem?_append_left hi] at e)⟩
theorem keep_set {h : AH} {a : Nat} {o : AO} (f : o.flat = true) : Keep h (h.set a o) := ⟨by simp, fun i o' hi e => by
  by_cases q : a = i
  · subst q
    rw [List.getElem?_set_self hi] at e
    cases e
    exact .inr f
  · rw [List.getElem?_set_ne q] at e
    exact .inl e⟩
theorem keep_set_app {h g : AH} {a : Nat} {o : AO} (f : o.flat = true) : Keep h (h.set a o ++ g) := ⟨by simp, fun i o' hi e => by
  rw [List.getElem?_append_left (by simpa using hi)] at e
  exact (keep_set f).2 i o' hi e⟩
theorem gc_app {h g : AH} {d : D} (p : d.pure = true) : gc h (.ok d (h ++ g)) = .ok d h := by
  rw [gc_pure keep_app p]; simp
theorem gc_same {h : AH} {d : D} (p : d.pure = true) : gc h (.ok d h) = .ok d h := by
  have := gc_app (h := h) (g := []) p
  simpa using this
theorem gc_set {h : AH} {a : Nat} {o : AO} {d : D} (p : d.pure = true) (f : o.flat = true) : gc h (.ok d (h.set a o)) = .ok d (h.set a o) := by
  rw [gc_pure (keep_set f) p]
  rw [List.take_of_length_le (by simp)]
theorem gc_set_app {h g : AH} {a : Nat} {o : AO} {d : D} (p : d.pure = true) (f : o.flat = true) : gc h (.ok d (h.set a o ++ g)) = .ok d (h.set a o) := by
  rw [gc_pure (keep_set_app f) p]
  rw [List.take_append_of_le_length (by simp), List.take_of_length_le (by simp)]
/-- a list is handed back -/
theorem gc_new {h g : AH} {i : Nat} {o : AO} (e : g[i]? = some o) (f : o.flat = true) : gc h (.ok (.ref (h.length + i)) (h ++ g)) = .ok (.ref h.length) (h ++ [o]) := by
  rw [gc_list keep_app (by omega) (by rw [List.getElem?_append_right (by omega)]; simpa using e) f]
  simp
theorem gc_set_new {h g : AH} {a i : Nat} {o u : AO} (fu : u.flat = true) (e : g[i]? = some o) (f : o.flat = true) : gc h (.ok (.ref (h.length + i)) (h.set a u ++ g)) = .ok (.ref h.length) (h.set a u ++ [o]) := by
  rw [gc_list (keep_set_app fu) (by omega) (by rw [List.getElem?_append_right (by simp)]; simpa using e) f]
  rw [List.take_append_of_le_length (by simp), List.take_of_length_le (by simp)]

/-! ### numbers 0, 1, .. as data -/
abbrev dN (n : Nat) : D := .int (n : Int)
@[simp] theorem pure_int (i : Int) : (D.int i).pure = true := rfl
@[simp] theorem pure_bl (i : Bool) : (D.bl i).pure = true := rfl
@[simp] theorem pure_str (i : Str) : (D.str i).pure = true := rfl
@[simp] theorem pure_non : D.non.pure = true := rfl
@[simp] theorem pure_tup (ds : List D) : (D.tup ds).pure = pures ds := rfl
@[simp] theorem pure_rol (ds : List D) : (D.rol ds).pure = pures ds := rfl
@[simp] theorem flat_lst (ds : List D) : (AO.lst ds).flat = pures ds := rfl
@[simp] theorem pures_nil : pures [] = true := rfl
@[simp] theorem pures_cons (d : D) (ds : List D) : pures (d :: ds) = (d.pure && pures ds) := rfl
theorem pures_map {α : Type} {f : α → D} {xs : List α} (h : ∀ x ∈ xs, (f x).pure = true) : pures (xs.map f) = true := pures_iff.mpr fun d hd => by
  obtain ⟨x, hx, rfl⟩ := List.mem_map.mp hd
  exact h x hx
@[simp] theorem pures_dN (xs : List Nat) : pures (xs.map dN) = true := pures_map fun _ _ => rfl
@[simp] theorem pures_int (xs : List Int) : pures (xs.map D.int) = true := pures_map fun _ _ => rfl
@[simp] theorem pures_append (xs ys : List D) : pures (xs ++ ys) = (pures xs && pures ys) := by
  induction xs with
  | nil => simp
  | cons x xs ih => simp [ih, Bool.and_assoc]
theorem rg_zero (n : Nat) : rg 0 n = (List.range n).map dN := by
  unfold rg
  apply List.map_congr_left
  intro i _
  simp
end Rf

set_option maxHeartbeats 1000000
/-! More for simp: things of the heap by what stands there. -/
namespace Rf
open PySem L2
def ixD (ds : List D) (i : Int) (h : AH) : ER := match L2.atI ds i with
  | some d => .ok d h
  | none => .stuck
def ixO (o : Option AO) (i : Int) (h : AH) : ER := match o with
  | some (.lst ds) => ixD ds i h
  | _ => .stuck
@[simp] theorem ixO_lst (ds : List D) (i : Int) (h : AH) : ixO (some (.lst ds)) i h = ixD ds i h := rfl
@[simp] theorem oIx_ref_ (r : Nat) (i : Int) (h : AH) : oIx (.ref r) (.int i) h = ixO h[r]? i h := by
  simp only [oIx, seqOf, ixO, ixD]
  cases h[r]? with
  | none => rfl
  | some o => cases o <;> rfl
@[simp] theorem oIx_tup_ (ds : List D) (i : Int) (h : AH) : oIx (.tup ds) (.int i) h = ixD ds i h := rfl
@[simp] theorem oIx_rol_ (ds : List D) (i : Int) (h : AH) : oIx (.rol ds) (.int i) h = ixD ds i h := rfl
theorem ixD_some {ds : List D} {i : Nat} {d : D} {h : AH} (e : ds[i]? = some d) : ixD ds (i : Int) h = .ok d h := by simp [ixD, atI_nat e]
@[simp] theorem ixD_0 (d : D) (ds : List D) (h : AH) : ixD (d :: ds) 0 h = .ok d h := ixD_some (i := 0) rfl
@[simp] theorem ixD_1 (a d : D) (ds : List D) (h : AH) : ixD (a :: d :: ds) 1 h = .ok d h := ixD_some (i := 1) rfl
@[simp] theorem ixD_2 (a b d : D) (ds : List D) (h : AH) : ixD (a :: b :: d :: ds) 2 h = .ok d h := ixD_some (i := 2) rfl
@[simp] theorem ixD_3 (a b c d : D) (ds : List D) (h : AH) : ixD (a :: b :: c :: d :: ds) 3 h = .ok d h := ixD_some (i := 3) rfl
@[simp] theorem ixD_4 (a b c e d : D) (ds : List D) (h : AH) : ixD (a :: b :: c :: e :: d :: ds) 4 h = .ok d h := ixD_some (i := 4) rfl
theorem ixD_map {α : Type} {f : α → D} {xs : List α} {i : Nat} {h : AH} {x : α} (e : xs[i]? = some x) : ixD (xs.map f) (i : Int) h = .ok (f x) h := ixD_some (by rw [List.getElem?_map, e]; rfl)
theorem getD_some {α : Type} {xs : List α} {i : Nat} {a : α} (hi : i < xs.length) : xs[i]? = some (xs.getD i a) := by simp [hi]
/-- an item of a row of numbers -/
theorem ixD_N {xs : List Nat} {i : Nat} {h : AH} (hi : i < xs.length) : ixD (xs.map dN) (i : Int) h = .ok (dN (xs.getD i 0)) h := ixD_map (getD_some hi)
def putO (o : Option AO) (r : Nat) (i : Int) (v : D) (h : AH) : Option AH := match o with
  | some (.lst ds) => (match L2.ixN ds.length i with
    | some j => some (h.set r (.lst (ds.set j v)))
    | none => none)
  | _ => none
@[simp] theorem putL_ref_ (r : Nat) (i : Int) (v : D) (h : AH) : putL (.ref r) (.int i) v h = putO h[r]? r i v h := rfl
theorem ixN_nat {n i : Nat} (hi : i < n) : L2.ixN n (i : Int) = some i := by
  unfold L2.ixN
  rw [if_pos (by omega), if_pos (by omega)]
  simp
theorem putO_nat {ds : List D} {r i : Nat} {v : D} {h : AH} (hi : i < ds.length) : putO (some (.lst ds)) r (i : Int) v h = some (h.set r (.lst (ds.set i v))) := by simp [putO, ixN_nat hi]
@[simp] theorem putO_0 (d : D) (ds : List D) (r : Nat) (v : D) (h : AH) : putO (some (.lst (d :: ds))) r 0 v h = some (h.set r (.lst (v :: ds))) := putO_nat (i := 0) (by simp)
@[simp] theorem putO_1 (a d : D) (ds : List D) (r : Nat) (v : D) (h : AH) : putO (some (.lst (a :: d :: ds))) r 1 v h = some (h.set r (.lst (a :: v :: ds))) := putO_nat (i := 1) (by simp)
@[simp] theorem putO_2 (a b d : D) (ds : List D) (r : Nat) (v : D) (h : AH) : putO (some (.lst (a :: b :: d :: ds))) r 2 v h = some (h.set r (.lst (a :: b :: v :: ds))) := putO_nat (i := 2) (by simp)
@[simp] theorem putO_3 (a b c d : D) (ds : List D) (r : Nat) (v : D) (h : AH) : putO (some (.lst (a :: b :: c :: d :: ds))) r 3 v h = some (h.set r (.lst (a :: b :: c :: v :: ds))) := putO_nat (i := 3) (by simp)
/-- a row of numbers, one changed -/
theorem putO_N {xs : List Nat} {r i v : Nat} {h : AH} (hi : i < xs.length) : putO (some (.lst (xs.map dN))) r (i : Int) (dN v) h = some (h.set r (.lst ((xs.set i v).map dN))) := by
  rw [putO_nat (by simpa using hi), List.map_set]
noncomputable def appO (o : Option AO) (r : Nat) (v : D) (h : AH) : ER := match o with
  | some (.lst xs) => if FitsL xs.length then .ok .non (h.set r (.lst (xs ++ [v]))) else .stuck
  | _ => .stuck
@[simp] theorem mAppend_ref_ (r : Nat) (v : D) (h : AH) : mAppend (.ref r) [v] h = appO h[r]? r v h := rfl
theorem appO_lst {ds : List D} {r : Nat} {v : D} {h : AH} (hl : ds.length < sizeLine) : appO (some (.lst ds)) r v h = .ok .non (h.set r (.lst (ds ++ [v]))) := if_pos hl
def tyO (o : Option AO) (T : String) : Bool := match o with
  | some (.lst _) => T == "list"
  | some (.dK _) => T == "dict"
  | some (.dT _) => T == "dict"
  | none => false
@[simp] theorem tyOk_ref_ (h : AH) (T : String) (r : Nat) : tyOk h T (.ref r) = tyO h[r]? T := rfl
@[simp] theorem tyO_lst (ds : List D) (T : String) : tyO (some (.lst ds)) T = (T == "list") := rfl
def lenO (o : Option AO) (h : AH) : ER := match o with
  | some (.lst es) => .ok (.int es.length) h
  | some (.dK kvs) => .ok (.int kvs.length) h
  | _ => .stuck
@[simp] theorem cLen_ref_ (r : Nat) (h : AH) : cLen [.ref r] h = lenO h[r]? h := rfl
@[simp] theorem lenO_lst (es : List D) (h : AH) : lenO (some (.lst es)) h = .ok (.int es.length) h := rfl
def tupO (o : Option AO) (h : AH) : ER := match o with
  | some (.lst es) => .ok (.tup es) h
  | _ => .stuck
@[simp] theorem cTuple_ref_ (r : Nat) (h : AH) : cTuple [.ref r] h = tupO h[r]? h := by
  simp only [cTuple, seqOf, tupO]
  cases h[r]? with
  | none => rfl
  | some o => cases o <;> rfl
@[simp] theorem tupO_lst (es : List D) (h : AH) : tupO (some (.lst es)) h = .ok (.tup es) h := rfl
def lstO (o : Option AO) (h : AH) : ER := match o with
  | some (.lst es) => .ok (.ref h.length) (h ++ [.lst es])
  | _ => .stuck
@[simp] theorem cList_ref_ (r : Nat) (h : AH) : cList [.ref r] h = lstO h[r]? h := by
  simp only [cList, seqOf, lstO]
  cases h[r]? with
  | none => rfl
  | some o => cases o <;> rfl
@[simp] theorem lstO_lst (es : List D) (h : AH) : lstO (some (.lst es)) h = .ok (.ref h.length) (h ++ [.lst es]) := rfl
def slO (o : Option AO) (lo hi : Option Int) (h : AH) : ER := match o with
  | some (.lst es) => .ok (.ref h.length) (h ++ [.lst (cutD es lo hi)])
  | _ => .stuck
@[simp] theorem oSl_ref_ (r : Nat) (lo hi : Option Int) (h : AH) : oSl (.ref r) lo hi h = slO h[r]? lo hi h := by
  simp only [oSl, listOf, slO]
  cases h[r]? with
  | none => rfl
  | some o => cases o <;> rfl
@[simp] theorem slO_lst (es : List D) (lo hi : Option Int) (h : AH) : slO (some (.lst es)) lo hi h = .ok (.ref h.length) (h ++ [.lst (cutD es lo hi)]) := rfl
@[simp] theorem oSl_tup_ (es : List D) (lo hi : Option Int) (h : AH) : oSl (.tup es) lo hi h = .ok (.tup (cutD es lo hi)) h := rfl
@[simp] theorem oSl_rol_ (es : List D) (lo hi : Option Int) (h : AH) : oSl (.rol es) lo hi h = .ok (.ref h.length) (h ++ [.lst (cutD es lo hi)]) := rfl
theorem cutD_to (es : List D) (k : Nat) : cutD es none (some (k : Int)) = es.take k := by
  unfold cutD
  rw [HT.sIx_none, HT.sIx_nat, List.drop_zero, Nat.sub_zero]
  rw [List.take_eq_take_iff]
  omega
theorem cutD_from (es : List D) (k : Nat) : cutD es (some (k : Int)) none = es.drop k := by
  unfold cutD
  rw [HT.sIx_none, HT.sIx_nat]
  by_cases hk : k ≤ es.length
  · rw [Nat.min_eq_left hk, List.take_of_length_le (by simp)]
  · rw [Nat.min_eq_right (by omega), Nat.sub_self, List.take_zero, List.drop_eq_nil_of_le (by omega)]
theorem cutD_mid (es : List D) (k j : Nat) (hk : k ≤ es.length) : cutD es (some (k : Int)) (some (j : Int)) = (es.drop k).take (j - k) := by
  unfold cutD
  rw [HT.sIx_nat, HT.sIx_nat, Nat.min_eq_left hk, List.take_eq_take_iff, List.length_drop]
  omega
def sumO (o : Option AO) (h : AH) : ER := match o with
  | some (.lst es) => (match intsOf es with
    | some ns => .ok (.int ns.sum) h
    | none => .stuck)
  | _ => .stuck
@[simp] theorem cSum_ref_ (r : Nat) (h : AH) : cSum [.ref r] h = sumO h[r]? h := by
  simp only [cSum, listOf, sumO]
  cases h[r]? with
  | none => rfl
  | some o => cases o <;> rfl
@[simp] theorem sumO_ints (ns : List Int) (h : AH) : sumO (some (.lst (ns.map D.int))) h = .ok (.int ns.sum) h := by simp [sumO]
@[simp] theorem oPow_ (i j : Int) (h : AH) : oPow (.int i) (.int j) h = if PowOk i j then .ok (.int (i ^ j.toNat)) h else .stuck := rfl
/-- numbers below 10^600 -/
theorem oMul_b {i j : Int} {h : AH} (h1 : -(10 ^ 200) ≤ i) (h2 : i ≤ 10 ^ 200) (h3 : -(10 ^ 200) ≤ j) (h4 : j ≤ 10 ^ 200) : oMul (.int i) (.int j) h = .ok (.int (i * j)) h := by
  have e : (10 : Int) ^ 200 = ((10 ^ 200 : Nat) : Int) := by norm_cast
  rw [e] at h1 h2 h3 h4
  have l : (10 : Nat) ^ 200 < 2 ^ 10000 := by
    have a : (10 : Nat) ^ 200 ≤ (2 ^ 4) ^ 200 := Nat.pow_le_pow_left (by decide) 200
    rw [← Nat.pow_mul] at a
    exact Nat.lt_of_le_of_lt a (Nat.pow_lt_pow_right (by decide) (by decide))
  exact oMul_int (mulOk (Nat.lt_of_le_of_lt (by omega : i.natAbs ≤ 10 ^ 200) l) (Nat.lt_of_le_of_lt (by omega : j.natAbs ≤ 10 ^ 200) l))
theorem mulB {i j : Int} (h1 : -(10 ^ 200) ≤ i) (h2 : i ≤ 10 ^ 200) (h3 : -(10 ^ 200) ≤ j) (h4 : j ≤ 10 ^ 200) : CMulX i j := by
  have e : (10 : Int) ^ 200 = ((10 ^ 200 : Nat) : Int) := by norm_cast
  rw [e] at h1 h2 h3 h4
  have l : (10 : Nat) ^ 200 < 2 ^ 10000 := by
    have a : (10 : Nat) ^ 200 ≤ (2 ^ 4) ^ 200 := Nat.pow_le_pow_left (by decide) 200
    rw [← Nat.pow_mul] at a
    exact Nat.lt_of_le_of_lt a (Nat.pow_lt_pow_right (by decide) (by decide))
  exact mulOk (Nat.lt_of_le_of_lt (by omega : i.natAbs ≤ 10 ^ 200) l) (Nat.lt_of_le_of_lt (by omega : j.natAbs ≤ 10 ^ 200) l)
theorem divB {j : Int} (h1 : 0 < j) (h2 : j ≤ 10 ^ 200) : DivOk j := by
  have e : (10 : Int) ^ 200 = ((10 ^ 200 : Nat) : Int) := by norm_cast
  rw [e] at h2
  have l : (10 : Nat) ^ 200 < 2 ^ 9000 := by
    have a : (10 : Nat) ^ 200 ≤ (2 ^ 4) ^ 200 := Nat.pow_le_pow_left (by decide) 200
    rw [← Nat.pow_mul] at a
    exact Nat.lt_of_le_of_lt a (Nat.pow_lt_pow_right (by decide) (by decide))
  exact ⟨h1, log2_small h1 (Nat.lt_of_le_of_lt (by omega : j.natAbs ≤ 10 ^ 200) l)⟩
theorem get_set {α : Type} {h : List α} {a : Nat} {o : α} (ha : h[a]? = some o) (x : α) : (h.set a x)[a]? = some x := List.getElem?_set_self (List.getElem?_eq_some_iff.mp ha).1
theorem oMul_ (i j : Int) (h : AH) : oMul (.int i) (.int j) h = if CMulX i j then .ok (.int (i * j)) h else .stuck := rfl
theorem oDiv_ (i j : Int) (h : AH) : oDiv (.int i) (.int j) h = if DivOk j then .ok (.int (i / j)) h else .stuck := rfl
theorem oMod_ (i j : Int) (h : AH) : oMod (.int i) (.int j) h = if 0 < j then .ok (.int (i % j)) h else .stuck := rfl
theorem oDiv_b {i j : Int} {h : AH} (h1 : 0 < j) (h2 : j ≤ 10 ^ 200) : oDiv (.int i) (.int j) h = .ok (.int (i / j)) h := by
  have e : (10 : Int) ^ 200 = ((10 ^ 200 : Nat) : Int) := by norm_cast
  rw [e] at h2
  have l : (10 : Nat) ^ 200 < 2 ^ 9000 := by
    have a : (10 : Nat) ^ 200 ≤ (2 ^ 4) ^ 200 := Nat.pow_le_pow_left (by decide) 200
    rw [← Nat.pow_mul] at a
    exact Nat.lt_of_le_of_lt a (Nat.pow_lt_pow_right (by decide) (by decide))
  exact oDiv_int ⟨h1, log2_small h1 (Nat.lt_of_le_of_lt (by omega : j.natAbs ≤ 10 ^ 200) l)⟩
/-! walks -/
noncomputable def forR (o : LR) (g : GM) (b : SM) (e : AE) : SR := match o with
  | .ok [.int j] h1 => if RgB j then sLoop g b (rg 0 j.toNat) e h1 else .stuck
  | .ok _ _ => .stuck
  | .exc c fs h1 => .exc c fs e h1
  | .stuck => .stuck
@[simp] theorem sFor_range1 (l : LM) (g : GM) (b : SM) (e : AE) (h : AH) : sFor (iRange1 l) g b e h = forR (l e h) g b e := by
  unfold sFor iRange1 forR
  cases l e h with
  | ok ds h1 =>
    match ds with
    | [.int j] =>
      dsimp only
      by_cases hj : RgB j
      · rw [if_pos hj, if_pos hj]
        exact forN_stat _ 0 e h1 rfl
      · rw [if_neg hj, if_neg hj]
    | [] => rfl
    | .non :: _ => rfl
    | .bl _ :: _ => rfl
    | .str _ :: _ => rfl
    | .ty _ :: _ => rfl
    | .tup _ :: _ => rfl
    | .rol _ :: _ => rfl
    | .ref _ :: _ => rfl
    | .int _ :: _ :: _ => rfl
  | exc c fs h1 => rfl
  | stuck => rfl
@[simp] theorem forR_ok (j : Int) (h1 : AH) (g : GM) (b : SM) (e : AE) : forR (.ok [.int j] h1) g b e = if RgB j then sLoop g b (rg 0 j.toNat) e h1 else .stuck := rfl
/-- a list of the heap walked -/
def liveL (r : Nat) (ds : List D) (g : GM) (b : SM) (e : AE) (h : AH) : SR := forN (live r ds.length) g b (ds.length + 1) 0 e h
def forO (o : Option AO) (r : Nat) (g : GM) (b : SM) (e : AE) (h : AH) : SR := match o with
  | some (.lst ds) => liveL r ds g b e h
  | _ => .stuck
@[simp] theorem forO_lst (ds : List D) (r : Nat) (g : GM) (b : SM) (e : AE) (h : AH) : forO (some (.lst ds)) r g b e h = liveL r ds g b e h := rfl
def forV (o : ER) (g : GM) (b : SM) (e : AE) : SR := match o with
  | .ok (.tup ds) h1 => sLoop g b ds e h1
  | .ok (.rol ds) h1 => sLoop g b ds e h1
  | .ok (.str x) h1 => sLoop g b (signs x) e h1
  | .ok (.ref r) h1 => forO h1[r]? r g b e h1
  | .ok _ _ => .stuck
  | .exc c fs h1 => .exc c fs e h1
  | .stuck => .stuck
@[simp] theorem forV_tup (ds : List D) (g : GM) (b : SM) (e : AE) (h : AH) : forV (.ok (.tup ds) h) g b e = sLoop g b ds e h := rfl
@[simp] theorem forV_rol (ds : List D) (g : GM) (b : SM) (e : AE) (h : AH) : forV (.ok (.rol ds) h) g b e = sLoop g b ds e h := rfl
@[simp] theorem forV_str (x : Str) (g : GM) (b : SM) (e : AE) (h : AH) : forV (.ok (.str x) h) g b e = sLoop g b (signs x) e h := rfl
@[simp] theorem forV_ref (r : Nat) (g : GM) (b : SM) (e : AE) (h : AH) : forV (.ok (.ref r) h) g b e = forO h[r]? r g b e h := rfl
@[simp] theorem sFor_val (m : EM) (g : GM) (b : SM) (e : AE) (h : AH) : sFor (iVal m) g b e h = forV (m e h) g b e := by
  unfold sFor iVal forV
  cases m e h with
  | ok d h1 =>
    cases d with
    | tup ds => exact forN_stat ds 0 e h1 rfl
    | rol ds => exact forN_stat ds 0 e h1 rfl
    | str x => exact forN_stat (signs x) 0 e h1 rfl
    | ref r =>
      dsimp only
      unfold forO liveL
      cases h1[r]? with
      | none => rfl
      | some o => cases o <;> rfl
    | _ => rfl
  | exc c fs h1 => rfl
  | stuck => rfl
noncomputable def rgE (tp : Bool) (d : D) (h1 : AH) : ER := match d with
  | .int j => if RgOk 0 j then (if tp then .ok (.tup (rg 0 j.toNat)) h1 else .ok (.ref h1.length) (h1 ++ [.lst (rg 0 j.toNat)])) else .stuck
  | _ => .stuck
@[simp] theorem eRg1_ (tp : Bool) (m : EM) (e : AE) (h : AH) : eRg1 tp m e h = (m e h).then (rgE tp) := rfl
@[simp] theorem rgE_t (j : Int) (h1 : AH) : rgE true (.int j) h1 = if RgOk 0 j then .ok (.tup (rg 0 j.toNat)) h1 else .stuck := by
  unfold rgE; simp
@[simp] theorem rgE_f (j : Int) (h1 : AH) : rgE false (.int j) h1 = if RgOk 0 j then .ok (.ref h1.length) (h1 ++ [.lst (rg 0 j.toNat)]) else .stuck := by
  unfold rgE; simp
theorem rgB_nat {n : Nat} (h : n ≤ 1000000) : RgB (n : Int) := ⟨by omega, by omega⟩
theorem rgOk_nat {n : Nat} (hn : n ≤ 16777216) : RgOk 0 (n : Int) := RgOk.of_le (Int.le_refl 0) (by omega) (by decide) (by omega)
theorem iRange1_nat {m : EM} {e : AE} {h h1 : AH} {n : Nat} (hm : m e h = .ok (.int (n : Int)) h1) (hn : n ≤ 1000000) : iRange1 (lCons m lNil) e h = .ok (stat ((List.range n).map dN)) h1 := by
  simp only [iRange1, lCons_, lNil_, hm, thenL_ok, lrcons_ok]
  rw [if_pos (rgB_nat hn), Int.toNat_natCast, rg_zero]
theorem iVal_tup {m : EM} {e : AE} {h h1 : AH} {ds : List D} (hm : m e h = .ok (.tup ds) h1) : iVal m e h = .ok (stat ds) h1 := by simp [iVal, hm]
theorem iVal_rol {m : EM} {e : AE} {h h1 : AH} {ds : List D} (hm : m e h = .ok (.rol ds) h1) : iVal m e h = .ok (stat ds) h1 := by simp [iVal, hm]
theorem iVal_str {m : EM} {e : AE} {h h1 : AH} {x : Str} (hm : m e h = .ok (.str x) h1) : iVal m e h = .ok (stat (signs x)) h1 := by simp [iVal, hm]
theorem iVal_ref {m : EM} {e : AE} {h h1 : AH} {r : Nat} {ds : List D} (hm : m e h = .ok (.ref r) h1) (hr : h1[r]? = some (.lst ds)) : iVal m e h = .ok (live r ds.length) h1 := by simp [iVal, hm, hr]
theorem liveL_inv {g : GM} {b : SM} {e : AE} {h : AH} {r : Nat} {ds : List D} (P : Nat → AE → AH → Prop) (hP : ∀ i e h, P i e h → h[r]? = some (.lst ds)) (p : P 0 e h)
    (st : ∀ (i : Nat) (d : D) (e : AE) (h : AH), ds[i]? = some d → P i e h → ∃ e' h', (onlyNx (g d e h)).then b = .nx e' h' ∧ P (i + 1) e' h') : ∃ e' h', liveL r ds g b e h = .nx e' h' ∧ P ds.length e' h' :=
  forN_live P hP ds.length 0 e h (Nat.zero_add _) p st
theorem liveL_ret {g : GM} {b : SM} {e : AE} {h : AH} {r : Nat} {ds : List D} (P : Nat → AE → AH → Prop) (R : D → AH → Prop) (hP : ∀ i e h, P i e h → h[r]? = some (.lst ds)) (p : P 0 e h)
    (st : ∀ (i : Nat) (d : D) (e : AE) (h : AH), ds[i]? = some d → P i e h → (∃ e' h', (onlyNx (g d e h)).then b = .nx e' h' ∧ P (i + 1) e' h') ∨ ∃ d' h', (onlyNx (g d e h)).then b = .rt d' h' ∧ R d' h') :
    (∃ e' h', liveL r ds g b e h = .nx e' h' ∧ P ds.length e' h') ∨ ∃ d' h', liveL r ds g b e h = .rt d' h' ∧ R d' h' :=
  forN_live_ret P R hP ds.length 0 e h (Nat.zero_add _) p st
/-- a loop over 0 .. n - 1 -/
theorem loopN {k : Nat} {b : SM} (P : Nat → AE → AH → Prop) (n : Nat) {e : AE} {h : AH} (p : P 0 e h)
    (st : ∀ (i : Nat) (e : AE) (h : AH), i < n → P i e h → ∃ e' h', b (e.set k (some (dN i))) h = .nx e' h' ∧ P (i + 1) e' h') : ∃ e' h', sLoop (gVar k) b ((List.range n).map dN) e h = .nx e' h' ∧ P n e' h' := by
  have := loop_inv (g := gVar k) (b := b) P ((List.range n).map dN) 0 e h p fun i d e h hd hp => by
    rw [List.getElem?_map] at hd
    by_cases hi : i < n
    · rw [List.getElem?_range hi] at hd
      cases hd
      rw [Nat.zero_add] at hp
      obtain ⟨e', h', q, p'⟩ := st i e h hi hp
      exact ⟨e', h', q, by rwa [Nat.zero_add]⟩
    · rw [List.getElem?_eq_none (by simp; omega)] at hd; cases hd
  simpa using this
theorem loopN_ret {k : Nat} {b : SM} (P : Nat → AE → AH → Prop) (R : D → AH → Prop) (n : Nat) {e : AE} {h : AH} (p : P 0 e h)
    (st : ∀ (i : Nat) (e : AE) (h : AH), i < n → P i e h → (∃ e' h', b (e.set k (some (dN i))) h = .nx e' h' ∧ P (i + 1) e' h') ∨ ∃ d' h', b (e.set k (some (dN i))) h = .rt d' h' ∧ R d' h') :
    (∃ e' h', sLoop (gVar k) b ((List.range n).map dN) e h = .nx e' h' ∧ P n e' h') ∨ ∃ d' h', sLoop (gVar k) b ((List.range n).map dN) e h = .rt d' h' ∧ R d' h' := by
  have := loop_ret (g := gVar k) (b := b) P R ((List.range n).map dN) 0 e h p fun i d e h hd hp => by
    rw [List.getElem?_map] at hd
    by_cases hi : i < n
    · rw [List.getElem?_range hi] at hd
      cases hd
      rw [Nat.zero_add] at hp
      rcases st i e h hi hp with ⟨e', h', q, p'⟩ | z
      · exact .inl ⟨e', h', q, by rwa [Nat.zero_add]⟩
      · exact .inr z
    · rw [List.getElem?_eq_none (by simp; omega)] at hd; cases hd
  simpa using this
theorem beq_nat (a b : Nat) : ((a : Int) == (b : Int)) = (a == b) := by
  by_cases h : a = b
  · subst h; simp
  · have h2 : ¬ (a : Int) = (b : Int) := fun e => h (Int.ofNat.inj e)
    rw [beq_eq_false_iff_ne.mpr h, beq_eq_false_iff_ne.mpr h2]
@[simp high] theorem oEq_N (a b : Nat) (h : AH) : oEq (.int (a : Int)) (.int (b : Int)) h = .ok (.bl (a == b)) h := by rw [oEq_int, beq_nat]
@[simp high] theorem oNe_N (a b : Nat) (h : AH) : oNe (.int (a : Int)) (.int (b : Int)) h = .ok (.bl (!(a == b))) h := by rw [oNe_int, beq_nat]
theorem fits {n : Nat} (h : n ≤ 16777216) : Fits n := by unfold Fits; rw [sizeLine_eq]; exact h
theorem fitsL {n : Nat} (h : n < 16777216) : FitsL n := by unfold FitsL; rw [sizeLine_eq]; exact h
@[simp] theorem fits_0 : Fits 0 := fits (by decide)
@[simp] theorem fits_1 : Fits (0 + 1) := fits (by decide)
@[simp] theorem fits_2 : Fits (0 + 1 + 1) := fits (by decide)
@[simp] theorem fits_3 : Fits (0 + 1 + 1 + 1) := fits (by decide)
@[simp] theorem fits_1' : Fits 1 := fits (by decide)
@[simp] theorem fits_2' : Fits 2 := fits (by decide)
@[simp] theorem fits_3' : Fits 3 := fits (by decide)
@[simp] theorem fits_4' : Fits 4 := fits (by decide)
@[simp] theorem fits_5' : Fits 5 := fits (by decide)
@[simp] theorem fits_8' : Fits 8 := fits (by decide)
@[simp] theorem powOk_18 : PowOk 10 18 := ⟨by decide, by decide, by decide⟩
@[simp] theorem powOk_15 : PowOk 10 15 := ⟨by decide, by decide, by decide⟩
@[simp] theorem powOk_60 : PowOk 10 60 := ⟨by decide, by decide, by decide⟩
@[simp] theorem powOk_6 : PowOk 10 6 := ⟨by decide, by decide, by decide⟩
@[simp] theorem divOk_2 : DivOk 2 := divB (by decide) (by decide)
@[simp] theorem divOk_3 : DivOk 3 := divB (by decide) (by decide)
@[simp] theorem divOk_7 : DivOk 7 := divB (by decide) (by decide)
@[simp] theorem divOk_32 : DivOk 32 := divB (by decide) (by decide)
@[simp] theorem divOk_61 : DivOk 61 := divB (by decide) (by decide)
theorem set_self {α : Type} {h : List α} {a : Nat} {o : α} (ha : h[a]? = some o) : h.set a o = h := by
  apply List.ext_getElem?
  intro j
  by_cases hj : a = j
  · subst hj
    rw [List.getElem?_set_self (List.getElem?_eq_some_iff.mp ha).1, ha]
  · rw [List.getElem?_set_ne hj]
/-- the new things behind h -/
theorem app_get {α : Type} {h g : List α} {i : Nat} : (h ++ g)[h.length + i]? = g[i]? := by
  rw [List.getElem?_append_right (by omega)]; simp
@[simp] theorem app_get0 {α : Type} {h g : List α} {n : Nat} (hn : h.length = n := by simp) : (h ++ g)[n]? = g[0]? := by
  subst hn
  rw [List.getElem?_append_right (by omega)]; simp
theorem app_get_l {α : Type} {h g : List α} {a : Nat} {o : α} (ha : h[a]? = some o) : (h ++ g)[a]? = some o := by
  rw [List.getElem?_append_left (List.getElem?_eq_some_iff.mp ha).1]; exact ha
theorem app_set_l {α : Type} {h g : List α} {a : Nat} {o : α} (ha : a < h.length) : (h ++ g).set a o = h.set a o ++ g := List.set_append_left _ _ ha
theorem app_set {α : Type} {h g : List α} {i n : Nat} {o : α} (hn : h.length = n) : (h ++ g).set (n + i) o = h ++ g.set i o := by
  subst hn
  rw [List.set_append_right _ _ (by omega)]; simp
theorem getD_set {p : List Nat} {i j v : Nat} (hi : i < p.length) : (p.set i v).getD j 0 = if i = j then v else p.getD j 0 := by
  simp only [List.getD_eq_getElem?_getD]
  by_cases h : i = j
  · subst h
    rw [List.getElem?_set_self hi, if_pos rfl]; rfl
  · rw [List.getElem?_set_ne h, if_neg h]
end Rf

set_option maxHeartbeats 1000000
/-! Reckoning with the later parts (RN .. RC). -/
namespace Rf
open PySem L2
@[simp] theorem eDict_ (e : AE) (h : AH) : eDict e h = .ok (.ref h.length) (h ++ [.dK []]) := rfl
@[simp] theorem eCallK_ (n m : Nat) (idx : List Nat) (F : List D → AH → ER) (ml mk : LM) (e : AE) (h : AH) : eCallK n m idx F ml mk e h = (ml e h).then fun ds h1 => (mk e h1).then fun es h2 => if ds.length = n ∧ es.length = m then F (permK idx ds es) h2 else .stuck := rfl
theorem cSorted_lst {r : Nat} {ns : List Int} {h : AH} (e : h[r]? = some (.lst (ns.map D.int))) : cSorted [.ref r] h = .ok (.ref h.length) (h ++ [.lst ((intSort ns).map D.int)]) := by
  simp [cSorted, e]
theorem cSorted_dK {r : Nat} {kvs : List (Key × D)} {ns : List Int} {h : AH} (e : h[r]? = some (.dK kvs)) (k : keysI kvs = some ns) (l : ns.length < 64) : cSorted [.ref r] h = .ok (.ref h.length) (h ++ [.lst ((intSort ns).map D.int)]) := by
  simp [cSorted, e, k, l]
theorem oDGet_ref {r : Nat} {kvs : List (Key × D)} {k : Int} {d : D} {h : AH} (e : h[r]? = some (.dK kvs)) (v : valD kvs (.inl k) = some d) : oDGet (.ref r) (.int k) h = .ok d h := by
  simp [oDGet, dictOf, keyD, e, v]
theorem oDNotIn_ref {r : Nat} {kvs : List (Key × D)} {k : Int} {h : AH} (e : h[r]? = some (.dK kvs)) : oDNotIn (.int k) (.ref r) h = .ok (.bl (!(valD kvs (.inl k)).isSome)) h := by
  simp [oDNotIn, dictOf, keyD, e]
theorem oDIn_ref {r : Nat} {kvs : List (Key × D)} {k : Int} {h : AH} (e : h[r]? = some (.dK kvs)) : oDIn (.int k) (.ref r) h = .ok (.bl (valD kvs (.inl k)).isSome) h := by
  simp [oDIn, dictOf, keyD, e]
theorem putD_ref {r : Nat} {kvs : List (Key × D)} {k : Int} {v : D} {h : AH} (e : h[r]? = some (.dK kvs)) (l : kvs.length < sizeLine) : putD (.ref r) (.int k) v h = some (h.set r (.dK (setD kvs (.inl k) v))) := by
  simp [putD, dictOf, keyD, e, l]
theorem iEnum1_tup {m : EM} {e : AE} {h h1 : AH} {ds : List D} (hm : m e h = .ok (.tup ds) h1) : iEnum1 m e h = .ok (stat (numD ds)) h1 := by simp [iEnum1, hm]
theorem eRev_ref {m : EM} {e : AE} {h h1 : AH} {r : Nat} {ds : List D} (hm : m e h = .ok (.ref r) h1) (er : h1[r]? = some (.lst ds)) : eRev m e h = .ok (.ref h1.length) (h1 ++ [.lst ds.reverse]) := by simp [eRev, hm, Rf.listOf, er]
end Rf

set_option maxHeartbeats 1000000
/-! General lemmas first written for k11. -/
namespace Rf
open PySem L2
theorem getD_get {α : Type} {l : List α} {i : Nat} {d : α} (h : i < l.length) : l.getD i d = l[i] := by simp [h]
theorem getD_mem {α : Type} {l : List α} {i : Nat} {d : α} (h : i < l.length) : l.getD i d ∈ l := by rw [getD_get h]; exact List.getElem_mem h
theorem nodup_getD {α : Type} {l : List α} (nd : l.Nodup) {i j : Nat} {d : α} (hi : i < l.length) (hj : j < l.length) (h : l.getD i d = l.getD j d) : i = j := by
  rw [getD_get hi, getD_get hj] at h
  exact (List.getElem_inj nd).mp h
theorem mem_getD {α : Type} {l : List α} {x d : α} (h : x ∈ l) : ∃ i, i < l.length ∧ l.getD i d = x := by
  obtain ⟨i, hi, e⟩ := List.getElem_of_mem h
  exact ⟨i, hi, by rw [getD_get hi, e]⟩
theorem map_getD {α β : Type} {f : α → β} {l : List α} {i : Nat} {d : α} {e : β} (h : i < l.length) : (l.map f).getD i e = f (l.getD i d) := by
  rw [getD_get (by simpa using h), getD_get h, List.getElem_map]
theorem sub_length : ∀ {l1 l2 : List Nat}, l1.Nodup → (∀ x ∈ l1, x ∈ l2) → l1.length ≤ l2.length
  | [], _, _, _ => Nat.zero_le _
  | x :: l, l2, nd, h => by
    have hx := h x List.mem_cons_self
    have ih := sub_length (l1 := l) (l2 := l2.erase x) (List.nodup_cons.mp nd).2 fun y hy => by
      have : y ≠ x := fun e => (List.nodup_cons.mp nd).1 (e ▸ hy)
      exact (List.mem_erase_of_ne this).mpr (h y (List.mem_cons_of_mem _ hy))
    rw [List.length_erase_of_mem hx] at ih
    have := List.length_pos_of_mem hx
    rw [List.length_cons]; omega
theorem getD_app {p : List Nat} {j v : Nat} : (p ++ [v]).getD j 0 = if j = p.length then v else p.getD j 0 := by
  simp only [List.getD_eq_getElem?_getD]
  by_cases h : j < p.length
  · rw [List.getElem?_append_left h, if_neg (by omega)]
  · by_cases h2 : j = p.length
    · subst h2; simp
    · rw [if_neg h2, List.getElem?_append_right (by omega), List.getElem?_eq_none (by simp; omega), List.getElem?_eq_none (by omega)]
theorem mapM_toP {us : List Nat} {h : AH} {k : Nat} : (us.map dN).mapM (D.toP h k) = some (us.map fun u : Nat => PyData.int (u : Int)) := by
  induction us with
  | nil => rfl
  | cons u us ih => rw [List.map_cons, List.mapM_cons, ih]; unfold dN D.toP; cases k <;> rfl
theorem toP_list {us : List Nat} {h : AH} {r : Nat} (hr : h[r]? = some (.lst (us.map dN))) : (D.ref r).toP h 20 = some (.list (us.map fun u : Nat => PyData.int (u : Int))) := by
  unfold D.toP
  rw [hr]
  show ((us.map dN).mapM (D.toP h 19)).map PyData.list = _
  rw [mapM_toP]; rfl
theorem eqv_int {a b : Int} : PyData.eqv (.int a) (.int b) = (a == b) := by simp [PyData.eqv]
theorem any_N (us : List Nat) (k : Nat) : (us.map fun u : Nat => PyData.int (u : Int)).any (fun z => PyData.eqv z (.int (k : Int))) = us.contains k := by
  induction us with
  | nil => rfl
  | cons u us ih =>
    rw [List.map_cons, List.any_cons, List.contains_cons, ih, eqv_int, beq_nat, Bool.beq_comm (a := k)]
theorem notIn_N {us : List Nat} {h : AH} {r k : Nat} (hr : h[r]? = some (.lst (us.map dN))) : oNotIn (.int (k : Int)) (.ref r) h = .ok (.bl (!us.contains k)) h := by
  unfold oNotIn
  have e1 : (D.int (k : Int)).toP h 20 = some (.int k) := rfl
  have e2 : Rf.listOf h (.ref r) = some (us.map dN) := by simp [Rf.listOf, hr]
  rw [toP_list hr, e1, e2]
  simp only [any_N]
theorem eqvAll_N : ∀ {us vs : List Nat}, PyData.eqvAll (us.map fun u : Nat => PyData.int (u : Int)) (vs.map fun u : Nat => PyData.int (u : Int)) = decide (us = vs)
  | [], [] => by simp [PyData.eqvAll]
  | [], v :: vs => by simp [PyData.eqvAll]
  | u :: us, [] => by simp [PyData.eqvAll]
  | u :: us, v :: vs => by
    rw [List.map_cons, List.map_cons, PyData.eqvAll, eqvAll_N, eqv_int, beq_nat]
    by_cases h : u = v
    · subst h; simp
    · simp [h]
theorem oEq_L {us vs : List Nat} {h : AH} {r q : Nat} (hr : h[r]? = some (.lst (us.map dN))) (hq : h[q]? = some (.lst (vs.map dN))) : oEq (.ref r) (.ref q) h = .ok (.bl (decide (us = vs))) h := by
  unfold oEq
  rw [toP_list hr, toP_list hq]
  simp only [PyData.eqv, eqvAll_N]
@[simp] theorem oMul_ref_ (r : Nat) (i : Int) (h : AH) : oMul (.ref r) (.int i) h = (match h[r]? with
    | some (.lst xs) => if RepOk xs.length i then .ok (.ref h.length) (h ++ [.lst (List.replicate i.toNat xs).flatten]) else .stuck
    | _ => .stuck) := rfl
theorem repOk_1 {n : Nat} (h : n ≤ 16777216) : RepOk 1 (n : Int) := ⟨by omega, by omega, by rw [sizeLine_eq]; omega⟩
theorem rep_zero (n : Nat) : (List.replicate n [D.int 0]).flatten = (List.replicate n 0).map dN := by
  induction n with
  | zero => rfl
  | succ n ih => rw [List.replicate_succ, List.replicate_succ, List.flatten_cons, ih]; rfl
theorem loopM {α : Type} {φ : α → D} {k : Nat} {b : SM} (P : Nat → AE → AH → Prop) (xs : List α) {e : AE} {h : AH} (p : P 0 e h)
    (st : ∀ (i : Nat) (x : α) (e : AE) (h : AH), xs[i]? = some x → P i e h → ∃ e' h', b (e.set k (some (φ x))) h = .nx e' h' ∧ P (i + 1) e' h') : ∃ e' h', sLoop (gVar k) b (xs.map φ) e h = .nx e' h' ∧ P xs.length e' h' := by
  have := loop_inv (g := gVar k) (b := b) P (xs.map φ) 0 e h p fun i d e h hd hp => by
    rw [List.getElem?_map] at hd
    cases hx : xs[i]? with
    | none => rw [hx] at hd; cases hd
    | some x =>
      rw [hx] at hd
      cases hd
      rw [Nat.zero_add] at hp
      obtain ⟨e', h', q, p'⟩ := st i x e h hx hp
      exact ⟨e', h', q, by rwa [Nat.zero_add]⟩
  simpa using this
theorem loopM_ret {α : Type} {φ : α → D} {k : Nat} {b : SM} (P : Nat → AE → AH → Prop) (R : D → AH → Prop) (xs : List α) {e : AE} {h : AH} (p : P 0 e h)
    (st : ∀ (i : Nat) (x : α) (e : AE) (h : AH), xs[i]? = some x → P i e h → (∃ e' h', b (e.set k (some (φ x))) h = .nx e' h' ∧ P (i + 1) e' h') ∨ ∃ d' h', b (e.set k (some (φ x))) h = .rt d' h' ∧ R d' h') :
    (∃ e' h', sLoop (gVar k) b (xs.map φ) e h = .nx e' h' ∧ P xs.length e' h') ∨ ∃ d' h', sLoop (gVar k) b (xs.map φ) e h = .rt d' h' ∧ R d' h' := by
  have := loop_ret (g := gVar k) (b := b) P R (xs.map φ) 0 e h p fun i d e h hd hp => by
    rw [List.getElem?_map] at hd
    cases hx : xs[i]? with
    | none => rw [hx] at hd; cases hd
    | some x =>
      rw [hx] at hd
      cases hd
      rw [Nat.zero_add] at hp
      rcases st i x e h hx hp with ⟨e', h', q, p'⟩ | z
      · exact .inl ⟨e', h', q, by rwa [Nat.zero_add]⟩
      · exact .inr z
  simpa using this
theorem min_ex {P : Nat → Prop} (q : ∃ m, P m) : ∃ m, P m ∧ ∀ m', P m' → m ≤ m' := by
  obtain ⟨m, hm⟩ := q
  induction m using Nat.strongRecOn with
  | _ m ih =>
    by_cases z : ∃ k, k < m ∧ P k
    · obtain ⟨k, hk, pk⟩ := z
      exact ih k hk pk
    · exact ⟨m, hm, fun m' pm => Nat.le_of_not_lt fun lt => z ⟨m', lt, pm⟩⟩
open Classical in
theorem while_ix {c : EM} {b : SM} (P : Nat → AE → AH → Prop) (T : AE → AH → Prop)
    (st : ∀ m e h, P m e h → (∃ h1, c e h = .ok (.bl false) h1 ∧ T e h1) ∨ ∃ h1, c e h = .ok (.bl true) h1 ∧ ∃ e' h', b e h1 = .nx e' h' ∧ ∃ m', m' < m ∧ P m' e' h') (m : Nat) (e : AE) (h : AH) (p : P m e h) : ∃ e' h', sWhile c b e h = .nx e' h' ∧ T e' h' := by
  let μ : AE → AH → Nat := fun e h => if q : ∃ m, P m e h then Classical.choose (min_ex q) else 0
  have hμ : ∀ m e h, P m e h → P (μ e h) e h ∧ μ e h ≤ m := fun m e h pm => by
    have q : ∃ m, P m e h := ⟨m, pm⟩
    have e1 : μ e h = Classical.choose (min_ex q) := dif_pos q
    have := Classical.choose_spec (min_ex q)
    rw [e1]
    exact ⟨this.1, this.2 m pm⟩
  refine while_inv (P := fun e h => ∃ m, P m e h) μ T (fun e h pe => ?_) (μ e h) e h (Nat.le_refl _) ⟨m, p⟩
  obtain ⟨m0, pm0⟩ := pe
  have h1 := hμ m0 e h pm0
  rcases st _ e h h1.1 with z | ⟨h1', hc, e', h', hb, m', lt, p'⟩
  · exact .inl z
  · exact .inr ⟨h1', hc, e', h', hb, ⟨m', p'⟩, Nat.lt_of_le_of_lt (hμ m' e' h' p').2 lt⟩
theorem gc_old {h h' : AH} {r : Nat} (hr : r < h.length) : gc h (.ok (.ref r) h') = .ok (.ref r) h' := by
  unfold gc
  dsimp only
  split
  · rw [if_neg (by unfold D.pure; exact Bool.false_ne_true), if_neg (by omega)]
  · rfl
theorem cast_ite {c : Prop} [Decidable c] {a b : Nat} : ((if c then a else b : Nat) : Int) = if c then (a : Int) else (b : Int) := by split <;> rfl
theorem loop_brk {g : GM} {b : SM} (P : Nat → AE → AH → Prop) (B : AE → AH → Prop) : ∀ (ds : List D) (k : Nat) (e : AE) (h : AH), P k e h →
    (∀ (i : Nat) (d : D) (e : AE) (h : AH), ds[i]? = some d → P (k + i) e h → (∃ e' h', (onlyNx (g d e h)).then b = .nx e' h' ∧ P (k + i + 1) e' h') ∨ ∃ e' h', (onlyNx (g d e h)).then b = .bk e' h' ∧ B e' h') →
    ∃ e' h', sLoop g b ds e h = .nx e' h' ∧ (P (k + ds.length) e' h' ∨ B e' h')
  | [], k, e, h, p, _ => ⟨e, h, rfl, .inl p⟩
  | d :: ds, k, e, h, p, st => by
    rcases st 0 d e h rfl p with ⟨e1, h1, q, p1⟩ | ⟨e1, h1, q, r⟩
    · obtain ⟨e2, h2, q2, p2⟩ := loop_brk P B ds (k + 1) e1 h1 p1 fun i d' e' h' hd hp => by
          have hp' : P (k + (i + 1)) e' h' := by rwa [show k + (i + 1) = k + 1 + i by omega]
          rcases st (i + 1) d' e' h' (by simpa using hd) hp' with ⟨e3, h3, a, c⟩ | z
          · exact .inl ⟨e3, h3, a, by rwa [show k + 1 + i + 1 = k + (i + 1) + 1 by omega]⟩
          · exact .inr z
      refine ⟨e2, h2, ?_, ?_⟩
      · unfold sLoop
        rw [q]
        exact q2
      · rw [List.length_cons, show k + (ds.length + 1) = k + 1 + ds.length by omega]; exact p2
    · refine ⟨e1, h1, ?_, .inr r⟩
      unfold sLoop
      rw [q]
      rfl
theorem loopN_brk {k : Nat} {b : SM} (P : Nat → AE → AH → Prop) (B : AE → AH → Prop) (n : Nat) {e : AE} {h : AH} (p : P 0 e h)
    (st : ∀ (i : Nat) (e : AE) (h : AH), i < n → P i e h → (∃ e' h', b (e.set k (some (dN i))) h = .nx e' h' ∧ P (i + 1) e' h') ∨ ∃ e' h', b (e.set k (some (dN i))) h = .bk e' h' ∧ B e' h') : ∃ e' h', sLoop (gVar k) b ((List.range n).map dN) e h = .nx e' h' ∧ (P n e' h' ∨ B e' h') := by
  have := loop_brk (g := gVar k) (b := b) P B ((List.range n).map dN) 0 e h p fun i d e h hd hp => by
    rw [List.getElem?_map] at hd
    by_cases hi : i < n
    · rw [List.getElem?_range hi] at hd
      cases hd
      rw [Nat.zero_add] at hp
      rcases st i e h hi hp with ⟨e', h', q, p'⟩ | z
      · exact .inl ⟨e', h', q, by rwa [Nat.zero_add]⟩
      · exact .inr z
    · rw [List.getElem?_eq_none (by simp; omega)] at hd; cases hd
  simpa using this
@[simp] theorem ci_ii (i : Int) (h : AH) : cIsi [.int i, .ty "int"] h = .ok (.bl true) h := by rw [cIsi_int _ _ _ (by decide)]; rfl
@[simp] theorem ci_ib (i : Int) (h : AH) : cIsi [.int i, .ty "bool"] h = .ok (.bl false) h := by rw [cIsi_int _ _ _ (by decide)]; rfl
@[simp] theorem ci_tt (ds : List D) (h : AH) : cIsi [.tup ds, .ty "tuple"] h = .ok (.bl true) h := by rw [cIsi_tup _ _ _ (by decide)]; rfl
@[simp] theorem oAdd_tup (xs ys : List D) (h : AH) : oAdd (.tup xs) (.tup ys) h = if Fits (xs.length + ys.length) then .ok (.tup (xs ++ ys)) h else .stuck := rfl
theorem oAdd_ref {r q : Nat} {xs ys : List D} {h : AH} (hr : h[r]? = some (.lst xs)) (hq : h[q]? = some (.lst ys)) : oAdd (.ref r) (.ref q) h = if Fits (xs.length + ys.length) then .ok (.ref h.length) (h ++ [.lst (xs ++ ys)]) else .stuck := by
  simp [oAdd, hr, hq]
theorem lc_inv {α : Type} {φ : α → D} {k : Nat} {te : EM} {e0 : AE} {ds : List D} (Q : Nat → List D → AH → Prop) : ∀ (r : List α) (i : Nat) (acc : List D) (h : AH), ds.drop i = r.map φ → acc.length + r.length ≤ sizeLine → Q i acc h →
    (∀ (j : Nat) (x : α) (acc : List D) (h : AH), r[j]? = some x → Q (i + j) acc h → ∃ d h', te (e0.set k (some (φ x))) h = .ok d h' ∧ Q (i + j + 1) (acc ++ [d]) h') →
    ∃ acc' h', lcN (stat ds) (gVar k) (eC (.bl true)) te e0 (r.length + 1) i acc h = .inr (acc', h') ∧ Q (i + r.length) acc' h'
  | [], i, acc, h, hd, _, q, _ => by
    have hi : ds[i]? = none := by
      have q : ds.length - i = 0 := by simpa using congrArg List.length hd
      have : ds.length ≤ i := by omega
      exact List.getElem?_eq_none_iff.mpr this
    refine ⟨acc, h, ?_, q⟩
    unfold lcN
    simp [stat, hi]
  | x :: r, i, acc, h, hd, hl, q, st => by
    obtain ⟨hi, hr⟩ := drop_cons (show ds.drop i = φ x :: r.map φ from hd)
    rw [List.length_cons] at hl ⊢
    obtain ⟨d, h1, e1, q1⟩ := st 0 x acc h rfl q
    obtain ⟨acc', h', e2, q2⟩ := lc_inv (φ := φ) (k := k) (te := te) (e0 := e0) (ds := ds) Q r (i + 1) (acc ++ [d]) h1 hr (by simp; omega) q1 fun j y acc h hy hq => by
      have hq' : Q (i + (j + 1)) acc h := by rwa [show i + (j + 1) = i + 1 + j by omega]
      obtain ⟨d, h', e, q⟩ := st (j + 1) y acc h (by simpa using hy) hq'
      exact ⟨d, h', e, by rwa [show i + 1 + j + 1 = i + (j + 1) + 1 by omega]⟩
    refine ⟨acc', h', ?_, by rwa [show i + (r.length + 1) = i + 1 + r.length by omega]⟩
    unfold lcN
    simp only [stat, hi, gVar_, eC_, e1]
    rw [if_pos (show FitsL acc.length from (by omega : acc.length < sizeLine))]
    exact e2
theorem eLc_inv {α : Type} {φ : α → D} {k : Nat} {mi : IM} {te : EM} {vs : List Nat} {e : AE} {h h1 : AH} (xs : List α) (hm : mi e h = .ok (stat (xs.map φ)) h1) (hn : xs.length ≤ 1000) (Q : Nat → List D → AH → Prop) (q : Q 0 [] h1)
    (st : ∀ (i : Nat) (x : α) (acc : List D) (h : AH), xs[i]? = some x → Q i acc h → ∃ d h', te ((wipeE e vs).set k (some (φ x))) h = .ok d h' ∧ Q (i + 1) (acc ++ [d]) h') :
    ∃ acc h', eLc mi (gVar k) (eC (.bl true)) te vs e h = .ok (.ref h'.length) (h' ++ [.lst acc]) ∧ Q xs.length acc h' := by
  obtain ⟨acc, h', e1, q1⟩ := lc_inv (φ := φ) (k := k) (te := te) (e0 := wipeE e vs) (ds := xs.map φ) Q xs 0 [] h1 rfl (by rw [sizeLine_eq]; simp; omega) q fun j x acc h hx hq => by
    rw [Nat.zero_add] at hq ⊢
    exact st j x acc h hx hq
  refine ⟨acc, h', ?_, by simpa using q1⟩
  unfold eLc
  rw [hm]
  have hn : (stat (xs.map φ)).n = xs.length := by simp [stat]
  simp only [hn, e1]
theorem sqE {a b : SM} {e e1 : AE} {h h1 : AH} {d : D} (ha : a e h = .nx e1 h1) (hb : ∃ h', b e1 h1 = .rt d h') : ∃ h', sSeq a b e h = .rt d h' := by
  obtain ⟨h', q⟩ := hb
  exact ⟨h', by rw [sSeq_, ha]; exact q⟩
theorem gc_bl {h h' : AH} {b : Bool} : ∃ h'', gc h (.ok (.bl b) h') = .ok (.bl b) h'' := by
  unfold gc
  dsimp only
  split
  · exact ⟨_, by rw [if_pos (by rfl)]⟩
  · exact ⟨_, rfl⟩
end Rf

set_option maxHeartbeats 1000000
/-! Perms as lists, labels, merges (first written for k11). -/
namespace Rf
open PySem L2
/-- a perm of n points -/
structure IsP (n : Nat) (p : List Nat) : Prop where
  len : p.length = n
  lt : ∀ i, i < n → p.getD i 0 < n
  inj : ∀ i j, i < n → j < n → p.getD i 0 = p.getD j 0 → i = j
theorem IsP.swap {n : Nat} {p : List Nat} (P : IsP n p) {a b : Nat} (ha : a < n) (hb : b < n) : IsP n ((p.set a (p.getD b 0)).set b (p.getD a 0)) := by
  have la : a < p.length := by rw [P.len]; exact ha
  have lb : b < (p.set a (p.getD b 0)).length := by rw [List.length_set, P.len]; exact hb
  have e : ∀ j, ((p.set a (p.getD b 0)).set b (p.getD a 0)).getD j 0 = p.getD (if b = j then a else if a = j then b else j) 0 := fun j => by
    rw [getD_set lb, getD_set la]
    split
    · rfl
    · split <;> rfl
  have l : ∀ j, j < n → (if b = j then a else if a = j then b else j) < n := fun j hj => by
    split
    · exact ha
    · split
      · exact hb
      · exact hj
  refine ⟨by simp [P.len], fun i hi => by rw [e]; exact P.lt _ (l i hi), fun i j hi hj h => ?_⟩
  rw [e, e] at h
  have q := P.inj _ _ (l i hi) (l j hj) h
  split at q <;> split at q <;> first
    | omega
    | (split at q <;> first
      | omega
      | (split at q <;> omega))
theorem IsP.range (n : Nat) : IsP n (List.range n) := by
  have e : ∀ i, i < n → (List.range n).getD i 0 = i := fun i hi => by simp [hi]
  exact ⟨by simp, fun i hi => by rw [e i hi]; exact hi, fun i j hi hj h => by rw [e i hi, e j hj] at h; exact h⟩
def Canon (L : List Nat) : Prop := ∀ j, j < L.length → L.getD j 0 ≤ j ∧ L.getD (L.getD j 0) 0 = L.getD j 0
theorem ext_getD {L M : List Nat} (l : L.length = M.length) (h : ∀ i, i < L.length → L.getD i 0 = M.getD i 0) : L = M := by
  apply List.ext_getElem l
  intro i h1 h2
  have := h i h1
  rwa [getD_get h1, getD_get h2] at this
theorem range_D {n i : Nat} (hi : i < n) : (List.range n).getD i 0 = i := by simp [hi]
theorem range_canon (n : Nat) : Canon (List.range n) := fun i hi => by
  rw [List.length_range] at hi
  rw [range_D hi, range_D hi]; exact ⟨Nat.le_refl _, rfl⟩
theorem range_eq {n : Nat} {f : Nat → Nat} {i j : Nat} (hi : i < n) (hj : j < n) (h : (List.range n).getD i 0 = (List.range n).getD j 0) : f i = f j := by
  rw [range_D hi, range_D hj] at h; rw [h]
/-- one merge -/
def mrg (L : List Nat) (a b : Nat) : List Nat := L.map fun c => if c = (if L.getD b 0 > L.getD a 0 then L.getD b 0 else L.getD a 0) then (if L.getD b 0 < L.getD a 0 then L.getD b 0 else L.getD a 0) else c
def cnt (L : List Nat) : Nat := ((List.range L.length).filter fun i => L.getD i 0 == i).length
section
variable {L : List Nat} {a b n : Nat}
theorem mrg_len : (mrg L a b).length = L.length := by simp [mrg]
theorem mrg_at {i : Nat} (hi : i < L.length) : (mrg L a b).getD i 0 = if L.getD i 0 = (if L.getD b 0 > L.getD a 0 then L.getD b 0 else L.getD a 0) then (if L.getD b 0 < L.getD a 0 then L.getD b 0 else L.getD a 0) else L.getD i 0 := by
  unfold mrg; rw [map_getD (d := 0) hi]
theorem mrg_lh : ∃ lo hi, lo ≤ hi ∧ ((lo = L.getD a 0 ∧ hi = L.getD b 0) ∨ (lo = L.getD b 0 ∧ hi = L.getD a 0)) ∧ ∀ i, i < L.length → (mrg L a b).getD i 0 = if L.getD i 0 = hi then lo else L.getD i 0 := by
  by_cases q : L.getD b 0 < L.getD a 0
  · refine ⟨L.getD b 0, L.getD a 0, by omega, .inr ⟨rfl, rfl⟩, fun i hi => ?_⟩
    rw [mrg_at hi, if_neg (show ¬ L.getD b 0 > L.getD a 0 by omega), if_pos q]
  · refine ⟨L.getD a 0, L.getD b 0, by omega, .inl ⟨rfl, rfl⟩, fun i hi => ?_⟩
    rw [mrg_at hi, if_neg q]
    by_cases q2 : L.getD b 0 > L.getD a 0
    · rw [if_pos q2]
    · rw [if_neg q2]
      have : L.getD a 0 = L.getD b 0 := by omega
      rw [this]
theorem mrg_same (h : L.getD a 0 = L.getD b 0) : mrg L a b = L := ext_getD mrg_len fun i hi => by
  rw [mrg_len] at hi
  obtain ⟨lo, up, h1, h2, h3⟩ := mrg_lh (L := L) (a := a) (b := b)
  rw [h3 i hi]
  split <;> omega
theorem mrg_canon (C : Canon L) (ha : a < L.length) (hb : b < L.length) : Canon (mrg L a b) := fun i hi => by
  rw [mrg_len] at hi
  have ci := C i hi
  have ca := C a ha
  have cb := C b hb
  obtain ⟨lo, up, h1, h2, h3⟩ := mrg_lh (L := L) (a := a) (b := b)
  have hl : lo < L.length ∧ L.getD lo 0 = lo := by
    rcases h2 with ⟨rfl, _⟩ | ⟨rfl, _⟩
    · exact ⟨by omega, ca.2⟩
    · exact ⟨by omega, cb.2⟩
  rw [h3 i hi]
  by_cases q : L.getD i 0 = up
  · rw [if_pos q, h3 _ hl.1, hl.2]
    refine ⟨by omega, ?_⟩
    split <;> rfl
  · rw [if_neg q, h3 _ (by omega), ci.2, if_neg q]
    exact ⟨ci.1, rfl⟩
/-- what a merge relates -/
theorem mrg_eq {i j : Nat} (hi : i < L.length) (hj : j < L.length) (h : (mrg L a b).getD i 0 = (mrg L a b).getD j 0) :
    L.getD i 0 = L.getD j 0 ∨ (L.getD i 0 = L.getD a 0 ∧ L.getD j 0 = L.getD b 0) ∨ (L.getD i 0 = L.getD b 0 ∧ L.getD j 0 = L.getD a 0) := by
  obtain ⟨lo, up, h1, h2, h3⟩ := mrg_lh (L := L) (a := a) (b := b)
  rw [h3 i hi, h3 j hj] at h
  split at h <;> split at h <;> omega
theorem mrg_keep {i j : Nat} (hi : i < L.length) (hj : j < L.length) (h : L.getD i 0 = L.getD j 0) : (mrg L a b).getD i 0 = (mrg L a b).getD j 0 := by
  rw [mrg_at hi, mrg_at hj, h]
theorem mrg_do (ha : a < L.length) (hb : b < L.length) : (mrg L a b).getD a 0 = (mrg L a b).getD b 0 := by
  obtain ⟨lo, up, h1, h2, h3⟩ := mrg_lh (L := L) (a := a) (b := b)
  rw [h3 a ha, h3 b hb]
  split <;> split <;> omega
theorem cnt_le : cnt L ≤ L.length := Nat.le_trans (List.length_filter_le _ _) (by simp)
theorem cnt_pos (C : Canon L) (h : 1 ≤ L.length) : 1 ≤ cnt L := by
  have := C 0 (by omega)
  exact List.length_pos_of_mem (a := 0) (List.mem_filter.mpr ⟨List.mem_range.mpr (by omega), by simp only [beq_iff_eq]; omega⟩)
/-- a merge of two classes leaves fewer -/
theorem mrg_cnt (C : Canon L) (ha : a < L.length) (hb : b < L.length) (h : L.getD a 0 ≠ L.getD b 0) : cnt (mrg L a b) + 1 ≤ cnt L := by
  have ca := C a ha
  have cb := C b hb
  obtain ⟨lo, M, h1', h2', h3⟩ := mrg_lh (L := L) (a := a) (b := b)
  have hMl : M < L.length := by omega
  have hMM : L.getD M 0 = M := by rcases h2' with ⟨_, e⟩ | ⟨_, e⟩ <;> rw [e] <;> omega
  have hMm : (mrg L a b).getD M 0 ≠ M := by
    rw [h3 M hMl, if_pos hMM]
    omega
  have := sub_length (l1 := M :: ((List.range (mrg L a b).length).filter fun i => (mrg L a b).getD i 0 == i)) (l2 := (List.range L.length).filter fun i => L.getD i 0 == i)
    (List.nodup_cons.mpr ⟨fun hm => hMm (by simpa using (List.mem_filter.mp hm).2), List.Pairwise.filter _ List.nodup_range⟩) fun x hx => by
      rcases List.mem_cons.mp hx with rfl | hx
      · exact List.mem_filter.mpr ⟨List.mem_range.mpr hMl, by simpa using hMM⟩
      · obtain ⟨h1, h2⟩ := List.mem_filter.mp hx
        rw [List.mem_range, mrg_len] at h1
        rw [beq_iff_eq] at h2
        refine List.mem_filter.mpr ⟨List.mem_range.mpr h1, ?_⟩
        rw [beq_iff_eq]
        rw [h3 x h1] at h2
        have cx := C x h1
        have ra := C a ha
        split at h2
        · rename_i e
          have lx : L.getD lo 0 = lo := by rcases h2' with ⟨e, _⟩ | ⟨e, _⟩ <;> rw [e] <;> omega
          rw [h2] at lx
          exact lx
        · exact h2
  rw [List.length_cons] at this
  exact this
end
/-! a perm meets each point; inverses are one -/
theorem IsP.surj {n : Nat} {p : List Nat} (P : IsP n p) {y : Nat} (hy : y < n) : ∃ i, i < n ∧ p.getD i 0 = y := by
  apply Classical.byContradiction
  intro no
  have nd : ((List.range n).map fun i => p.getD i 0).Nodup := by
    show List.Pairwise _ _
    rw [List.pairwise_map]
    exact List.nodup_range.imp_of_mem fun {a b} ha hb ne e => ne (P.inj a b (List.mem_range.mp ha) (List.mem_range.mp hb) e)
  have l := sub_length nd (l2 := (List.range n).erase y) fun x hx => by
    obtain ⟨i, hi, rfl⟩ := List.mem_map.mp hx
    rw [List.mem_range] at hi
    exact (List.mem_erase_of_ne fun e => no ⟨i, hi, e⟩).mpr (List.mem_range.mpr (P.lt i hi))
  rw [List.length_erase_of_mem (List.mem_range.mpr hy)] at l
  simp at l
  omega
def Inv (n : Nat) (p q : List Nat) : Prop := q.length = n ∧ ∀ i, i < n → q.getD (p.getD i 0) 0 = i
theorem Inv.uniq {n : Nat} {p q q' : List Nat} (P : IsP n p) (a : Inv n p q) (b : Inv n p q') : q = q' := ext_getD (by rw [a.1, b.1]) fun y hy => by
  obtain ⟨i, hi, rfl⟩ := P.surj (y := y) (by rw [← a.1]; exact hy)
  rw [a.2 i hi, b.2 i hi]
theorem Inv.isP {n : Nat} {p q : List Nat} (P : IsP n p) (a : Inv n p q) : IsP n q :=
  ⟨a.1, fun y hy => by
    obtain ⟨i, hi, rfl⟩ := P.surj hy
    rw [a.2 i hi]; exact hi, fun y z hy hz h => by
    obtain ⟨i, hi, rfl⟩ := P.surj hy
    obtain ⟨j, hj, rfl⟩ := P.surj hz
    rw [a.2 i hi, a.2 j hj] at h
    rw [h]⟩
theorem Inv.back {n : Nat} {p q : List Nat} (P : IsP n p) (a : Inv n p q) {y : Nat} (hy : y < n) : p.getD (q.getD y 0) 0 = y := by
  obtain ⟨i, hi, rfl⟩ := P.surj hy
  rw [a.2 i hi]
/-! [f x y for x in xs for y in ys], nothing else changes -/
theorem lcI_map {β : Type} {ψ : β → D} {k : Nat} {te : EM} {e0 : AE} {h1 : AH} (f : β → D) {ds : List D} : ∀ (r : List β) (i : Nat) (acc : List D), ds.drop i = r.map ψ → acc.length + r.length ≤ sizeLine →
    (∀ y ∈ r, ∀ acc, te (e0.set k (some (ψ y))) (h1 ++ [.lst acc]) = .ok (f y) (h1 ++ [.lst acc])) →
    lcI (stat ds) (gVar k) (eC (.bl true)) te e0 h1.length (r.length + 1) i (h1 ++ [.lst acc]) = some (h1 ++ [.lst (acc ++ r.map f)])
  | [], i, acc, hd, _, _ => by
    have hi : ds[i]? = none := by
      have q : ds.length - i = 0 := by simpa using congrArg List.length hd
      have : ds.length ≤ i := by omega
      exact List.getElem?_eq_none_iff.mpr this
    unfold lcI
    simp [stat, hi]
  | y :: r, i, acc, hd, hl, hf => by
    obtain ⟨hi, hr⟩ := drop_cons (show ds.drop i = ψ y :: r.map ψ from hd)
    rw [List.length_cons] at hl ⊢
    have ih := lcI_map (ψ := ψ) (k := k) (te := te) (e0 := e0) (h1 := h1) f (ds := ds) r (i + 1) (acc ++ [f y]) hr (by simp; omega) fun y hy => hf y (List.mem_cons_of_mem _ hy)
    unfold lcI
    have ap : app1 h1.length (f y) (h1 ++ [.lst acc]) = some (h1 ++ [.lst (acc ++ [f y])]) := by
      unfold app1
      rw [getLast_app]
      dsimp only
      rw [if_pos (show FitsL acc.length from (by omega : acc.length < sizeLine))]
      simp
    simp only [stat, hi, gVar_, eC_, hf y List.mem_cons_self acc, ap]
    simp only [stat] at ih
    rw [ih, List.map_cons, List.append_assoc]; rfl
theorem lcO_map {α β : Type} {φ : α → D} {ψ : β → D} {k k1 : Nat} {mi1 : IM} {te : EM} {vs1 : List Nat} {e0 : AE} {h1 : AH} (ys : α → List β) (f : α → β → D) {ds : List D} : ∀ (r : List α) (i : Nat) (acc : List D), ds.drop i = r.map φ → acc.length + (r.flatMap fun x => (ys x).map (f x)).length ≤ sizeLine →
    (∀ x ∈ r, ∀ acc, mi1 (e0.set k (some (φ x))) (h1 ++ [.lst acc]) = .ok (stat ((ys x).map ψ)) (h1 ++ [.lst acc])) →
    (∀ x ∈ r, ∀ y ∈ ys x, ∀ acc, te ((wipeE (e0.set k (some (φ x))) vs1).set k1 (some (ψ y))) (h1 ++ [.lst acc]) = .ok (f x y) (h1 ++ [.lst acc])) →
    lcO (stat ds) (gVar k) (eC (.bl true)) mi1 (gVar k1) (eC (.bl true)) te vs1 e0 h1.length (r.length + 1) i (h1 ++ [.lst acc]) = some (h1 ++ [.lst (acc ++ r.flatMap fun x => (ys x).map (f x))])
  | [], i, acc, hd, _, _, _ => by
    have hi : ds[i]? = none := by
      have q : ds.length - i = 0 := by simpa using congrArg List.length hd
      have : ds.length ≤ i := by omega
      exact List.getElem?_eq_none_iff.mpr this
    unfold lcO
    simp [stat, hi]
  | x :: r, i, acc, hd, hl, hm, hf => by
    obtain ⟨hi, hr⟩ := drop_cons (show ds.drop i = φ x :: r.map φ from hd)
    rw [List.flatMap_cons, List.length_append, List.length_map] at hl
    rw [List.length_cons]
    have ih := lcO_map (φ := φ) (ψ := ψ) (k := k) (k1 := k1) (mi1 := mi1) (te := te) (vs1 := vs1) (e0 := e0) (h1 := h1) ys f (ds := ds) r (i + 1) (acc ++ (ys x).map (f x)) hr (by simp at hl ⊢; omega) (fun y hy => hm y (List.mem_cons_of_mem _ hy)) fun y hy => hf y (List.mem_cons_of_mem _ hy)
    have ii := lcI_map (ψ := ψ) (k := k1) (te := te) (e0 := wipeE (e0.set k (some (φ x))) vs1) (h1 := h1) (f x) (ds := (ys x).map ψ) (ys x) 0 acc rfl (by omega) (hf x List.mem_cons_self)
    unfold lcO
    simp only [stat, hi, gVar_, eC_, hm x List.mem_cons_self acc]
    have hn : ((ys x).map ψ).length = (ys x).length := by simp
    simp only [stat, hn] at ii ⊢
    rw [ii]
    dsimp only
    simp only [stat] at ih
    rw [ih, List.flatMap_cons, List.append_assoc]
theorem eLc2_map {α β : Type} {φ : α → D} {ψ : β → D} {k k1 : Nat} {mi mi1 : IM} {te : EM} {vs vs1 : List Nat} {e : AE} {h h1 : AH} (xs : List α) (ys : α → List β) (f : α → β → D) (hm : mi e h = .ok (stat (xs.map φ)) h1) (hl : (xs.flatMap fun x => (ys x).map (f x)).length ≤ sizeLine)
    (hi : ∀ x ∈ xs, ∀ acc, mi1 ((wipeE e vs).set k (some (φ x))) (h1 ++ [.lst acc]) = .ok (stat ((ys x).map ψ)) (h1 ++ [.lst acc]))
    (hf : ∀ x ∈ xs, ∀ y ∈ ys x, ∀ acc, te ((wipeE ((wipeE e vs).set k (some (φ x))) vs1).set k1 (some (ψ y))) (h1 ++ [.lst acc]) = .ok (f x y) (h1 ++ [.lst acc])) :
    eLc2 mi (gVar k) (eC (.bl true)) mi1 (gVar k1) (eC (.bl true)) te vs vs1 e h = .ok (.ref h1.length) (h1 ++ [.lst (xs.flatMap fun x => (ys x).map (f x))]) := by
  unfold eLc2
  rw [hm]
  have := lcO_map (φ := φ) (ψ := ψ) (k := k) (k1 := k1) (mi1 := mi1) (te := te) (vs1 := vs1) (e0 := wipeE e vs) (h1 := h1) ys f (ds := xs.map φ) xs 0 [] rfl (by simpa using hl) hi hf
  have hn : (stat (xs.map φ)).n = xs.length := by simp [stat]
  simp only [hn, this, List.nil_append]
end Rf

set_option maxHeartbeats 1000000
/-! Dicts whose keys are numbers 0, 1, ..; sorted of numbers; what a deep list leaves. -/
namespace Rf
open PySem L2
section
variable {α : Type} {f : α → D} {ks : List (Nat × α)} {y z : Nat} {a : α}
def encK (f : α → D) (ks : List (Nat × α)) : List (Key × D) := ks.map fun p => (.inl (p.1 : Int), f p.2)
def lk (ks : List (Nat × α)) (y : Nat) : Option α := (ks.find? fun p => p.1 == y).map (·.2)
def stK (ks : List (Nat × α)) (y : Nat) (a : α) : List (Nat × α) := if (ks.any fun p => p.1 == y) = true then ks.map (fun p => if p.1 = y then (p.1, a) else p) else ks ++ [(y, a)]
theorem inl_eq {y z : Nat} : ((Sum.inl (y : Int) : Key) = Sum.inl (z : Int)) ↔ y = z := by
  constructor
  · intro h; have := Sum.inl.inj h; omega
  · rintro rfl; rfl
theorem encK_len : (encK f ks).length = ks.length := by simp [encK]
theorem valD_enc : valD (encK f ks) (.inl (y : Int)) = (lk ks y).map f := by
  unfold valD lk encK
  induction ks with
  | nil => rfl
  | cons p ks ih =>
    rw [List.map_cons]
    by_cases h : p.1 = y
    · rw [List.find?_cons_of_pos (by simp [inl_eq, h]), List.find?_cons_of_pos (by simpa using h)]; rfl
    · rw [List.find?_cons_of_neg (by simp only [decide_eq_true_eq, inl_eq]; exact h), List.find?_cons_of_neg (by simpa using h)]; exact ih
theorem any_enc : ((encK f ks).any fun kv => decide (kv.1 = .inl (y : Int))) = ks.any fun p => p.1 == y := by
  unfold encK
  rw [List.any_map]
  congr 1
  funext p
  by_cases h : p.1 = y
  · simp [Function.comp, h]
  · have : ¬ ((Sum.inl (p.1 : Int) : Key) = Sum.inl (y : Int)) := fun e => h (inl_eq.mp e)
    simp [Function.comp, h, this]
theorem setD_enc : setD (encK f ks) (.inl (y : Int)) (f a) = encK f (stK ks y a) := by
  unfold setD stK
  rw [any_enc]
  by_cases q : (ks.any fun p => p.1 == y) = true
  · rw [if_pos q, if_pos q]
    unfold encK
    rw [List.map_map, List.map_map]
    apply List.map_congr_left
    intro p _
    by_cases h : p.1 = y
    · simp [Function.comp, h]
    · have : ¬ ((Sum.inl (p.1 : Int) : Key) = Sum.inl (y : Int)) := fun e => h (inl_eq.mp e)
      simp [Function.comp, h, this]
  · rw [if_neg q, if_neg q]
    unfold encK
    rw [List.map_append]; rfl
theorem lk_none : lk ks y = none ↔ y ∉ ks.map (·.1) := by
  unfold lk
  rw [Option.map_eq_none_iff, List.find?_eq_none]
  constructor
  · intro h m
    obtain ⟨p, hp, e⟩ := List.mem_map.mp m
    exact h p hp (by simpa using e)
  · intro h p hp e
    exact h (List.mem_map.mpr ⟨p, hp, by simpa using e⟩)
theorem lk_some_mem (h : lk ks y = some a) : y ∈ ks.map (·.1) := by
  apply Classical.byContradiction
  intro q
  rw [lk_none.mpr q] at h
  cases h
theorem lk_stK : lk (stK ks y a) z = if z = y then some a else lk ks z := by
  unfold stK
  by_cases q : (ks.any fun p => p.1 == y) = true
  · rw [if_pos q]
    induction ks with
    | nil => simp at q
    | cons p ks ih =>
      unfold lk at *
      rw [List.map_cons]
      by_cases h : p.1 = y
      · rw [if_pos h]
        by_cases hz : z = y
        · rw [List.find?_cons_of_pos (by simp [h, hz]), if_pos hz]; rfl
        · rw [List.find?_cons_of_neg (by simp [h]; exact fun e => hz e.symm), if_neg hz, List.find?_cons_of_neg (by simp [h]; exact fun e => hz e.symm)]
          by_cases q2 : (ks.any fun p => p.1 == y) = true
          · rw [ih q2, if_neg hz]
          · congr 1
            have : ks.map (fun p => if p.1 = y then (p.1, a) else p) = ks := by
              rw [List.map_congr_left (g := id), List.map_id]
              intro p' hp'
              have : ¬ p'.1 = y := fun e => q2 (List.any_eq_true.mpr ⟨p', hp', by simpa using e⟩)
              simp [this]
            rw [this]
      · rw [if_neg h]
        have q2 : (ks.any fun p => p.1 == y) = true := by simpa [h] using q
        by_cases hz : p.1 = z
        · rw [List.find?_cons_of_pos (by simpa using hz), List.find?_cons_of_pos (by simpa using hz), if_neg (fun e => h (by rw [hz, e]))]
        · rw [List.find?_cons_of_neg (by simpa using hz), List.find?_cons_of_neg (by simpa using hz)]
          exact ih q2
  · rw [if_neg q]
    have nf : ks.find? (fun p => p.1 == y) = none := by
      rw [List.find?_eq_none]
      intro p hp e
      exact q (List.any_eq_true.mpr ⟨p, hp, e⟩)
    unfold lk
    rw [List.find?_append]
    by_cases hz : z = y
    · subst hz; rw [nf, if_pos rfl]; simp
    · rw [if_neg hz]
      have : [(y, a)].find? (fun p => p.1 == z) = none := by simp; exact fun e => hz e.symm
      rw [this, Option.or_none]
theorem keys_stK : (stK ks y a).map (·.1) = if y ∈ ks.map (·.1) then ks.map (·.1) else ks.map (·.1) ++ [y] := by
  unfold stK
  by_cases q : (ks.any fun p => p.1 == y) = true
  · rw [if_pos q, if_pos (by
      obtain ⟨p, hp, e⟩ := List.any_eq_true.mp q
      exact List.mem_map.mpr ⟨p, hp, by simpa using e⟩), List.map_map]
    apply List.map_congr_left
    intro p _
    by_cases h : p.1 = y <;> simp [Function.comp, h]
  · rw [if_neg q, if_neg (fun m => q (by
      obtain ⟨p, hp, e⟩ := List.mem_map.mp m
      exact List.any_eq_true.mpr ⟨p, hp, by simpa using e⟩)), List.map_append]; rfl
theorem keys_nodup (h : (ks.map (·.1)).Nodup) : ((stK ks y a).map (·.1)).Nodup := by
  rw [keys_stK]
  split
  · exact h
  · rename_i q
    exact List.nodup_append.mpr ⟨h, by simp, fun u hu v hv => by rw [List.mem_singleton] at hv; subst hv; exact fun e => q (e ▸ hu)⟩
theorem keysI_enc : keysI (encK f ks) = some ((ks.map (·.1)).map fun x : Nat => (x : Int)) := by
  unfold encK
  induction ks with
  | nil => rfl
  | cons p ks ih =>
    rw [List.map_cons, keysI, ih]; rfl
end
theorem IsP.nodup {n : Nat} {p : List Nat} (P : IsP n p) : p.Nodup := by
  show List.Pairwise _ _
  rw [List.pairwise_iff_getElem]
  intro i j hi hj lt e
  have := P.inj i j (by rw [← P.len]; exact hi) (by rw [← P.len]; exact hj) (by rw [getD_get hi, getD_get hj]; exact e)
  omega
/-- a perm made from 0, 1, .. by sending the points of S to points of S -/
theorem patchP {n m : Nat} {img : List Nat} (l : img.length = n) (S T : Nat → Nat) (hS : ∀ a, a < m → S a < n) (iS : ∀ a b, a < m → b < m → S a = S b → a = b) (iT : ∀ a b, a < m → b < m → T a = T b → a = b) (TS : ∀ a, a < m → ∃ b, b < m ∧ T a = S b)
    (h1 : ∀ a, a < m → img.getD (S a) 0 = T a) (h2 : ∀ x, x < n → (∀ a, a < m → S a ≠ x) → img.getD x 0 = x) : IsP n img := by
  refine ⟨l, fun x hx => ?_, fun x y hx hy e => ?_⟩
  · by_cases q : ∃ a, a < m ∧ S a = x
    · obtain ⟨a, ha, rfl⟩ := q
      rw [h1 a ha]
      obtain ⟨b, hb, e⟩ := TS a ha
      rw [e]; exact hS b hb
    · rw [h2 x hx fun a ha e => q ⟨a, ha, e⟩]; exact hx
  · by_cases q : ∃ a, a < m ∧ S a = x
    · obtain ⟨a, ha, rfl⟩ := q
      rw [h1 a ha] at e
      by_cases q2 : ∃ b, b < m ∧ S b = y
      · obtain ⟨b, hb, rfl⟩ := q2
        rw [h1 b hb] at e
        rw [iT a b ha hb e]
      · rw [h2 y hy fun a ha e => q2 ⟨a, ha, e⟩] at e
        obtain ⟨b, hb, e'⟩ := TS a ha
        exact absurd ⟨b, hb, by rw [← e', e]⟩ q2
    · rw [h2 x hx fun a ha e => q ⟨a, ha, e⟩] at e
      by_cases q2 : ∃ b, b < m ∧ S b = y
      · obtain ⟨b, hb, rfl⟩ := q2
        rw [h1 b hb] at e
        obtain ⟨c, hc, e'⟩ := TS b hb
        exact absurd ⟨c, hc, by rw [← e', e]⟩ q
      · rw [h2 y hy fun a ha e => q2 ⟨a, ha, e⟩] at e
        exact e
theorem dN_ints (L : List Nat) : L.map dN = (L.map fun x : Nat => (x : Int)).map D.int := by rw [List.map_map]; rfl
/-- sorted of numbers -/
theorem natSort (ks : List Nat) : ∃ L : List Nat, L.Perm ks ∧ L.Pairwise (· ≤ ·) ∧ (intSort (ks.map fun x : Nat => (x : Int))).map D.int = L.map dN := by
  have p := List.mergeSort_perm ks (fun a b => decide (a ≤ b))
  have u : (ks.mergeSort fun a b => decide (a ≤ b)).Pairwise (· ≤ ·) := by
    have := List.pairwise_mergeSort (le := fun a b : Nat => decide (a ≤ b)) (fun a b c h1 h2 => by simp at *; omega) (fun a b => by simp; omega) ks
    exact this.imp fun h => by simpa using h
  refine ⟨_, p, u, ?_⟩
  rw [dN_ints]
  congr 1
  refine (intSort_eq (p.map _) ?_).symm
  rw [List.pairwise_map]
  exact u.imp fun h => by omega
theorem gc_deep {h h' : AH} {i : Nat} {o : AO} (e : h'[i]? = some o) (f : o.flat = false) : gc h (.ok (.ref i) h') = .ok (.ref i) h' := by
  unfold gc
  dsimp only
  split
  · rw [if_neg (by unfold D.pure; exact Bool.false_ne_true), if_neg]
    rintro ⟨_, o', e', f'⟩
    rw [e] at e'
    cases e'
    rw [f] at f'
    cases f'
  · rfl
@[simp] theorem eChain_ (g g' : D → D → AH → ER) (a b c : EM) (env : AE) (h : AH) : eChain g g' a b c env h = (a env h).then fun d1 h1 => (b env h1).then fun d2 h2 => (g d1 d2 h2).then fun z h3 => onE z ((c env h3).then fun d3 h4 => g' d2 d3 h4) (.ok (.bl false) h3) := by
  unfold eChain onE
  rfl
@[simp] theorem oLt_tupN (u v : List Nat) (h : AH) : oLt (.tup (u.map dN)) (.tup (v.map dN)) h = .ok (.bl (HT.lexLt (u.map fun x : Nat => (x : Int)) (v.map fun x : Nat => (x : Int)))) h := by
  rw [dN_ints, dN_ints]
  simp only [oLt, intsOf_map]
theorem sqR {a b : SM} {e e1 : AE} {h h1 : AH} {R : D → AH → Prop} (ha : a e h = .nx e1 h1) (hb : ∃ d h', b e1 h1 = .rt d h' ∧ R d h') : ∃ d h', sSeq a b e h = .rt d h' ∧ R d h' := by
  obtain ⟨d, h', q, r⟩ := hb
  exact ⟨d, h', by rw [sSeq_, ha]; exact q, r⟩
theorem sqX {a b : SM} {e : AE} {h : AH} {R : D → AH → Prop} (ha : ∃ d h', a e h = .rt d h' ∧ R d h') : ∃ d h', sSeq a b e h = .rt d h' ∧ R d h' := by
  obtain ⟨d, h', q, r⟩ := ha
  exact ⟨d, h', by rw [sSeq_, q]; rfl, r⟩
end Rf

set_option maxHeartbeats 1000000
/-! What perms reach, orbits; the order of rows (first written for k09). -/
namespace Rf
open PySem L2
/-! ### what the perms reach -/
inductive Rch (ps : List (List Nat)) (s : Nat) : Nat → Prop
  | refl : Rch ps s s
  | step {x : Nat} {p : List Nat} : Rch ps s x → p ∈ ps → Rch ps s (p.getD x 0)
abbrev Ps (n : Nat) (ps : List (List Nat)) : Prop := ∀ p ∈ ps, IsP n p
theorem Rch.lt {n : Nat} {ps : List (List Nat)} (P : Ps n ps) {s x : Nat} (hs : s < n) (r : Rch ps s x) : x < n := by
  induction r with
  | refl => exact hs
  | step _ hp ih => exact (P _ hp).lt _ ih
theorem Rch.trans {ps : List (List Nat)} {s x y : Nat} (r : Rch ps s x) (q : Rch ps x y) : Rch ps s y := by
  induction q with
  | refl => exact r
  | step _ hp ih => exact .step ih hp
theorem Rch.mono {ps qs : List (List Nat)} {s x : Nat} (r : Rch ps s x) (h : ∀ p ∈ ps, p ∈ qs) : Rch qs s x := by
  induction r with
  | refl => exact .refl
  | step _ hp ih => exact .step ih (h _ hp)
open Classical in
theorem Rch.back {n : Nat} {p : List Nat} (P : IsP n p) {x : Nat} (hx : x < n) : Rch [p] (p.getD x 0) x := by
  apply Classical.byContradiction
  intro no
  have Pp : Ps n [p] := fun q hq => by rw [List.mem_singleton] at hq; subst hq; exact P
  have key : ∀ y, Rch [p] x y → Rch [p] (p.getD x 0) (p.getD y 0) := fun y r => by
    induction r with
    | refl => exact .refl
    | step _ hp ih => rw [List.mem_singleton] at hp; subst hp; exact .step ih (by simp)
  let S := (List.range n).filter fun y => decide (Rch [p] x y)
  have mS : ∀ y, y ∈ S ↔ y < n ∧ Rch [p] x y := fun y => by simp [S]
  let I := S.map fun y => p.getD y 0
  have ndS : S.Nodup := List.Pairwise.filter _ List.nodup_range
  have ndI : I.Nodup := by
    show (S.map fun y => p.getD y 0).Pairwise (· ≠ ·)
    rw [List.pairwise_map]
    exact ndS.imp_of_mem fun {a b} ha hb hab e => hab (P.inj a b ((mS a).mp ha).1 ((mS b).mp hb).1 e)
  have hxS : x ∈ S := (mS x).mpr ⟨hx, .refl⟩
  have sub : ∀ z ∈ I, z ∈ S.erase x := fun z hz => by
    obtain ⟨y, hy, rfl⟩ := List.mem_map.mp hz
    obtain ⟨yn, ry⟩ := (mS y).mp hy
    have r1 := key y ry
    have ne : p.getD y 0 ≠ x := fun e => no (by rw [e] at r1; exact r1)
    exact (List.mem_erase_of_ne ne).mpr ((mS _).mpr ⟨P.lt _ yn, .step ry (by simp)⟩)
  have l := sub_length ndI sub
  rw [List.length_erase_of_mem hxS, List.length_map] at l
  have := List.length_pos_of_mem hxS
  omega
theorem Rch.symm {n : Nat} {ps : List (List Nat)} (P : Ps n ps) {s x : Nat} (hs : s < n) (r : Rch ps s x) : Rch ps x s := by
  induction r with
  | refl => exact .refl
  | step r1 hp ih =>
    exact (Rch.mono (Rch.back (P _ hp) (r1.lt P hs)) fun q hq => by rw [List.mem_singleton] at hq; subst hq; exact hp).trans ih
/-! the orbit, in order -/
open Classical in
noncomputable def orb (ps : List (List Nat)) (n s : Nat) : List Nat := (List.range n).filter fun y => decide (Rch ps s y)
theorem mem_orb {ps : List (List Nat)} {n s y : Nat} : y ∈ orb ps n s ↔ y < n ∧ Rch ps s y := by simp [orb]
theorem orb_eq {ps : List (List Nat)} {n s : Nat} (P : Ps n ps) (hs : s < n) {t : Nat} (r : Rch ps s t) : orb ps n t = orb ps n s := by
  unfold orb
  apply List.filter_congr
  intro y hy
  rw [decide_eq_decide]
  exact ⟨fun q => r.trans q, fun q => (r.symm P hs).trans q⟩
/-- the first point of its orbit -/
def Hd (ps : List (List Nat)) (x : Nat) : Prop := ∀ z, z < x → ¬ Rch ps z x
open Classical in
noncomputable def heads (ps : List (List Nat)) (n k : Nat) : List Nat := (List.range k).filter fun x => decide (Hd ps x)
noncomputable def orbs (ps : List (List Nat)) (n k : Nat) : List (List Nat) := (heads ps n k).map (orb ps n)
open Classical in
theorem orbs_succ {ps : List (List Nat)} {n k : Nat} : orbs ps n (k + 1) = if Hd ps k then orbs ps n k ++ [orb ps n k] else orbs ps n k := by
  unfold orbs heads
  rw [List.range_succ, List.filter_append, List.map_append]
  by_cases h : Hd ps k
  · rw [if_pos h, List.filter_cons, if_pos (decide_eq_true h)]; rfl
  · rw [if_neg h, List.filter_cons, if_neg (by simpa using h)]; simp
theorem orbs_le {ps : List (List Nat)} {n k : Nat} : (orbs ps n k).length ≤ k := by
  unfold orbs heads
  rw [List.length_map]
  exact Nat.le_trans (List.length_filter_le _ _) (by simp)
open Classical in
/-- one orbit alone -/
theorem orbs_one {ps : List (List Nat)} {n : Nat} (P : Ps n ps) (hn : 1 ≤ n) : ((orbs ps n n).length = 1) ↔ (orb ps n 0).length = n := by
  obtain ⟨m, rfl⟩ : ∃ m, n = m + 1 := ⟨n - 1, by omega⟩
  have h0 : heads ps (m + 1) (m + 1) = 0 :: ((List.range m).map Nat.succ).filter fun x => decide (Hd ps x) := by
    unfold heads
    rw [List.range_succ_eq_map, List.filter_cons, if_pos (decide_eq_true (show Hd ps 0 from fun z hz => absurd hz (by omega)))]
  have e1 : (orbs ps (m + 1) (m + 1)).length = 1 ↔ ∀ x, 0 < x → x < m + 1 → ∃ z, z < x ∧ Rch ps z x := by
    unfold orbs
    rw [List.length_map, h0, List.length_cons]
    constructor
    · intro h x hx hxn
      have e : (((List.range m).map Nat.succ).filter fun x => decide (Hd ps x)) = [] := List.eq_nil_of_length_eq_zero (by omega)
      rw [List.filter_eq_nil_iff] at e
      have := e x (List.mem_map.mpr ⟨x - 1, by rw [List.mem_range]; omega, by omega⟩)
      rw [decide_eq_true_eq] at this
      apply Classical.byContradiction
      exact fun no => this fun z hz r => no ⟨z, hz, r⟩
    · intro h
      have e : (((List.range m).map Nat.succ).filter fun x => decide (Hd ps x)) = [] := by
        rw [List.filter_eq_nil_iff]
        intro x mx
        rw [decide_eq_true_eq]
        obtain ⟨y, hy, rfl⟩ := List.mem_map.mp mx
        rw [List.mem_range] at hy
        obtain ⟨z, hz, r⟩ := h (y + 1) (by omega) (by omega)
        exact fun q => q z hz r
      rw [e]; rfl
  have e2 : (orb ps (m + 1) 0).length = m + 1 ↔ ∀ x, x < m + 1 → Rch ps 0 x := by
    unfold orb
    constructor
    · intro h x hx
      have e := List.length_filter_eq_length_iff.mp (show _ = (List.range (m + 1)).length by rw [List.length_range]; exact h)
      simpa using e x (by simpa using hx)
    · intro h
      rw [List.filter_eq_self.mpr (fun x hx => by simpa using h x (by simpa using hx)), List.length_range]
  rw [e1, e2]
  constructor
  · intro h x
    induction x using Nat.strongRecOn with
    | _ x ih =>
      intro hx
      by_cases h0 : x = 0
      · subst h0; exact .refl
      · obtain ⟨z, hz, r⟩ := h x (by omega) hx
        exact (ih z hz (by omega)).trans r
  · intro h x h0 hx
    exact ⟨0, h0, h x hx⟩
/-! a line that holds all that is reached -/
theorem line_orb {ps : List (List Nat)} {n s : Nat} {L : List Nat} (hs : s ∈ L) (hn : ∀ x ∈ L, x < n) (cl : ∀ x ∈ L, ∀ p ∈ ps, p.getD x 0 ∈ L) (rc : ∀ x ∈ L, Rch ps s x) (nd : L.Nodup) : L.Perm (orb ps n s) := by
  refine (List.perm_ext_iff_of_nodup nd (by unfold orb; exact List.Pairwise.filter _ List.nodup_range)).mpr fun x => ?_
  rw [mem_orb]
  refine ⟨fun hx => ⟨hn x hx, rc x hx⟩, fun q => ?_⟩
  have r := q.2
  clear q
  induction r with
  | refl => exact hs
  | step _ hp ih => exact cl _ ih _ hp
/-! ### words, their order -/
def lx : List Nat → List Nat → Prop
  | x :: xs, y :: ys => x < y ∨ (x = y ∧ lx xs ys)
  | _, _ => False
theorem lx_irr : ∀ a : List Nat, ¬ lx a a
  | [], h => h.elim
  | x :: xs, h => by
    rcases h with h | ⟨_, h⟩
    · omega
    · exact lx_irr xs h
theorem lx_trans : ∀ {a b c : List Nat}, lx a b → lx b c → lx a c
  | x :: xs, y :: ys, z :: zs, h1, h2 => by
    rcases h1 with h1 | ⟨rfl, h1⟩
    · rcases h2 with h2 | ⟨rfl, h2⟩
      · exact .inl (by omega)
      · exact .inl h1
    · rcases h2 with h2 | ⟨rfl, h2⟩
      · exact .inl h2
      · exact .inr ⟨rfl, lx_trans h1 h2⟩
  | [], _, _, h, _ => h.elim
  | _ :: _, [], _, h, _ => h.elim
  | _ :: _, _ :: _, [], _, h => h.elim
theorem lx_tot : ∀ {a b : List Nat}, a.length = b.length → a = b ∨ lx a b ∨ lx b a
  | [], [], _ => .inl rfl
  | x :: xs, y :: ys, h => by
    rcases Nat.lt_trichotomy x y with l | rfl | l
    · exact .inr (.inl (.inl l))
    · rcases lx_tot (a := xs) (b := ys) (by simpa using h) with rfl | l | l
      · exact .inl rfl
      · exact .inr (.inl (.inr ⟨rfl, l⟩))
      · exact .inr (.inr (.inr ⟨rfl, l⟩))
    · exact .inr (.inr (.inl l))
  | [], _ :: _, h => by cases h
  | _ :: _, [], h => by cases h
theorem lx_snoc : ∀ {a b : List Nat} {k j : Nat}, a.length = b.length → (lx (a ++ [k]) (b ++ [j]) ↔ lx a b ∨ (a = b ∧ k < j))
  | [], [], k, j, _ => by simp [lx]
  | x :: xs, y :: ys, k, j, h => by
    have ih := lx_snoc (a := xs) (b := ys) (k := k) (j := j) (by simpa using h)
    simp only [List.cons_append, lx, ih, List.cons.injEq]
    constructor
    · rintro (q | ⟨rfl, q | ⟨rfl, q⟩⟩)
      · exact .inl (.inl q)
      · exact .inl (.inr ⟨rfl, q⟩)
      · exact .inr ⟨⟨rfl, rfl⟩, q⟩
    · rintro ((q | ⟨rfl, q⟩) | ⟨⟨rfl, rfl⟩, q⟩)
      · exact .inl q
      · exact .inr ⟨rfl, .inl q⟩
      · exact .inr ⟨rfl, .inr ⟨rfl, q⟩⟩
  | [], _ :: _, _, _, h => by cases h
  | _ :: _, [], _, _, h => by cases h
theorem lx_least {Q : List Nat → Prop} : ∀ (l : Nat), (∃ c, c.length = l ∧ Q c) → ∃ c, (c.length = l ∧ Q c) ∧ ∀ c', c'.length = l → Q c' → c = c' ∨ lx c c'
  | 0, ⟨c, hc, q⟩ => ⟨c, ⟨hc, q⟩, fun c' h' _ => .inl (by rw [List.eq_nil_of_length_eq_zero hc, List.eq_nil_of_length_eq_zero h'])⟩
  | l + 1, ⟨c, hc, q⟩ => by
    have ex : ∃ k, ∃ t : List Nat, t.length = l ∧ Q (k :: t) := by
      cases c with
      | nil => cases hc
      | cons k t => exact ⟨k, t, by simpa using hc, q⟩
    obtain ⟨k, pk, mk⟩ := min_ex ex
    obtain ⟨t, ⟨lt, qt⟩, mt⟩ := lx_least (Q := fun t => Q (k :: t)) l pk
    refine ⟨k :: t, ⟨by simp [lt], qt⟩, fun c' h' q' => ?_⟩
    cases c' with
    | nil => cases h'
    | cons k' t' =>
      have l' : t'.length = l := by simpa using h'
      have := mk k' ⟨t', l', q'⟩
      by_cases e : k = k'
      · subst e
        rcases mt t' l' q' with rfl | z
        · exact .inl rfl
        · exact .inr (.inr ⟨rfl, z⟩)
      · exact .inr (.inl (by omega))
end Rf

set_option maxHeartbeats 1000000
/-! Cycles of a perm. -/
namespace Rf
open PySem L2
abbrev ap (f : List Nat) (x : Nat) : Nat := f.getD x 0
/-- a path from x along f -/
structure Pa (f : List Nat) (x : Nat) (c : List Nat) : Prop where
  pos : 0 < c.length
  hd : c.getD 0 0 = x
  nx : ∀ k, k + 1 < c.length → f.getD (c.getD k 0) 0 = c.getD (k + 1) 0
  nd : c.Nodup
/-- a whole cycle -/
structure Cy (f : List Nat) (x : Nat) (c : List Nat) : Prop extends Pa f x c where
  cl : f.getD (c.getD (c.length - 1) 0) 0 = x
section
variable {n x : Nat} {f c : List Nat}
theorem one_P {f : List Nat} (P : IsP n f) : Ps n [f] := fun q hq => by rw [List.mem_singleton] at hq; subst hq; exact P
theorem rch_one {y : Nat} (r : Rch [f] x y) : Rch [f] x (f.getD y 0) := .step r (by simp)
theorem Pa.one : Pa f x [x] := ⟨by simp, rfl, fun k hk => absurd hk (by simp), by simp⟩
theorem Pa.rch (A : Pa f x c) : ∀ k, k < c.length → Rch [f] x (c.getD k 0)
  | 0, _ => by rw [A.hd]; exact .refl
  | k + 1, h => by rw [← A.nx k h]; exact rch_one (A.rch k (by omega))
theorem Pa.lt (P : IsP n f) (hx : x < n) (A : Pa f x c) : ∀ y ∈ c, y < n := fun y hy => by
  obtain ⟨k, hk, rfl⟩ := mem_getD (d := 0) hy
  exact (A.rch k hk).lt (one_P P) hx
theorem Pa.len (P : IsP n f) (hx : x < n) (A : Pa f x c) : c.length ≤ n := by
  have := sub_length A.nd (l2 := List.range n) fun y hy => List.mem_range.mpr (A.lt P hx y hy)
  simpa using this
theorem Pa.push (P : IsP n f) (hx : x < n) (A : Pa f x c) (h : f.getD (c.getD (c.length - 1) 0) 0 ≠ x) : Pa f x (c ++ [f.getD (c.getD (c.length - 1) 0) 0]) := by
  have p := A.pos
  refine ⟨by simp, by rw [getD_app, if_neg (by omega)]; exact A.hd, fun k hk => ?_, ?_⟩
  · rw [List.length_append, List.length_singleton] at hk
    rw [getD_app, if_neg (by omega), getD_app]
    by_cases e : k + 1 = c.length
    · rw [if_pos e]; congr 2; omega
    · rw [if_neg e]; exact A.nx k (by omega)
  · refine List.nodup_append.mpr ⟨A.nd, by simp, fun a ha b hb => ?_⟩
    rw [List.mem_singleton] at hb
    subst hb
    rintro rfl
    obtain ⟨k, hk, e⟩ := mem_getD (d := 0) ha
    have ll := A.lt P hx _ (getD_mem (d := 0) (show c.length - 1 < c.length by omega))
    cases k with
    | zero => rw [A.hd] at e; exact h e.symm
    | succ k =>
      rw [← A.nx k hk] at e
      have lk := A.lt P hx _ (getD_mem (d := 0) (show k < c.length by omega))
      have := nodup_getD A.nd (by omega) (by omega) (P.inj _ _ lk ll e)
      omega
theorem Cy.ex (P : IsP n f) (hx : x < n) : ∃ c, Cy f x c := by
  have key : ∀ m c, Pa f x c → n - c.length = m → ∃ c, Cy f x c := by
    intro m
    induction m with
    | zero =>
      intro c A e
      have l := A.len P hx
      by_cases q : f.getD (c.getD (c.length - 1) 0) 0 = x
      · exact ⟨c, A, q⟩
      · have := (A.push P hx q).len P hx
        simp at this; omega
    | succ m ih =>
      intro c A e
      by_cases q : f.getD (c.getD (c.length - 1) 0) 0 = x
      · exact ⟨c, A, q⟩
      · exact ih _ (A.push P hx q) (by simp; omega)
  exact key _ _ Pa.one rfl
theorem Cy.nxt (C : Cy f x c) {k : Nat} (hk : k < c.length) : f.getD (c.getD k 0) 0 = c.getD (if k + 1 < c.length then k + 1 else 0) 0 := by
  by_cases q : k + 1 < c.length
  · rw [if_pos q]; exact C.nx k q
  · rw [if_neg q, C.hd, ← C.cl]; congr 2; omega
theorem Cy.mem (C : Cy f x c) {y : Nat} : y ∈ c ↔ Rch [f] x y := by
  constructor
  · intro hy
    obtain ⟨k, hk, rfl⟩ := mem_getD (d := 0) hy
    exact C.toPa.rch k hk
  · intro r
    induction r with
    | refl => rw [← C.hd]; exact getD_mem C.pos
    | step _ hp ih =>
      rw [List.mem_singleton] at hp
      subst hp
      obtain ⟨k, hk, e⟩ := mem_getD (d := 0) ih
      rw [← e, C.nxt hk]
      refine getD_mem ?_
      split
      · assumption
      · exact C.pos
theorem Cy.perm (P : IsP n f) (hx : x < n) (C : Cy f x c) : c.Perm (orb [f] n x) := by
  refine (List.perm_ext_iff_of_nodup C.nd (by unfold orb; exact List.Pairwise.filter _ List.nodup_range)).mpr fun y => ?_
  rw [mem_orb, C.mem]
  exact ⟨fun r => ⟨r.lt (one_P P) hx, r⟩, fun q => q.2⟩
noncomputable def len (f : List Nat) (n x : Nat) : Nat := (orb [f] n x).length
theorem Cy.len (P : IsP n f) (hx : x < n) (C : Cy f x c) : c.length = Rf.len f n x := (C.perm P hx).length_eq
theorem len_pos (P : IsP n f) (hx : x < n) : 1 ≤ len f n x := by
  obtain ⟨c, C⟩ := Cy.ex P hx
  rw [← C.len P hx]; exact C.pos
theorem len_le : len f n x ≤ n := by unfold len orb; exact Nat.le_trans (List.length_filter_le _ _) (by simp)
theorem len_eq (P : IsP n f) (hx : x < n) {y : Nat} (r : Rch [f] x y) : len f n y = len f n x := by unfold len; rw [orb_eq (one_P P) hx r]
theorem Cy.uniq (P : IsP n f) (hx : x < n) {d : List Nat} (C : Cy f x c) (E : Cy f x d) : c = d := by
  have l : c.length = d.length := by rw [C.len P hx, E.len P hx]
  refine ext_getD l fun k => ?_
  induction k with
  | zero => intro _; rw [C.hd, E.hd]
  | succ k ih => intro hk; rw [← C.nx k hk, ← E.nx k (by omega), ih (by omega)]
open Classical in
noncomputable def cyc (f : List Nat) (x : Nat) : List Nat := if h : ∃ c, Cy f x c then Classical.choose h else []
theorem cyc_cy (P : IsP n f) (hx : x < n) : Cy f x (cyc f x) := by
  unfold cyc
  rw [dif_pos (Cy.ex P hx)]
  exact Classical.choose_spec (Cy.ex P hx)
theorem cyc_eq (P : IsP n f) (hx : x < n) (C : Cy f x c) : cyc f x = c := (cyc_cy P hx).uniq P hx C
/-! how many points, how many cycles of a length -/
noncomputable def cntL (f : List Nat) (n s : Nat) : Nat := ((List.range n).filter fun x => len f n x == s).length
noncomputable def lens (f : List Nat) (n : Nat) : List Nat := (heads [f] n n).map (len f n)
theorem mem_heads {ps : List (List Nat)} {k : Nat} : x ∈ heads ps n k ↔ x < k ∧ Hd ps x := by
  unfold heads
  rw [List.mem_filter, List.mem_range]
  exact and_congr_right fun _ => @decide_eq_true_iff _ (Classical.propDecidable _)
theorem heads_nodup {ps : List (List Nat)} {k : Nat} : (heads ps n k).Nodup := by unfold heads; exact List.Pairwise.filter _ List.nodup_range
/-- each point lies in the orbit of one head -/
theorem head_ex {ps : List (List Nat)} (P : Ps n ps) (hx : x < n) : ∃ z, z ≤ x ∧ Hd ps z ∧ Rch ps z x := by
  obtain ⟨z, ⟨hz, r⟩, m⟩ := min_ex (P := fun z => z < n ∧ Rch ps z x) ⟨x, hx, .refl⟩
  refine ⟨z, m x ⟨hx, .refl⟩, fun y hy r2 => ?_, r⟩
  have := m y ⟨by omega, r2.trans r⟩
  omega
theorem flat_perm {ps : List (List Nat)} (P : Ps n ps) : ((heads ps n n).flatMap (orb ps n)).Perm (List.range n) := by
  refine (List.perm_ext_iff_of_nodup ?_ List.nodup_range).mpr fun y => ?_
  · show List.Pairwise _ _
    rw [List.pairwise_flatMap]
    refine ⟨fun a _ => by unfold orb; exact List.Pairwise.filter _ List.nodup_range, ?_⟩
    refine (heads_nodup (ps := ps) (n := n) (k := n)).imp_of_mem fun {a b} ha hb ne u hu v hv e => ?_
    subst e
    obtain ⟨an, ha⟩ := mem_heads.mp ha
    obtain ⟨bn, hb⟩ := mem_heads.mp hb
    have r1 := (mem_orb.mp hu).2
    have r2 := (mem_orb.mp hv).2
    have r3 := r1.trans (r2.symm P bn)
    have r4 := r2.trans (r1.symm P an)
    rcases Nat.lt_trichotomy a b with q | q | q
    · exact hb a q r3
    · exact ne q
    · exact ha b q r4
  · rw [List.mem_flatMap, List.mem_range]
    constructor
    · rintro ⟨a, _, h⟩; exact (mem_orb.mp h).1
    · intro hy
      obtain ⟨z, hz, h, r⟩ := head_ex P hy
      exact ⟨z, mem_heads.mpr ⟨by omega, h⟩, mem_orb.mpr ⟨hy, r⟩⟩
theorem filter_flat (P : IsP n f) (s : Nat) : ∀ hs : List Nat, (∀ x ∈ hs, x < n) → ((hs.flatMap (orb [f] n)).filter fun x => len f n x == s).length = s * ((hs.map (len f n)).filter (· == s)).length
  | [], _ => by simp
  | x :: hs, h => by
    have hx := h x List.mem_cons_self
    rw [List.flatMap_cons, List.filter_append, List.length_append, filter_flat P s hs fun y hy => h y (List.mem_cons_of_mem _ hy), List.map_cons, List.filter_cons]
    have all : ∀ y ∈ orb [f] n x, len f n y = len f n x := fun y hy => len_eq P hx (mem_orb.mp hy).2
    by_cases e : len f n x = s
    · rw [List.filter_eq_self.mpr fun y hy => by rw [all y hy, e]; simp, if_pos (by simp [e]), List.length_cons, Nat.mul_add, Nat.mul_one]
      have : (orb [f] n x).length = s := e
      omega
    · rw [List.filter_eq_nil_iff.mpr fun y hy => by rw [all y hy]; simpa using e, if_neg (by simpa using e)]
      simp
theorem cnt_hd (P : IsP n f) (s : Nat) : cntL f n s = s * ((lens f n).filter (· == s)).length := by
  unfold cntL lens
  rw [← filter_flat P s _ fun x hx => (mem_heads.mp hx).1]
  exact ((flat_perm (one_P P)).filter _).length_eq.symm
theorem lens_pos (P : IsP n f) : ∀ s ∈ lens f n, 1 ≤ s := fun s hs => by
  obtain ⟨x, hx, rfl⟩ := List.mem_map.mp hs
  exact len_pos P (mem_heads.mp hx).1
theorem lens_iff {g : List Nat} (P : IsP n f) (Q : IsP n g) : (lens f n).Perm (lens g n) ↔ ∀ s, cntL f n s = cntL g n s := by
  constructor
  · intro p s
    rw [cnt_hd P, cnt_hd Q, (p.filter _).length_eq]
  · intro h
    rw [List.perm_iff_count]
    intro s
    rw [show List.count s (lens f n) = ((lens f n).filter (· == s)).length from List.countP_eq_length_filter, show List.count s (lens g n) = ((lens g n).filter (· == s)).length from List.countP_eq_length_filter]
    by_cases s0 : s = 0
    · have z : ∀ l : List Nat, (∀ s ∈ l, 1 ≤ s) → l.filter (· == s) = [] := fun l hl => List.filter_eq_nil_iff.mpr fun x hx => by
        have := hl x hx
        simp; omega
      rw [z _ (lens_pos P), z _ (lens_pos Q)]
    · have := h s
      rw [cnt_hd P, cnt_hd Q] at this
      exact Nat.eq_of_mul_eq_mul_left (by omega) this
end
end Rf

set_option maxHeartbeats 1000000
/-! More to reckon with: the last item, rows compared, index, pop(i), extend. -/
namespace Rf
open PySem L2
theorem ixD_last {ds : List D} (hp : 0 < ds.length) (h : AH) : ixD ds (-1) h = .ok (ds.getD (ds.length - 1) .non) h := by
  have e : L2.atI ds (-1) = some (ds.getD (ds.length - 1) .non) := by
    unfold L2.atI L2.ixN
    rw [if_neg (by omega), if_pos (by omega)]
    have : ((-1 : Int) + (ds.length : Int)).toNat = ds.length - 1 := by omega
    rw [Option.bind_some, this]
    exact getD_some (by omega)
  simp [ixD, e]
theorem ixD_last_N {xs : List Nat} (hp : 0 < xs.length) (h : AH) : ixD (xs.map dN) (-1) h = .ok (dN (xs.getD (xs.length - 1) 0)) h := by
  rw [ixD_last (by simpa using hp), List.length_map, map_getD (d := 0) (by omega)]
theorem mapM_toP' {us : List Nat} {h : AH} {k : Nat} : (us.map dN).mapM (D.toP h (k + 1)) = some (us.map fun u : Nat => PyData.int (u : Int)) := mapM_toP
theorem toP_tupN {us : List Nat} {h : AH} : (D.tup (us.map dN)).toP h 20 = some (.tuple (us.map fun u : Nat => PyData.int (u : Int))) := by
  unfold D.toP
  show ((us.map dN).mapM (D.toP h 19)).map PyData.tuple = _
  rw [mapM_toP]; rfl
theorem oEq_tupN {us vs : List Nat} {h : AH} : oEq (.tup (us.map dN)) (.tup (vs.map dN)) h = .ok (.bl (decide (us = vs))) h := by
  unfold oEq
  rw [toP_tupN, toP_tupN]
  simp only [PyData.eqv, eqvAll_N]
theorem oNe_tupN {us vs : List Nat} {h : AH} : oNe (.tup (us.map dN)) (.tup (vs.map dN)) h = .ok (.bl (!decide (us = vs))) h := by
  unfold oNe
  rw [toP_tupN, toP_tupN]
  simp only [PyData.eqv, eqvAll_N]
theorem oNe_L {us vs : List Nat} {h : AH} {r q : Nat} (hr : h[r]? = some (.lst (us.map dN))) (hq : h[q]? = some (.lst (vs.map dN))) : oNe (.ref r) (.ref q) h = .ok (.bl (!decide (us = vs))) h := by
  unfold oNe
  rw [toP_list hr, toP_list hq]
  simp only [PyData.eqv, eqvAll_N]
theorem firstAt_N {v : Nat} : ∀ {us : List Nat} {j : Nat}, j < us.length → us.getD j 0 = v → (∀ k, k < j → us.getD k 0 ≠ v) → firstAt (.int (v : Int)) (us.map fun u : Nat => PyData.int (u : Int)) = some j
  | [], j, h, _, _ => absurd h (by simp)
  | u :: us, 0, _, e, _ => by
    have e : u = v := e
    subst e
    rw [List.map_cons, firstAt, eqv_int]; simp
  | u :: us, j + 1, h, e, n => by
    have n0 : u ≠ v := n 0 (by omega)
    have ih := firstAt_N (v := v) (us := us) (j := j) (by simpa using h) e fun k hk => n (k + 1) (by omega)
    rw [List.map_cons, firstAt, eqv_int, ih]
    have : ((u : Int) == (v : Int)) = false := by rw [beq_nat]; simpa using n0
    rw [this]; rfl
theorem mIndex_N {us : List Nat} {h : AH} {r j v : Nat} (hr : h[r]? = some (.lst (us.map dN))) (hj : j < us.length) (e : us.getD j 0 = v) (n : ∀ k, k < j → us.getD k 0 ≠ v) : mIndex (.ref r) [.int (v : Int)] h = .ok (dN j) h := by
  unfold mIndex
  dsimp only
  rw [toP_list hr, show (D.int (v : Int)).toP h 20 = some (.int v) from rfl]
  dsimp only
  rw [firstAt_N hj e n]
theorem eraseIdx_map' {α β : Type} {f : α → β} : ∀ {l : List α} {i : Nat}, (l.map f).eraseIdx i = (l.eraseIdx i).map f
  | [], _ => rfl
  | a :: l, 0 => rfl
  | a :: l, i + 1 => by rw [List.map_cons, List.eraseIdx_cons_succ, List.eraseIdx_cons_succ, eraseIdx_map', List.map_cons]
theorem mPopAt_N {us : List Nat} {h : AH} {r j : Nat} (hr : h[r]? = some (.lst (us.map dN))) (hj : j < us.length) (hl : us.length ≤ 1000000) : mPopAt (.ref r) [.int (j : Int)] h = .ok (dN (us.getD j 0)) (h.set r (.lst ((us.eraseIdx j).map dN))) := by
  unfold mPopAt
  dsimp only
  rw [hr]
  dsimp only
  rw [ixN_nat (by simpa using hj)]
  dsimp only
  rw [List.getElem?_map, getD_some (a := 0) hj]
  dsimp only [Option.map]
  rw [if_pos (show Fits (us.map dN).length from fits (by simp; omega)), eraseIdx_map']
theorem mExtend_L {xs ys : List D} {h : AH} {r q : Nat} (hr : h[r]? = some (.lst xs)) (hq : h[q]? = some (.lst ys)) (hl : xs.length + ys.length ≤ 1000000) : mExtend (.ref r) [.ref q] h = .ok .non (h.set r (.lst (xs ++ ys))) := by
  unfold mExtend
  dsimp only
  rw [hr, hq]
  dsimp only
  rw [if_pos (fits (by omega))]
def dC (c : List Nat) : D := .tup (c.map dN)
/-! ### the points known -/
def kn (n : Nat) (L : List Nat) : List D := (List.range n).map fun x => D.bl (decide (x ∈ L))
theorem kn_nil (n : Nat) : List.replicate n (D.bl false) = kn n [] := by
  unfold kn
  simp [List.map_const']
theorem kn_len {n : Nat} {L : List Nat} : (kn n L).length = n := by simp [kn]
theorem kn_at {n x : Nat} {L : List Nat} (hx : x < n) (h : AH) : ixD (kn n L) (x : Int) h = .ok (.bl (decide (x ∈ L))) h := by
  unfold kn
  exact ixD_map (f := fun x => D.bl (decide (x ∈ L))) (List.getElem?_range hx)
theorem kn_set {n x : Nat} {L : List Nat} (hx : x < n) : (kn n L).set x (.bl true) = kn n (L ++ [x]) := by
  apply List.ext_getElem?
  intro j
  by_cases hj : j < n
  · unfold kn
    by_cases e : x = j
    · subst e
      rw [List.getElem?_set_self (by simpa using hx), List.getElem?_map, List.getElem?_range hx]
      simp
    · rw [List.getElem?_set_ne e, List.getElem?_map, List.getElem?_map, List.getElem?_range hj]
      have : ¬ j = x := fun h => e h.symm
      simp [this]
  · rw [List.getElem?_eq_none (by rw [List.length_set, kn_len]; omega), List.getElem?_eq_none (by rw [kn_len]; omega)]
theorem kn_put {n x : Nat} {L : List Nat} {r : Nat} {h : AH} (hx : x < n) : putO (some (.lst (kn n L))) r (x : Int) (.bl true) h = some (h.set r (.lst (kn n (L ++ [x])))) := by
  rw [putO_nat (by rw [kn_len]; exact hx), kn_set hx]
open Classical in
/-- the points known behind the first k -/
noncomputable def knO (ps : List (List Nat)) (n k : Nat) : List Nat := (List.range n).filter fun y => decide (∃ z, z < k ∧ Rch ps z y)
theorem kn_ext {n : Nat} {L M : List Nat} (h : ∀ x, x < n → (x ∈ L ↔ x ∈ M)) : kn n L = kn n M := by
  unfold kn
  apply List.map_congr_left
  intro x hx
  rw [List.mem_range] at hx
  simp [h x hx]
theorem mem_knO {ps : List (List Nat)} {n k x : Nat} : x ∈ knO ps n k ↔ x < n ∧ ∃ z, z < k ∧ Rch ps z x := by simp [knO]
theorem notIn2_tup {us : List Nat} {h : AH} {k : Nat} : oNotIn2 (.int (k : Int)) (.tup (us.map dN)) h = .ok (.bl (!us.contains k)) h := by
  unfold oNotIn2
  rw [toP_tupN, show (D.int (k : Int)).toP h 20 = some (.int k) from rfl]
  simp only [any_N]
theorem in2_tup {us : List Nat} {h : AH} {k : Nat} : oIn2 (.int (k : Int)) (.tup (us.map dN)) h = .ok (.bl (us.contains k)) h := by
  unfold oIn2
  rw [toP_tupN, show (D.int (k : Int)).toP h 20 = some (.int k) from rfl]
  simp only [any_N]
theorem notIn2_L {us : List Nat} {h : AH} {r k : Nat} (hr : h[r]? = some (.lst (us.map dN))) : oNotIn2 (.int (k : Int)) (.ref r) h = .ok (.bl (!us.contains k)) h := by
  unfold oNotIn2
  rw [toP_list hr, show (D.int (k : Int)).toP h 20 = some (.int k) from rfl]
  simp only [any_N]
end Rf

set_option maxHeartbeats 1000000
namespace Law
open Rf
/-! ### perms that carry f to g -/
structure Car (f g : List Nat) (n : Nat) (r : List Nat) : Prop where
  P : IsP n r
  car : ∀ x, x < n → g.getD (r.getD x 0) 0 = r.getD (f.getD x 0) 0
section
variable {f g r h : List Nat} {n : Nat}
theorem Car.cy (P : IsP n f) (Q : IsP n g) (C : Car f g n r) {x : Nat} (hx : x < n) {c : List Nat} (E : Cy f x c) : Cy g (r.getD x 0) (c.map fun y => r.getD y 0) := by
  have lt := E.toPa.lt P hx
  have m : ∀ k, k < c.length → (c.map fun y => r.getD y 0).getD k 0 = r.getD (c.getD k 0) 0 := fun k hk => map_getD hk
  have p := E.pos
  refine ⟨⟨by simpa using p, by rw [m 0 p, E.hd], fun k hk => ?_, ?_⟩, ?_⟩
  · rw [List.length_map] at hk
    rw [m k (by omega), m (k + 1) hk, C.car _ (lt _ (getD_mem (by omega))), E.nx k hk]
  · show List.Pairwise _ _
    rw [List.pairwise_map]
    exact E.nd.imp_of_mem fun {a b} ha hb ne e => ne (C.P.inj a b (lt a ha) (lt b hb) e)
  · rw [List.length_map, m _ (by omega), C.car _ (lt _ (getD_mem (by omega))), E.cl]
theorem Car.len (P : IsP n f) (Q : IsP n g) (C : Car f g n r) {x : Nat} (hx : x < n) : Rf.len g n (r.getD x 0) = Rf.len f n x := by
  obtain ⟨c, E⟩ := Cy.ex P hx
  have := (C.cy P Q hx E).len Q (C.P.lt x hx)
  rw [← this, List.length_map, E.len P hx]
theorem Car.rch (P : IsP n f) (Q : IsP n g) (C : Car f g n r) {x y : Nat} (hx : x < n) (q : Rch [f] x y) : Rch [g] (r.getD x 0) (r.getD y 0) := by
  induction q with
  | refl => exact .refl
  | step q1 hp ih =>
    rw [List.mem_singleton] at hp
    subst hp
    rw [← C.car _ (q1.lt (one_P P) hx)]
    exact rch_one ih
theorem Car.cnt (P : IsP n f) (Q : IsP n g) (C : Car f g n r) (s : Nat) : cntL f n s = cntL g n s := by
  have pm : ((List.range n).map fun x => r.getD x 0).Perm (List.range n) := by
    refine (List.perm_ext_iff_of_nodup ?_ List.nodup_range).mpr fun y => ?_
    · show List.Pairwise _ _
      rw [List.pairwise_map]
      exact List.nodup_range.imp_of_mem fun {a b} ha hb ne e => ne (C.P.inj a b (List.mem_range.mp ha) (List.mem_range.mp hb) e)
    · rw [List.mem_range]
      constructor
      · intro h
        obtain ⟨x, hx, rfl⟩ := List.mem_map.mp h
        exact C.P.lt x (List.mem_range.mp hx)
      · intro hy
        obtain ⟨x, hx, e⟩ := C.P.surj hy
        exact List.mem_map.mpr ⟨x, List.mem_range.mpr hx, e⟩
  have := (pm.filter (fun y => Rf.len g n y == s)).length_eq
  unfold cntL
  rw [← this, List.filter_map, List.length_map]
  congr 1
  apply List.filter_congr
  intro x hx
  show _ = (Rf.len g n (r.getD x 0) == s)
  rw [C.len P Q (List.mem_range.mp hx)]
/-- the first difference decides -/
theorem lx_first : ∀ {a b : List Nat} {i : Nat}, a.length = b.length → i < a.length → (∀ j, j < i → a.getD j 0 = b.getD j 0) → a.getD i 0 < b.getD i 0 → lx a b
  | [], _, _, _, h, _, _ => absurd h (by simp)
  | x :: a, [], _, l, _, _, _ => by cases l
  | x :: a, y :: b, 0, _, _, _, h => .inl h
  | x :: a, y :: b, i + 1, l, hi, e, h => .inr ⟨e 0 (by omega), lx_first (by simpa using l) (by simpa using hi) (fun j hj => e (j + 1) (by omega)) h⟩
theorem diff_ex {a b : List Nat} (l : a.length = b.length) (ne : a ≠ b) : ∃ i, i < a.length ∧ a.getD i 0 ≠ b.getD i 0 ∧ ∀ j, j < i → a.getD j 0 = b.getD j 0 := by
  have ex : ∃ i, i < a.length ∧ a.getD i 0 ≠ b.getD i 0 := by
    apply Classical.byContradiction
    intro no
    exact ne (ext_getD l fun i hi => Classical.byContradiction fun q => no ⟨i, hi, q⟩)
  obtain ⟨i, ⟨hi, q⟩, m⟩ := min_ex ex
  exact ⟨i, hi, q, fun j hj => Classical.byContradiction fun q => by have := m j ⟨by omega, q⟩; omega⟩
/-- the matching: each cycle goes to the first place left -/
structure Mat (f g : List Nat) (n : Nat) (h : List Nat) : Prop extends Car f g n h where
  gr : ∀ i, i < n → Hd [f] i → ∀ z, z < h.getD i 0 → Rf.len g n z = Rf.len f n i → ∃ j x, j < i ∧ x < n ∧ Rch [f] j x ∧ h.getD x 0 = z
theorem Mat.least (P : IsP n f) (Q : IsP n g) (M : Mat f g n h) (C : Car f g n r) : h = r ∨ lx h r := by
  by_cases e : h = r
  · exact .inl e
  · right
    have l : h.length = r.length := by rw [M.P.len, C.P.len]
    obtain ⟨i, hi, ne, eq⟩ := diff_ex l e
    rw [M.P.len] at hi
    -- equal along the classes before
    have eqc : ∀ j x, j < i → Rch [f] j x → h.getD x 0 = r.getD x 0 := fun j x hj q => by
      have hjn : j < n := by omega
      induction q with
      | refl => exact eq j hj
      | step q1 hp ih =>
        rw [List.mem_singleton] at hp
        subst hp
        have lx := q1.lt (one_P P) hjn
        rw [← M.car _ lx, ← C.car _ lx, ih]
    have hd : Hd [f] i := fun z hz q => ne (eqc z i hz q)
    refine lx_first l (by rw [M.P.len]; exact hi) eq (Nat.lt_of_le_of_ne (Nat.le_of_not_lt fun lt => ?_) ne)
    obtain ⟨j, x, hj, hx, q, ex⟩ := M.gr i hi hd (r.getD i 0) lt (C.len P Q hi)
    rw [eqc j x hj q] at ex
    have := C.P.inj x i hx hi ex
    subst this
    exact hd j hj q
end
end Law

set_option maxHeartbeats 1000000
namespace Law
open PySem Rf L2
theorem cycle_at_spec {f : List Nat} {n x : Nat} (P : IsP n f) (hx : x < n) (hn : n ≤ 1000) {h : AH} :
    c_cycle_at [dC f, dN x] h = .ok (.ref h.length) (h ++ [.lst ((cyc f x).map dN)]) := by
  have lf := P.len
  obtain ⟨e', h', w, rfl, rfl⟩ := while_ix (c := wc_cycle_at_1) (b := lb_cycle_at_1)
    (fun m e h' => ∃ c, e = [some (dC f), some (dN x), some (.ref h.length)] ∧ h' = h ++ [.lst (c.map dN)] ∧ Pa f x c ∧ m = n - c.length)
    (fun e h' => e = [some (dC f), some (dN x), some (.ref h.length)] ∧ h' = h ++ [.lst ((cyc f x).map dN)])
    (by
      rintro m e h' ⟨c, rfl, rfl, A, rfl⟩
      have p := A.pos
      have l := A.len P hx
      have x1 := fun h => ixD_last_N p h
      have ll := A.lt P hx _ (getD_mem (d := 0) (show c.length - 1 < c.length by omega))
      by_cases q : f.getD (c.getD (c.length - 1) 0) 0 = x
      · rw [← cyc_eq P hx ⟨A, q⟩]
        refine .inl ⟨_, ?_, rfl, rfl⟩
        rw [cyc_eq P hx ⟨A, q⟩]
        generalize c.getD (c.length - 1) 0 = u at x1 ll q
        have x2 : ∀ h, ixD (f.map dN) (u : Int) h = .ok (dN x) h := fun h => by rw [← q]; exact ixD_N (by omega)
        simp only [dN] at x1 x2
        simp [wc_cycle_at_1, dC, x1, x2]
      · refine .inr ⟨h ++ [.lst (c.map dN)], ?_, ?_⟩
        · generalize c.getD (c.length - 1) 0 = u at x1 ll q
          have x2 : ∀ h, ixD (f.map dN) (u : Int) h = .ok (dN (f.getD u 0)) h := fun h => ixD_N (by omega)
          generalize f.getD u 0 = v at x2 q
          simp only [dN] at x1 x2
          simp [wc_cycle_at_1, dC, x1, x2, q]
        · have B := A.push P hx q
          have lB := B.len P hx
          rw [List.length_append, List.length_singleton] at lB
          refine ⟨[some (dC f), some (dN x), some (.ref h.length)], h ++ [.lst ((c ++ [f.getD (c.getD (c.length - 1) 0) 0]).map dN)], ?_, n - (c.length + 1), by omega, c ++ [f.getD (c.getD (c.length - 1) 0) 0], rfl, rfl, B, by simp⟩
          have ap : ∀ r v h, appO (some (.lst (c.map dN))) r v h = .ok .non (h.set r (.lst (c.map dN ++ [v]))) := fun r v h => appO_lst (by rw [List.length_map, sizeLine_eq]; omega)
          generalize c.getD (c.length - 1) 0 = u at x1 ll q
          have x2 : ∀ h, ixD (f.map dN) (u : Int) h = .ok (dN (f.getD u 0)) h := fun h => ixD_N (by omega)
          generalize f.getD u 0 = v at x2 q
          simp only [dN] at x1 x2
          simp [lb_cycle_at_1, dC, x1, x2, ap])
    (n - 1) [some (dC f), some (dN x), some (.ref h.length)] (h ++ [.lst [dN x]])
    ⟨[x], rfl, rfl, Pa.one, rfl⟩
  have e : c_cycle_at [dC f, dN x] h = gc h (.ok (.ref (h.length + 0)) (h ++ [.lst ((cyc f x).map dN)])) := by
    unfold c_cycle_at fsem
    simp [m_cycle_at, w]
  rw [e, gc_new (i := 0) rfl (by simp)]
/-- the cycles told, from the heads below i -/
noncomputable def cyRows (b : Bool) (f : List Nat) (n i : Nat) : List (List Nat) := ((heads [f] n i).map (cyc f)).filter fun c => b || decide (1 < c.length)
theorem heads_succ {ps : List (List Nat)} {n k : Nat} : (Hd ps k → heads ps n (k + 1) = heads ps n k ++ [k]) ∧ (¬ Hd ps k → heads ps n (k + 1) = heads ps n k) := by
  unfold heads
  rw [List.range_succ, List.filter_append]
  constructor
  · intro h
    rw [List.filter_cons, if_pos (by exact @decide_eq_true _ (Classical.propDecidable _) h)]; rfl
  · intro h
    rw [List.filter_cons, if_neg (by rw [@decide_eq_false _ (Classical.propDecidable _) h]; exact Bool.false_ne_true)]; simp
theorem cyRows_le {b : Bool} {f : List Nat} {n i : Nat} : (cyRows b f n i).length ≤ i := by
  unfold cyRows heads
  refine Nat.le_trans (List.length_filter_le _ _) ?_
  rw [List.length_map]
  exact Nat.le_trans (List.length_filter_le _ _) (by simp)
def CO (h : AH) (n : Nat) (rows : List (List Nat)) (L : List Nat) (g : AH) : AH := h ++ (.lst (rows.map dC) :: .lst (kn n L) :: g)
section
variable {h g : AH} {n : Nat} {L : List Nat} {rows : List (List Nat)}
theorem CO_0 : (CO h n rows L g)[h.length]? = some (.lst (rows.map dC)) := by unfold CO; rw [app_get0]; rfl
theorem CO_1 : (CO h n rows L g)[h.length + 1]? = some (.lst (kn n L)) := by unfold CO; rw [app_get]; rfl
theorem CO_g {i : Nat} : (CO h n rows L g)[h.length + 2 + i]? = g[i]? := by unfold CO; rw [Nat.add_assoc, app_get, show 2 + i = i + 1 + 1 by omega]; simp
theorem CO_len : (CO h n rows L g).length = h.length + 2 + g.length := by unfold CO; simp; omega
theorem CO_app (x : AH) : CO h n rows L g ++ x = CO h n rows L (g ++ x) := by unfold CO; simp
theorem CO_s0 (c : List Nat) : (CO h n rows L g).set h.length (.lst (rows.map dC ++ [dC c])) = CO h n (rows ++ [c]) L g := by
  have := app_set (h := h) (g := (.lst (rows.map dC) :: .lst (kn n L) :: g : AH)) (i := 0) (o := .lst (rows.map dC ++ [dC c])) rfl
  unfold CO
  rw [Nat.add_zero] at this
  rw [this]; simp
theorem CO_s1 (M : List Nat) : (CO h n rows L g).set (h.length + 1) (.lst (kn n M)) = CO h n rows M g := by unfold CO; rw [app_set rfl]; rfl
end
theorem lc_seen {f : List Nat} {n : Nat} (P : IsP n f) (hn : n ≤ 1000) {e1 e2 e3 e4 e5 e6 e7 : Option D} {h : AH} : lc_cycles_of_1 [some (dC f), e1, e2, e3, e4, e5, e6, e7] h = .ok (.ref h.length) (h ++ [.lst (kn n [])]) := by
  have lf := P.len
  unfold lc_cycles_of_1
  rw [eLc_map (φ := dN) f (fun _ => D.bl false) (h1 := h) (iVal_tup (by simp [dC])) (by rw [sizeLine_eq]; omega)]
  · rw [List.map_const', lf, kn_nil]
  · intro x _; simp [wipeE]
theorem cycles_of_spec {f : List Nat} {n : Nat} (P : IsP n f) (hn : n ≤ 1000) (b : Bool) {h : AH} :
    c_cycles_of [dC f, .bl b] h = .ok (.tup ((cyRows b f n n).map dC)) h := by
  have lf := P.len
  obtain ⟨e', h', w, x4, x5, x6, x7, g, rfl, rfl⟩ := loopN (k := 5) (b := lb_cycles_of_1)
    (fun i e h' => ∃ x4 x5 x6 x7 g, e = [some (dC f), some (.bl b), some (.ref h.length), some (.ref (h.length + 1)), x4, x5, x6, x7] ∧ h' = CO h n (cyRows b f n i) (knO [f] n i) g)
    n (e := [some (dC f), some (.bl b), some (.ref h.length), some (.ref (h.length + 1)), none, none, none, none]) (h := CO h n [] [] [])
    ⟨none, none, none, none, [], rfl, by
      have e1 : knO [f] n 0 = [] := by unfold knO; rw [List.filter_eq_nil_iff]; simp
      rw [e1]; rfl⟩ (by
      rintro i e h' hi ⟨x4, x5, x6, x7, g, rfl, rfl⟩
      have k1 := kn_at (L := knO [f] n i) hi
      by_cases q : i ∈ knO [f] n i
      · obtain ⟨z, hz, r⟩ := (mem_knO.mp q).2
        have e1 : cyRows b f n (i + 1) = cyRows b f n i := by unfold cyRows; rw [heads_succ.2 fun H => H z hz r]
        have e2 : kn n (knO [f] n (i + 1)) = kn n (knO [f] n i) := kn_ext fun x hx => by
          rw [mem_knO, mem_knO]
          constructor
          · rintro ⟨_, z', hz', r'⟩
            by_cases e : z' = i
            · subst e; exact ⟨hx, z, hz, r.trans r'⟩
            · exact ⟨hx, z', by omega, r'⟩
          · rintro ⟨_, z', hz', r'⟩; exact ⟨hx, z', by omega, r'⟩
        refine ⟨_, CO h n (cyRows b f n i) (knO [f] n i) g, ?_, x4, some (dN i), x6, x7, g, rfl, by rw [e1]; unfold CO; rw [e2]⟩
        rw [decide_eq_true q] at k1
        simp [lb_cycles_of_1, CO_1, k1]
      · have hd : Hd [f] i := fun z hz r => q (mem_knO.mpr ⟨hi, z, hz, r⟩)
        rw [decide_eq_false q] at k1
        have C := cyc_cy P hi
        have lc := C.toPa.lt P hi
        have ca := cycle_at_spec P hi hn (h := CO h n (cyRows b f n i) (knO [f] n i) g)
        rw [CO_app, CO_len] at ca
        obtain ⟨e', h', w, x7, rfl, rfl⟩ := liveL_inv (g := gVar 7) (b := lb_cycles_of_2) (r := h.length + 2 + g.length) (ds := (cyc f i).map dN)
          (fun j e h' => ∃ x7, e = [some (dC f), some (.bl b), some (.ref h.length), some (.ref (h.length + 1)), x4, some (dN i), some (.ref (h.length + 2 + g.length)), x7] ∧ h' = CO h n (cyRows b f n i) (knO [f] n i ++ (cyc f i).take j) (g ++ [.lst ((cyc f i).map dN)]))
          (e := [some (dC f), some (.bl b), some (.ref h.length), some (.ref (h.length + 1)), x4, some (dN i), some (.ref (h.length + 2 + g.length)), x7]) (h := CO h n (cyRows b f n i) (knO [f] n i) (g ++ [.lst ((cyc f i).map dN)]))
          (by rintro j e h' ⟨x7, rfl, rfl⟩; rw [CO_g]; simp)
          ⟨x7, rfl, by rw [List.take_zero, List.append_nil]⟩ (by
            rintro j d e h' hd' ⟨x7, rfl, rfl⟩
            have hj : j < (cyc f i).length := by have := (List.getElem?_eq_some_iff.mp hd').1; simpa using this
            obtain ⟨y, ey⟩ : ∃ y, y = (cyc f i).getD j 0 := ⟨_, rfl⟩
            obtain rfl : dN y = d := by
              rw [List.getElem?_map, getD_some (a := 0) hj, ← ey] at hd'
              exact Option.some.inj hd'
            have hy : y < n := lc y (by rw [ey]; exact getD_mem hj)
            have tk : (cyc f i).take (j + 1) = (cyc f i).take j ++ [y] := by rw [List.take_add_one, getD_some (a := 0) hj, ← ey]; rfl
            refine ⟨_, _, ?_, some (dN y), rfl, rfl⟩
            rw [tk, ← List.append_assoc]
            simp [lb_cycles_of_2, CO_1, kn_put hy, CO_s1, -List.append_assoc])
        rw [List.length_map, List.take_length] at w
        have e2 : kn n (knO [f] n (i + 1)) = kn n (knO [f] n i ++ cyc f i) := kn_ext fun x hx => by
          rw [List.mem_append, mem_knO, mem_knO, C.mem]
          constructor
          · rintro ⟨_, z', hz', r'⟩
            by_cases e : z' = i
            · subst e; exact .inr r'
            · exact .inl ⟨hx, z', by omega, r'⟩
          · rintro (⟨_, z', hz', r'⟩ | r)
            · exact ⟨hx, z', by omega, r'⟩
            · exact ⟨hx, i, by omega, r⟩
        have g1 : (CO h n (cyRows b f n i) (knO [f] n i) (g ++ [AO.lst ((cyc f i).map dN)]))[h.length + 2 + g.length]? = some (.lst ((cyc f i).map dN)) := by rw [CO_g]; simp
        have g2 : (CO h n (cyRows b f n i) (knO [f] n i ++ cyc f i) (g ++ [AO.lst ((cyc f i).map dN)]))[h.length + 2 + g.length]? = some (.lst ((cyc f i).map dN)) := by rw [CO_g]; simp
        have g0 : (CO h n (cyRows b f n i) (knO [f] n i ++ cyc f i) (g ++ [AO.lst ((cyc f i).map dN)]))[h.length]? = some (.lst ((cyRows b f n i).map dC)) := CO_0
        have gk : (CO h n (cyRows b f n i) (knO [f] n i) g)[h.length + 1]? = some (.lst (kn n (knO [f] n i))) := CO_1
        have ol := cyRows_le (b := b) (f := f) (n := n) (i := i)
        have ap : ∀ r v h, appO (some (.lst ((cyRows b f n i).map dC))) r v h = .ok .non (h.set r (.lst ((cyRows b f n i).map dC ++ [v]))) := fun r v h => appO_lst (by rw [List.length_map, sizeLine_eq]; omega)
        have s0 := CO_s0 (h := h) (n := n) (rows := cyRows b f n i) (L := knO [f] n i ++ cyc f i) (g := g ++ [AO.lst ((cyc f i).map dN)]) (cyc f i)
        by_cases q2 : (b || decide (1 < (cyc f i).length)) = true
        · have e1 : cyRows b f n (i + 1) = cyRows b f n i ++ [cyc f i] := by
            unfold cyRows
            rw [heads_succ.1 hd, List.map_append, List.filter_append]
            congr 1
            rw [List.map_cons, List.map_nil, List.filter_cons, if_pos q2]; rfl
          refine ⟨[some (dC f), some (.bl b), some (.ref h.length), some (.ref (h.length + 1)), x4, some (dN i), some (.ref (h.length + 2 + g.length)), x7], CO h n (cyRows b f n (i + 1)) (knO [f] n i ++ cyc f i) (g ++ [.lst ((cyc f i).map dN)]), ?_, x4, some (dN i), some (.ref (h.length + 2 + g.length)), x7, g ++ [.lst ((cyc f i).map dN)], rfl, by unfold CO; rw [e2]⟩
          rw [e1, ← s0]
          have lcc : ((cyc f i).map dN).length = (cyc f i).length := by simp
          generalize CO h n (cyRows b f n i) (knO [f] n i ++ cyc f i) (g ++ [AO.lst ((cyc f i).map dN)]) = H2 at *
          generalize CO h n (cyRows b f n i) (knO [f] n i) (g ++ [AO.lst ((cyc f i).map dN)]) = H1 at *
          generalize CO h n (cyRows b f n i) (knO [f] n i) g = H0 at *
          simp only [dC] at w ca ap ⊢
          cases b with
          | true => simp [lb_cycles_of_1, gk, k1, ca, g1, w, g2, g0, ap]
          | false =>
            have q3 : 1 < (cyc f i).length := by simpa using q2
            have q4 : (1 : Int) < ((cyc f i).length : Int) := by omega
            simp [lb_cycles_of_1, gk, k1, ca, g1, w, g2, g0, ap, q3, q4]
        · have e1 : cyRows b f n (i + 1) = cyRows b f n i := by
            unfold cyRows
            rw [heads_succ.1 hd, List.map_append, List.filter_append, List.map_cons, List.map_nil, List.filter_cons, if_neg q2]; simp
          refine ⟨[some (dC f), some (.bl b), some (.ref h.length), some (.ref (h.length + 1)), x4, some (dN i), some (.ref (h.length + 2 + g.length)), x7], CO h n (cyRows b f n i) (knO [f] n i ++ cyc f i) (g ++ [.lst ((cyc f i).map dN)]), ?_, x4, some (dN i), some (.ref (h.length + 2 + g.length)), x7, g ++ [.lst ((cyc f i).map dN)], rfl, by rw [e1]; unfold CO; rw [e2]⟩
          generalize CO h n (cyRows b f n i) (knO [f] n i ++ cyc f i) (g ++ [AO.lst ((cyc f i).map dN)]) = H2 at *
          generalize CO h n (cyRows b f n i) (knO [f] n i) (g ++ [AO.lst ((cyc f i).map dN)]) = H1 at *
          generalize CO h n (cyRows b f n i) (knO [f] n i) g = H0 at *
          simp only [dC] at w ca ⊢
          cases b with
          | true => simp at q2
          | false =>
            have q3 : ¬ 1 < (cyc f i).length := by simpa using q2
            have q4 : ¬ (1 : Int) < ((cyc f i).length : Int) := by omega
            simp [lb_cycles_of_1, gk, k1, ca, g1, w, g2, g0, q3, q4])
  have r1 : RgB (n : Int) := rgB_nat (by omega)
  have sn := fun e1 e2 e3 e4 e5 e6 e7 h => lc_seen P hn (e1 := e1) (e2 := e2) (e3 := e3) (e4 := e4) (e5 := e5) (e6 := e6) (e7 := e7) (h := h)
  have e : c_cycles_of [dC f, .bl b] h = gc h (.ok (.tup ((cyRows b f n n).map dC)) (CO h n (cyRows b f n n) (knO [f] n n) g)) := by
    unfold c_cycles_of fsem
    have w0 : CO h n [] [] [] = h ++ [.lst [], .lst (kn n [])] := rfl
    rw [w0] at w
    have c0 := CO_0 (h := h) (n := n) (rows := cyRows b f n n) (L := knO [f] n n) (g := g)
    generalize CO h n (cyRows b f n n) (knO [f] n n) g = H at *
    simp only [dC] at w sn ⊢
    simp [m_cycles_of, sn, lf, r1, rg_zero, w, c0]
  rw [e]
  unfold CO
  rw [gc_app (by simp; exact pures_map fun c _ => by simp [dC])]
end Law

set_option maxHeartbeats 1000000
namespace Law
open PySem Rf L2
theorem cyRows_true {f : List Nat} {n i : Nat} : cyRows true f n i = (heads [f] n i).map (cyc f) := by
  unfold cyRows
  rw [List.filter_eq_self]
  intro c _; rfl
theorem cyRows_lens {f : List Nat} {n : Nat} (P : IsP n f) : (cyRows true f n n).map List.length = lens f n := by
  rw [cyRows_true, List.map_map]
  unfold lens
  apply List.map_congr_left
  intro x hx
  have hx := (mem_heads.mp hx).1
  exact (cyc_cy P hx).len P hx
theorem down_eq {a b : List Nat} (p : a.Perm b) (u : a.Pairwise (· ≥ ·)) (v : b.Pairwise (· ≥ ·)) : a = b :=
  List.Perm.eq_of_pairwise (le := (· ≥ ·)) (fun _ _ _ _ h1 h2 => Nat.le_antisymm h2 h1) u v p
theorem cSortedR_N {ks : List Nat} {r : Nat} {h : AH} (hr : h[r]? = some (.lst (ks.map dN))) : ∃ L : List Nat, cSortedR [.ref r] [.bl true] h = .ok (.ref h.length) (h ++ [.lst (L.map dN)]) ∧ L.Perm ks ∧ L.Pairwise (· ≥ ·) := by
  obtain ⟨L, p, u, e⟩ := natSort ks
  refine ⟨L.reverse, ?_, (List.reverse_perm L).trans p, ?_⟩
  · unfold cSortedR
    dsimp only
    rw [hr]
    dsimp only
    rw [dN_ints, intsOf_map]
    dsimp only
    rw [if_pos rfl, List.map_reverse, e, List.map_reverse]
  · rw [List.pairwise_reverse]
    exact u
theorem shape_spec {f : List Nat} {n : Nat} (P : IsP n f) (hn : n ≤ 1000) {h : AH} : ∃ L : List Nat, (∀ h, c_shape_of [dC f] h = .ok (dC L) h) ∧ L.Perm (lens f n) ∧ L.Pairwise (· ≥ ·) := by
  obtain ⟨L, _, p, u⟩ := cSortedR_N (ks := lens f n) (r := 0) (h := [.lst ((lens f n).map dN)]) rfl
  refine ⟨L, fun h => ?_, p, u⟩
  have co := cycles_of_spec P hn true (h := h)
  have rl := cyRows_le (b := true) (f := f) (n := n) (i := n)
  have lc : lc_shape_of_1 [some (dC f), none] h = .ok (.ref h.length) (h ++ [.lst ((lens f n).map dN)]) := by
    unfold lc_shape_of_1
    rw [eLc_map (φ := dC) (cyRows true f n n) (fun c => dN c.length) (h1 := h) (iVal_tup (by simp [permK, co])) (by rw [sizeLine_eq]; omega)]
    · rw [← cyRows_lens P, List.map_map]; rfl
    · intro c _
      simp [wipeE, dC]
  obtain ⟨L', e1, p', u'⟩ := cSortedR_N (ks := lens f n) (r := h.length) (h := h ++ [.lst ((lens f n).map dN)]) (by simp)
  obtain rfl : L' = L := down_eq (p'.trans p.symm) u' u
  have e : c_shape_of [dC f] h = gc h (.ok (dC L') (h ++ [.lst ((lens f n).map dN), .lst (L'.map dN)])) := by
    unfold c_shape_of fsem
    have z : h ++ [.lst ((lens f n).map dN), .lst (L'.map dN)] = (h ++ [AO.lst ((lens f n).map dN)]) ++ [AO.lst (L'.map dN)] := by simp
    rw [z]
    have gl : ((h ++ [AO.lst ((lens f n).map dN)]) ++ [AO.lst (L'.map dN)])[(h ++ [AO.lst ((lens f n).map dN)]).length]? = some (.lst (L'.map dN)) := getLast_app
    generalize h ++ [AO.lst ((lens f n).map dN)] = H at *
    simp only [dC] at lc ⊢
    simp [m_shape_of, lc, eCallBK, e1, -getLast_app, gl]
  rw [e, gc_app (by simp [dC])]
noncomputable def lnL (f : List Nat) (n : Nat) : List Nat := (List.range n).map (Rf.len f n)
theorem lnL_at {f : List Nat} {n x : Nat} (hx : x < n) : (lnL f n).getD x 0 = Rf.len f n x := by
  unfold lnL
  rw [map_getD (d := 0) (by simpa using hx)]
  congr 1; simp [hx]
theorem lnL_len {f : List Nat} {n : Nat} : (lnL f n).length = n := by simp [lnL]
theorem cycle_lengths_spec {f : List Nat} {n : Nat} (P : IsP n f) (hn : n ≤ 1000) {h : AH} :
    c_cycle_lengths [dC f] h = .ok (.ref h.length) (h ++ [.lst ((lnL f n).map dN)]) := by
  have lf := P.len
  have co := fun h => cycles_of_spec P hn true (h := h)
  have rows : ∀ c ∈ cyRows true f n n, ∃ x, x < n ∧ Cy f x c := fun c hc => by
    rw [cyRows_true] at hc
    obtain ⟨x, hx, rfl⟩ := List.mem_map.mp hc
    have hx := (mem_heads.mp hx).1
    exact ⟨x, hx, cyc_cy P hx⟩
  obtain ⟨e', h', w, x2, x3, L, rfl, rfl, lL, al⟩ := loopM (φ := dC) (k := 2) (b := lb_cycle_lengths_1)
    (fun i e h' => ∃ x2 x3 L, e = [some (dC f), some (.ref (h.length + 1)), x2, x3] ∧ h' = h ++ [.lst [.int 0], .lst (L.map dN)] ∧ L.length = n ∧ ∀ c ∈ (cyRows true f n n).take i, ∀ y ∈ c, L.getD y 0 = Rf.len f n y)
    (cyRows true f n n) (e := [some (dC f), some (.ref (h.length + 1)), none, none]) (h := h ++ [.lst [.int 0], .lst ((List.replicate n 0).map dN)])
    ⟨none, none, List.replicate n 0, rfl, rfl, by simp, fun c hc => absurd hc (by simp)⟩ (by
      rintro i c e h' hc ⟨x2, x3, L, rfl, rfl, lL, al⟩
      obtain ⟨x, hx, C⟩ := rows c (List.mem_of_getElem? hc)
      have tk : (cyRows true f n n).take (i + 1) = (cyRows true f n n).take i ++ [c] := by rw [List.take_add_one, hc]; rfl
      obtain ⟨e', h', w, x3, L, rfl, rfl, lL, al, al2⟩ := loopM (φ := dN) (k := 3) (b := lb_cycle_lengths_2)
        (fun j e h' => ∃ x3 L, e = [some (dC f), some (.ref (h.length + 1)), some (dC c), x3] ∧ h' = h ++ [.lst [.int 0], .lst (L.map dN)] ∧ L.length = n ∧ (∀ c ∈ (cyRows true f n n).take i, ∀ y ∈ c, L.getD y 0 = Rf.len f n y) ∧ ∀ y ∈ c.take j, L.getD y 0 = Rf.len f n y)
        c (e := [some (dC f), some (.ref (h.length + 1)), some (dC c), x3]) (h := h ++ [.lst [.int 0], .lst (L.map dN)])
        ⟨x3, L, rfl, rfl, lL, al, fun y hy => absurd hy (by simp)⟩ (by
          rintro j y e h' hy ⟨x3, L, rfl, rfl, lL, al, al2⟩
          have my := List.mem_of_getElem? hy
          have hyn := C.toPa.lt P hx y my
          have ly : c.length = Rf.len f n y := by rw [C.len P hx, len_eq P hx (C.mem.mp my)]
          have tk : c.take (j + 1) = c.take j ++ [y] := by rw [List.take_add_one, hy]; rfl
          have pb : ∀ v r h, putO (some (.lst (L.map dN))) r (y : Int) (dN v) h = some (h.set r (.lst ((L.set y v).map dN))) := fun v r h => putO_N (by omega)
          have sb : (h ++ [AO.lst [.int 0], AO.lst (L.map dN)]).set (h.length + 1) (.lst ((L.set y c.length).map dN)) = h ++ [AO.lst [.int 0], AO.lst ((L.set y c.length).map dN)] := by rw [app_set rfl]; rfl
          have gb : (h ++ [AO.lst [.int 0], AO.lst (L.map dN)])[h.length + 1]? = some (.lst (L.map dN)) := by rw [app_get]; rfl
          refine ⟨_, _, ?_, some (dN y), L.set y c.length, rfl, rfl, by simpa using lL, fun c' hc' z hz => ?_, fun z hz => ?_⟩
          · rw [← sb]
            generalize h ++ [AO.lst [.int 0], AO.lst (L.map dN)] = H at *
            have pb' := pb c.length
            simp only [dN] at pb'
            simp [lb_cycle_lengths_2, dC, gb, pb', -List.map_set]
          · rw [getD_set (by omega)]
            split
            · rename_i e; rw [ly, e]
            · exact al c' hc' z hz
          · rw [tk] at hz
            rw [getD_set (by omega)]
            split
            · rename_i e; rw [ly, e]
            · rename_i e
              rcases List.mem_append.mp hz with hz | hz
              · exact al2 z hz
              · rw [List.mem_singleton] at hz; exact absurd hz.symm e)
      rw [List.take_length] at al2
      refine ⟨_, _, ?_, some (dC c), x3, L, rfl, rfl, lL, fun c' hc' => ?_⟩
      · generalize h ++ [AO.lst [.int 0], AO.lst (L.map dN)] = H2 at *
        simp only [dC] at w ⊢
        simp [lb_cycle_lengths_1, w]
      · rw [tk] at hc'
        rcases List.mem_append.mp hc' with q | q
        · exact al c' q
        · rw [List.mem_singleton] at q; subst q; exact al2)
  rw [List.take_length] at al
  have eL : L = lnL f n := ext_getD (by rw [lL, lnL_len]) fun y hy => by
    rw [lL] at hy
    rw [lnL_at hy]
    obtain ⟨z, hz, hd, r⟩ := head_ex (one_P P) hy
    have C := cyc_cy P (x := z) (by omega)
    exact al (cyc f z) (by rw [cyRows_true]; exact List.mem_map.mpr ⟨z, mem_heads.mpr ⟨by omega, hd⟩, rfl⟩) y (C.mem.mpr r)
  rw [eL] at w
  have r1 : RepOk 1 (n : Int) := repOk_1 (by omega)
  have e : c_cycle_lengths [dC f] h = gc h (.ok (.ref (h.length + 1)) (h ++ [.lst [.int 0], .lst ((lnL f n).map dN)])) := by
    unfold c_cycle_lengths fsem
    have w0 : (List.replicate n 0).map dN = List.replicate n (D.int 0) := by simp
    rw [w0] at w
    simp only [dC] at w co ⊢
    simp [m_cycle_lengths, co, lf, r1, w, permK]
  rw [e, gc_new (i := 1) rfl (by simp)]
end Law

set_option maxHeartbeats 1000000
namespace Law
open PySem Rf L2
theorem getDg_set {α : Type} {p : List α} {i j : Nat} {v d : α} (hi : i < p.length) : (p.set i v).getD j d = if i = j then v else p.getD j d := by
  simp only [List.getD_eq_getElem?_getD]
  by_cases h : i = j
  · subst h
    rw [List.getElem?_set_self hi, if_pos rfl]; rfl
  · rw [List.getElem?_set_ne h, if_neg h]
/-- the matching under way: the classes of the points below i are done -/
structure MS (f g : List Nat) (n i : Nat) (img : List Int) (free : List Nat) : Prop where
  li : img.length = n
  lf : free.length = n
  un : ∀ x, x < n → (img.getD x 0 = -1 ↔ ∀ j, j < i → ¬ Rch [f] j x)
  va : ∀ x, x < n → img.getD x 0 ≠ -1 → ∃ v : Nat, v < n ∧ img.getD x 0 = v ∧ Rf.len g n v = Rf.len f n x ∧ img.getD (f.getD x 0) 0 = (g.getD v 0 : Nat)
  inj : ∀ x x', x < n → x' < n → img.getD x 0 ≠ -1 → img.getD x 0 = img.getD x' 0 → x = x'
  fr : ∀ y, y < n → ((∃ x, x < n ∧ img.getD x 0 = (y : Nat)) ∧ free.getD y 0 = 0) ∨ ((∀ x, x < n → img.getD x 0 ≠ (y : Nat)) ∧ free.getD y 0 = Rf.len g n y)
  gr : ∀ j, j < i → j < n → Hd [f] j → ∀ z : Nat, z < n → (z : Int) < img.getD j 0 → Rf.len g n z = Rf.len f n j → ∃ j' x, j' < j ∧ x < n ∧ Rch [f] j' x ∧ img.getD x 0 = (z : Nat)
section
variable {f g : List Nat} {n i : Nat} {img : List Int} {free : List Nat}
theorem MS.start : MS f g n 0 (List.replicate n (-1)) (lnL g n) := by
  have e : ∀ x, x < n → (List.replicate n (-1 : Int)).getD x 0 = -1 := fun x hx => by simp [hx]
  refine ⟨by simp, lnL_len, fun x hx => ⟨fun _ j hj => absurd hj (by omega), fun _ => e x hx⟩, fun x hx h => absurd (e x hx) h, fun x x' hx _ h => absurd (e x hx) h, fun y hy => .inr ⟨fun x hx => by rw [e x hx]; omega, lnL_at hy⟩, fun j hj => absurd hj (by omega)⟩
/-- what is used is closed under g -/
theorem MS.used (P : IsP n f) (M : MS f g n i img free) {u w : Nat} (h : ∃ x, x < n ∧ img.getD x 0 = (u : Nat)) (r : Rch [g] u w) : ∃ x, x < n ∧ img.getD x 0 = (w : Nat) := by
  induction r with
  | refl => exact h
  | step _ hp ih =>
    rw [List.mem_singleton] at hp
    subst hp
    obtain ⟨x, hx, e⟩ := ih
    obtain ⟨v, _, ev, _, en⟩ := M.va x hx (by rw [e]; omega)
    rw [e] at ev
    have := Int.ofNat.inj ev
    subst this
    exact ⟨f.getD x 0, P.lt x hx, en⟩
theorem MS.find (P : IsP n f) (M : MS f g n i img free) (ct : ∀ s, cntL f n s = cntL g n s) (hi : i < n) (h : img.getD i 0 = -1) : ∃ y, (y < n ∧ free.getD y 0 = Rf.len f n i) ∧ ∀ z, z < y → free.getD z 0 ≠ Rf.len f n i := by
  have ex : ∃ y, y < n ∧ free.getD y 0 = Rf.len f n i := by
    apply Classical.byContradiction
    intro no
    have all : ∀ y, y < n → Rf.len g n y = Rf.len f n i → ∃ x, x < n ∧ img.getD x 0 = (y : Nat) := fun y hy e => by
      rcases M.fr y hy with ⟨h, _⟩ | ⟨_, h⟩
      · exact h
      · exact absurd ⟨y, hy, by rw [h, e]⟩ no
    have c := ct (Rf.len f n i)
    unfold cntL at c
    have mi : i ∈ (List.range n).filter (fun x => Rf.len f n x == Rf.len f n i) := List.mem_filter.mpr ⟨List.mem_range.mpr hi, by simp⟩
    have l := sub_length (l1 := (List.range n).filter fun x => Rf.len g n x == Rf.len f n i) (l2 := (((List.range n).filter fun x => Rf.len f n x == Rf.len f n i).erase i).map fun x => (img.getD x 0).toNat) (List.Pairwise.filter _ List.nodup_range) fun y hy => by
      obtain ⟨h1, h2⟩ := List.mem_filter.mp hy
      rw [List.mem_range] at h1
      rw [beq_iff_eq] at h2
      obtain ⟨x, hx, e⟩ := all y h1 h2
      obtain ⟨v, _, ev, lv, _⟩ := M.va x hx (by rw [e]; omega)
      rw [e] at ev
      have := Int.ofNat.inj ev
      subst this
      refine List.mem_map.mpr ⟨x, (List.mem_erase_of_ne fun q => ?_).mpr (List.mem_filter.mpr ⟨List.mem_range.mpr hx, by rw [← lv, h2]; simp⟩), by rw [e]; rfl⟩
      subst q
      rw [e] at h; omega
    rw [List.length_map, List.length_erase_of_mem mi] at l
    have := List.length_pos_of_mem mi
    omega
  obtain ⟨y, h, m⟩ := min_ex ex
  exact ⟨y, h, fun z hz e => by have := m z ⟨by omega, e⟩; omega⟩
theorem MS.step {y : Nat} {img' : List Int} {free' c d : List Nat} (P : IsP n f) (Q : IsP n g) (M : MS f g n i img free) (hi : i < n) (h : img.getD i 0 = -1) (hy : y < n) (fy : free.getD y 0 = Rf.len f n i) (my : ∀ z, z < y → free.getD z 0 ≠ Rf.len f n i)
    (C : Cy f i c) (E : Cy g y d) (li' : img'.length = n) (lf' : free'.length = n) (i1 : ∀ t, t < c.length → img'.getD (c.getD t 0) 0 = (d.getD t 0 : Nat)) (i2 : ∀ x, x < n → x ∉ c → img'.getD x 0 = img.getD x 0)
    (f1 : ∀ t, t < d.length → free'.getD (d.getD t 0) 0 = 0) (f2 : ∀ x, x < n → x ∉ d → free'.getD x 0 = free.getD x 0) : MS f g n (i + 1) img' free' := by
  have ui := (M.un i hi).mp h
  have lp := len_pos P hi
  have yu : (∀ x, x < n → img.getD x 0 ≠ (y : Nat)) ∧ free.getD y 0 = Rf.len g n y := by
    rcases M.fr y hy with ⟨_, e⟩ | e
    · omega
    · exact e
  have lgy : Rf.len g n y = Rf.len f n i := by rw [← yu.2, fy]
  have ll : c.length = d.length := by rw [C.len P hi, E.len Q hy, lgy]
  have cm : ∀ x, x ∈ c ↔ Rch [f] i x := fun x => C.mem
  have dm : ∀ x, x ∈ d ↔ Rch [g] y x := fun x => E.mem
  have cn : ∀ x ∈ c, x < n := C.toPa.lt P hi
  have dn : ∀ x ∈ d, x < n := E.toPa.lt Q hy
  have cu : ∀ x ∈ c, img.getD x 0 = -1 := fun x hx => (M.un x (cn x hx)).mpr fun j hj r => ui j hj (r.trans (((cm x).mp hx).symm (one_P P) hi))
  have dnu : ∀ w ∈ d, ∀ x, x < n → img.getD x 0 ≠ (w : Nat) := fun w hw x hx e => by
    obtain ⟨x', hx', e'⟩ := M.used P ⟨x, hx, e⟩ (((dm w).mp hw).symm (one_P Q) hy)
    exact yu.1 x' hx' e'
  have ge : ∀ x ∈ c, ∃ t, t < c.length ∧ c.getD t 0 = x ∧ img'.getD x 0 = (d.getD t 0 : Nat) ∧ d.getD t 0 ∈ d := fun x hx => by
    obtain ⟨t, ht, e⟩ := mem_getD (d := 0) hx
    exact ⟨t, ht, e, by rw [← e]; exact i1 t ht, getD_mem (by omega)⟩
  refine ⟨li', lf', fun x hx => ?_, fun x hx ne => ?_, fun x x' hx hx' ne e => ?_, fun w hw => ?_, fun j hj hjn hd z hzn hz lz => ?_⟩
  · by_cases q : x ∈ c
    · obtain ⟨t, ht, e, ei, _⟩ := ge x q
      constructor
      · intro e2; rw [ei] at e2; omega
      · intro H; exact absurd ((cm x).mp q) (H i (by omega))
    · rw [i2 x hx q, M.un x hx]
      constructor
      · intro H j hj r
        by_cases e : j = i
        · subst e; exact q ((cm x).mpr r)
        · exact H j (by omega) r
      · intro H j hj r; exact H j (by omega) r
  · by_cases q : x ∈ c
    · obtain ⟨t, ht, e, ei, md⟩ := ge x q
      refine ⟨d.getD t 0, dn _ md, ei, ?_, ?_⟩
      · rw [len_eq Q hy ((dm _).mp md), lgy, len_eq P hi ((cm x).mp q)]
      · rw [← e, C.nxt ht, E.nxt (by omega), ← ll]
        split
        · rename_i q2; exact i1 _ q2
        · exact i1 _ C.pos
    · rw [i2 x hx q] at ne ⊢
      obtain ⟨v, hv, ev, lv, en⟩ := M.va x hx ne
      have q2 : f.getD x 0 ∉ c := fun m => q ((cm x).mpr (((cm _).mp m).trans ((rch_one (f := f) (x := x) .refl).symm (one_P P) hx)))
      exact ⟨v, hv, ev, lv, by rw [i2 _ (P.lt x hx) q2]; exact en⟩
  · by_cases q : x ∈ c
    · obtain ⟨t, ht, ex, ei, md⟩ := ge x q
      by_cases q' : x' ∈ c
      · obtain ⟨t', ht', ex', ei', _⟩ := ge x' q'
        rw [ei, ei'] at e
        have := nodup_getD E.nd (by omega) (by omega) (Int.ofNat.inj e)
        rw [← ex, ← ex', this]
      · rw [i2 x' hx' q', ei] at e
        exact absurd e.symm (dnu _ md x' hx')
    · rw [i2 x hx q] at ne e
      by_cases q' : x' ∈ c
      · obtain ⟨t', ht', ex', ei', md⟩ := ge x' q'
        rw [ei'] at e
        exact absurd e (dnu _ md x hx)
      · rw [i2 x' hx' q'] at e
        exact M.inj x x' hx hx' ne e
  · by_cases q : w ∈ d
    · obtain ⟨t, ht, e⟩ := mem_getD (d := 0) q
      refine .inl ⟨⟨c.getD t 0, cn _ (getD_mem (by omega)), by rw [i1 t (by omega), e]⟩, by rw [← e]; exact f1 t ht⟩
    · rw [f2 w hw q]
      rcases M.fr w hw with ⟨⟨x, hx, e⟩, e0⟩ | ⟨no, e0⟩
      · refine .inl ⟨⟨x, hx, ?_⟩, e0⟩
        rw [i2 x hx fun m => by have := cu x m; omega]
        exact e
      · refine .inr ⟨fun x hx e => ?_, e0⟩
        by_cases qx : x ∈ c
        · obtain ⟨t, ht, _, ei, md⟩ := ge x qx
          rw [ei] at e
          exact q (by rw [← Int.ofNat.inj e]; exact md)
        · rw [i2 x hx qx] at e
          exact no x hx e
  · by_cases e : j = i
    · subst e
      have i0 : img'.getD j 0 = (y : Nat) := by
        have := i1 0 C.pos
        rw [C.hd, E.hd] at this
        exact this
      rw [i0] at hz
      have hz' : z < y := by omega
      rcases M.fr z hzn with ⟨⟨x, hx, ex⟩, _⟩ | ⟨_, e0⟩
      · have nm : img.getD x 0 ≠ -1 := by rw [ex]; omega
        have : ∃ j', j' < j ∧ Rch [f] j' x := by
          apply Classical.byContradiction
          intro no
          exact nm ((M.un x hx).mpr fun j' hj' r => no ⟨j', hj', r⟩)
        obtain ⟨j', hj', r⟩ := this
        exact ⟨j', x, hj', hx, r, by rw [i2 x hx fun m => nm (cu x m)]; exact ex⟩
      · exact absurd (by rw [e0, lz]) (my z hz')
    · have hj' : j < i := by omega
      have jc : j ∉ c := fun m => ui j hj' (((cm j).mp m).symm (one_P P) hi)
      rw [i2 j hjn jc] at hz
      obtain ⟨j', x, h1, h2, r, ex⟩ := M.gr j hj' hjn hd z hzn hz lz
      exact ⟨j', x, h1, h2, r, by rw [i2 x h2 fun m => by have := cu x m; omega]; exact ex⟩
theorem MS.skip (P : IsP n f) (M : MS f g n i img free) (hi : i < n) (h : img.getD i 0 ≠ -1) : MS f g n (i + 1) img free := by
  have ex : ∃ j, j < i ∧ Rch [f] j i := by
    apply Classical.byContradiction
    intro no
    exact h ((M.un i hi).mpr fun j' hj' r => no ⟨j', hj', r⟩)
  obtain ⟨j0, hj0, r0⟩ := ex
  refine ⟨M.li, M.lf, fun x hx => ?_, M.va, M.inj, M.fr, fun j hj hjn hd => ?_⟩
  · rw [M.un x hx]
    constructor
    · intro H j hj r
      by_cases e : j = i
      · subst e; exact H j0 hj0 (r0.trans r)
      · exact H j (by omega) r
    · intro H j hj r; exact H j (by omega) r
  · by_cases e : j = i
    · subst e; exact absurd r0 (hd j0 hj0)
    · exact M.gr j (by omega) hjn hd
theorem MS.fin (P : IsP n f) (M : MS f g n n img free) : ∃ h : List Nat, img.map D.int = h.map dN ∧ Mat f g n h := by
  have all : ∀ x, x < n → ∃ v : Nat, v < n ∧ img.getD x 0 = v ∧ Rf.len g n v = Rf.len f n x ∧ img.getD (f.getD x 0) 0 = (g.getD v 0 : Nat) := fun x hx => M.va x hx fun e => (M.un x hx).mp e x hx .refl
  have ne : ∀ x, x < n → img.getD x 0 ≠ -1 := fun x hx => by obtain ⟨v, _, e, _⟩ := all x hx; rw [e]; omega
  have eh : ∀ x, x < n → ((img.map Int.toNat).getD x 0 : Int) = img.getD x 0 := fun x hx => by
    rw [map_getD (d := 0) (by rw [M.li]; exact hx)]
    obtain ⟨v, _, e, _⟩ := all x hx
    rw [e]; rfl
  refine ⟨img.map Int.toNat, ?_, ⟨⟨⟨by simp [M.li], fun x hx => ?_, fun x x' hx hx' e => ?_⟩, fun x hx => ?_⟩, fun i hi hd z hz lz => ?_⟩⟩
  · rw [List.map_map]
    apply List.map_congr_left
    intro v hv
    obtain ⟨x, hx, e⟩ := List.getElem_of_mem hv
    obtain ⟨u, _, eu, _⟩ := all x (by rw [← M.li]; exact hx)
    rw [getD_get hx, e] at eu
    rw [eu]; rfl
  · obtain ⟨v, hv, e, _⟩ := all x hx
    have := eh x hx
    rw [e] at this
    omega
  · have a := eh x hx
    have b := eh x' hx'
    rw [e] at a
    exact M.inj x x' hx hx' (ne x hx) (by rw [← a, ← b])
  · obtain ⟨v, hv, e, _, en⟩ := all x hx
    have a := eh x hx
    rw [e] at a
    have av : (img.map Int.toNat).getD x 0 = v := Int.ofNat.inj a
    have b := eh (f.getD x 0) (P.lt x hx)
    rw [en] at b
    rw [av]
    exact (Int.ofNat.inj b).symm
  · have a := eh i hi
    obtain ⟨v, hv, e, _⟩ := all i hi
    have hz' : (z : Int) < img.getD i 0 := by rw [← a]; omega
    obtain ⟨j, x, h1, h2, h3, h4⟩ := M.gr i hi hi hd z (by rw [e] at hz'; omega) hz' lz
    have b := eh x h2
    rw [h4] at b
    exact ⟨j, x, h1, h2, h3, Int.ofNat.inj b⟩
end
end Law

set_option maxHeartbeats 1000000
namespace Law
open PySem Rf L2
def MH (h : AH) (ln free : List Nat) (img : List Int) : AH := h ++ [.lst (ln.map dN), .lst (free.map dN), .lst [.int (-1)], .lst (img.map D.int)]
section
variable {h : AH} {ln free : List Nat} {img : List Int}
theorem MH_0 : (MH h ln free img)[h.length]? = some (.lst (ln.map dN)) := by unfold MH; rw [app_get0]; rfl
theorem MH_1 : (MH h ln free img)[h.length + 1]? = some (.lst (free.map dN)) := by unfold MH; rw [app_get]; rfl
theorem MH_3 : (MH h ln free img)[h.length + 3]? = some (.lst (img.map D.int)) := by unfold MH; rw [app_get]; rfl
theorem MH_s1 (v : List Nat) : (MH h ln free img).set (h.length + 1) (.lst (v.map dN)) = MH h ln v img := by unfold MH; rw [app_set rfl]; rfl
theorem MH_s3 (v : List Int) : (MH h ln free img).set (h.length + 3) (.lst (v.map D.int)) = MH h ln free v := by unfold MH; rw [app_set rfl]; rfl
end
theorem ixD_I {xs : List Int} {i : Nat} {h : AH} (hi : i < xs.length) : ixD (xs.map D.int) (i : Int) h = .ok (.int (xs.getD i 0)) h := ixD_map (getD_some hi)
theorem putO_I {xs : List Int} {r i : Nat} {v : Int} {h : AH} (hi : i < xs.length) : putO (some (.lst (xs.map D.int))) r (i : Int) (.int v) h = some (h.set r (.lst ((xs.set i v).map D.int))) := by
  rw [putO_nat (by simpa using hi), List.map_set]
/-- one class is matched -/
theorem match_class {f g : List Nat} {n i y : Nat} (P : IsP n f) (Q : IsP n g) (hn : n ≤ 1000) {img : List Int} {free : List Nat} (M : MS f g n i img free) (hi : i < n) (h0 : img.getD i 0 = -1) (hy : y < n) {c d : List Nat} (C : Cy f i c) (E : Cy g y d) (ll : c.length = d.length) {h : AH} {ln : List Nat} :
    ∃ x6 x7 img' free', sWhile wc_matching_2 lb_matching_2 [some (dC f), some (dC g), some (.ref h.length), some (.ref (h.length + 1)), some (.ref (h.length + 3)), some (dN i), some (dN i), some (dN y)] (MH h ln free img) = .nx [some (dC f), some (dC g), some (.ref h.length), some (.ref (h.length + 1)), some (.ref (h.length + 3)), some (dN i), x6, x7] (MH h ln free' img') ∧
      img'.length = n ∧ free'.length = n ∧ (∀ t, t < c.length → img'.getD (c.getD t 0) 0 = (d.getD t 0 : Nat)) ∧ (∀ x, x < n → x ∉ c → img'.getD x 0 = img.getD x 0) ∧ (∀ t, t < d.length → free'.getD (d.getD t 0) 0 = 0) ∧ (∀ x, x < n → x ∉ d → free'.getD x 0 = free.getD x 0) := by
  have cn := C.toPa.lt P hi
  have dn := E.toPa.lt Q hy
  have cp := C.pos
  have ui := (M.un i hi).mp h0
  have cu : ∀ x ∈ c, img.getD x 0 = -1 := fun x hx => (M.un x (cn x hx)).mpr fun j hj r => ui j hj (r.trans ((C.mem.mp hx).symm (one_P P) hi))
  have lf := P.len
  have lg := Q.len
  obtain ⟨e', h', w, x6, x7, img', free', rfl, rfl, r⟩ := while_ix (c := wc_matching_2) (b := lb_matching_2)
    (fun m e h' => ∃ k img' free', k ≤ c.length ∧ m = c.length - k ∧ e = [some (dC f), some (dC g), some (.ref h.length), some (.ref (h.length + 1)), some (.ref (h.length + 3)), some (dN i), some (dN (c.getD (if k < c.length then k else 0) 0)), some (dN (d.getD (if k < c.length then k else 0) 0))] ∧ h' = MH h ln free' img' ∧
      img'.length = n ∧ free'.length = n ∧ (∀ t, t < k → img'.getD (c.getD t 0) 0 = (d.getD t 0 : Nat)) ∧ (∀ x, x < n → (∀ t, t < k → c.getD t 0 ≠ x) → img'.getD x 0 = img.getD x 0) ∧ (∀ t, t < k → free'.getD (d.getD t 0) 0 = 0) ∧ (∀ x, x < n → (∀ t, t < k → d.getD t 0 ≠ x) → free'.getD x 0 = free.getD x 0))
    (fun e h' => ∃ x6 x7 img' free', e = [some (dC f), some (dC g), some (.ref h.length), some (.ref (h.length + 1)), some (.ref (h.length + 3)), some (dN i), x6, x7] ∧ h' = MH h ln free' img' ∧
      img'.length = n ∧ free'.length = n ∧ (∀ t, t < c.length → img'.getD (c.getD t 0) 0 = (d.getD t 0 : Nat)) ∧ (∀ x, x < n → x ∉ c → img'.getD x 0 = img.getD x 0) ∧ (∀ t, t < d.length → free'.getD (d.getD t 0) 0 = 0) ∧ (∀ x, x < n → x ∉ d → free'.getD x 0 = free.getD x 0))
    (by
      rintro m e h' ⟨k, img', free', hk, rfl, rfl, rfl, li, lfr, i1, i2, f1, f2⟩
      by_cases q : k < c.length
      · rw [if_pos q]
        have mc := getD_mem (d := 0) q
        have md := getD_mem (d := 0) (show k < d.length by omega)
        have hc := cn _ mc
        have hd := dn _ md
        have ic : img'.getD (c.getD k 0) 0 = -1 := by
          rw [i2 _ hc fun t ht e => by have := nodup_getD C.nd (by omega) q e; omega]
          exact cu _ mc
        have x1 : ∀ h, ixD (img'.map D.int) ((c.getD k 0 : Nat) : Int) h = .ok (.int (-1)) h := fun h => by rw [← ic]; exact ixD_I (by omega)
        refine .inr ⟨MH h ln free' img', ?_, ?_⟩
        · generalize c.getD k 0 = u at x1
          simp [wc_matching_2, MH_3, x1]
        · have n1 := C.nxt q
          have n2 := E.nxt (show k < d.length by omega)
          rw [← ll] at n2
          refine ⟨_, MH h ln (free'.set (d.getD k 0) 0) (img'.set (c.getD k 0) (d.getD k 0 : Nat)), ?_, c.length - (k + 1), by omega, k + 1, img'.set (c.getD k 0) (d.getD k 0 : Nat), free'.set (d.getD k 0) 0, by omega, rfl, rfl, rfl, by simpa using li, by simpa using lfr, fun t ht => ?_, fun x hx ne => ?_, fun t ht => ?_, fun x hx ne => ?_⟩
          · rw [← n1, ← n2]
            have x2 : ∀ h, ixD (f.map dN) ((c.getD k 0 : Nat) : Int) h = .ok (dN (f.getD (c.getD k 0) 0)) h := fun h => ixD_N (by omega)
            have x3 : ∀ h, ixD (g.map dN) ((d.getD k 0 : Nat) : Int) h = .ok (dN (g.getD (d.getD k 0) 0)) h := fun h => ixD_N (by omega)
            have p1 : ∀ v r h, putO (some (.lst (img'.map D.int))) r ((c.getD k 0 : Nat) : Int) (.int v) h = some (h.set r (.lst ((img'.set (c.getD k 0) v).map D.int))) := fun v r h => putO_I (by omega)
            have p2 : ∀ v r h, putO (some (.lst (free'.map dN))) r ((d.getD k 0 : Nat) : Int) (dN v) h = some (h.set r (.lst ((free'.set (d.getD k 0) v).map dN))) := fun v r h => putO_N (by omega)
            have p2' := p2 0
            rw [show dN 0 = D.int 0 from rfl] at p2'
            generalize f.getD (c.getD k 0) 0 = u2 at x2 ⊢
            generalize g.getD (d.getD k 0) 0 = v2 at x3 ⊢
            generalize c.getD k 0 = u at x1 x2 p1 ⊢
            generalize d.getD k 0 = v at x3 p2' p1 ⊢
            simp only [dN] at x2 x3
            simp [lb_matching_2, MH_3, MH_1, MH_s3, MH_s1, dC, x2, x3, p1, p2', -List.map_set]
          · rw [getDg_set (by omega)]
            by_cases e : t = k
            · subst e; rw [if_pos rfl]
            · rw [if_neg fun z => e (nodup_getD C.nd (by omega) q z.symm)]
              exact i1 t (by omega)
          · rw [getDg_set (by omega), if_neg (ne k (by omega))]
            exact i2 x hx fun t ht => ne t (by omega)
          · rw [getDg_set (by omega)]
            by_cases e : t = k
            · subst e; rw [if_pos rfl]
            · rw [if_neg fun z => e (nodup_getD E.nd (by omega) (by omega) z.symm)]
              exact f1 t (by omega)
          · rw [getDg_set (by omega), if_neg (ne k (by omega))]
            exact f2 x hx fun t ht => ne t (by omega)
      · obtain rfl : k = c.length := by omega
        rw [if_neg q]
        have i0 := i1 0 cp
        have hc := cn _ (getD_mem (d := 0) cp)
        have x1 : ∀ h, ixD (img'.map D.int) ((c.getD 0 0 : Nat) : Int) h = .ok (.int (d.getD 0 0 : Nat)) h := fun h => by rw [← i0]; exact ixD_I (by omega)
        refine .inl ⟨MH h ln free' img', ?_, _, _, img', free', rfl, rfl, li, lfr, i1, fun x hx nx => i2 x hx fun t ht e => nx (by rw [← e]; exact getD_mem ht), fun t ht => f1 t (by omega), fun x hx nx => f2 x hx fun t ht e => nx (by rw [← e]; exact getD_mem (by omega))⟩
        generalize c.getD 0 0 = u at x1
        generalize d.getD 0 0 = v at x1
        have : ¬ (v : Int) = -1 := by omega
        simp [wc_matching_2, MH_3, x1, this])
    c.length [some (dC f), some (dC g), some (.ref h.length), some (.ref (h.length + 1)), some (.ref (h.length + 3)), some (dN i), some (dN i), some (dN y)] (MH h ln free img)
    ⟨0, img, free, by omega, rfl, by rw [if_pos cp, C.hd, E.hd], rfl, M.li, M.lf, fun t ht => absurd ht (by omega), fun _ _ _ => rfl, fun t ht => absurd ht (by omega), fun _ _ _ => rfl⟩
  exact ⟨x6, x7, img', free', w, r⟩
theorem matching_none {f g : List Nat} {n : Nat} (P : IsP n f) (Q : IsP n g) (hn : n ≤ 1000) (no : ¬ ∀ s, cntL f n s = cntL g n s) {h : AH} : c_matching [dC f, dC g] h = .ok .non h := by
  obtain ⟨L1, w1, p1, _⟩ := shape_spec P hn (h := h)
  obtain ⟨L2, w2, p2, _⟩ := shape_spec Q hn (h := h)
  have ne : L1 ≠ L2 := fun e => no ((lens_iff P Q).mp (p1.symm.trans (by rw [e]; exact p2)))
  have on : oNe (dC L1) (dC L2) h = .ok (.bl true) h := by
    unfold dC
    rw [oNe_tupN, decide_eq_false ne]; rfl
  have e : c_matching [dC f, dC g] h = gc h (.ok .non h) := by
    unfold c_matching fsem
    simp [m_matching, w1, w2, on]
  rw [e, gc_same rfl]
theorem matching_some {f g : List Nat} {n : Nat} (P : IsP n f) (Q : IsP n g) (hn : n ≤ 1000) (ct : ∀ s, cntL f n s = cntL g n s) {h : AH} : ∃ m, c_matching [dC f, dC g] h = .ok (dC m) h ∧ Mat f g n m := by
  obtain ⟨L1, w1, p1, u1⟩ := shape_spec P hn (h := h)
  obtain ⟨L2, w2, p2, u2⟩ := shape_spec Q hn (h := h)
  obtain rfl : L1 = L2 := down_eq ((p1.trans ((lens_iff P Q).mpr ct)).trans p2.symm) u1 u2
  have on : oNe (dC L1) (dC L1) h = .ok (.bl false) h := by
    unfold dC
    rw [oNe_tupN, decide_eq_true rfl]; rfl
  have lf := P.len
  have cl1 := fun h => cycle_lengths_spec P hn (h := h)
  have cl2 := fun h => cycle_lengths_spec Q hn (h := h)
  obtain ⟨e', h', w, x5, x6, x7, img, free, rfl, rfl, M⟩ := loopN (k := 5) (b := lb_matching_1)
    (fun i e h' => ∃ x5 x6 x7 img free, e = [some (dC f), some (dC g), some (.ref h.length), some (.ref (h.length + 1)), some (.ref (h.length + 3)), x5, x6, x7] ∧ h' = MH h (lnL f n) free img ∧ MS f g n i img free)
    n (e := [some (dC f), some (dC g), some (.ref h.length), some (.ref (h.length + 1)), some (.ref (h.length + 3)), none, none, none]) (h := MH h (lnL f n) (lnL g n) (List.replicate n (-1)))
    ⟨none, none, none, _, _, rfl, rfl, MS.start⟩ (by
      rintro i e h' hi ⟨x5, x6, x7, img, free, rfl, rfl, M⟩
      have li := M.li
      have x1 : ∀ h, ixD (img.map D.int) (i : Int) h = .ok (.int (img.getD i 0)) h := fun h => ixD_I (by omega)
      by_cases q : img.getD i 0 = -1
      · obtain ⟨y, ⟨hy, fy⟩, my⟩ := M.find P ct hi q
        have C := cyc_cy P hi
        have E := cyc_cy Q hy
        have lp := len_pos P hi
        have lgy : Rf.len g n y = Rf.len f n i := by
          rcases M.fr y hy with ⟨_, e⟩ | ⟨_, e⟩
          · omega
          · rw [← e, fy]
        obtain ⟨x6, x7, img', free', w, li', lf', i1, i2, f1, f2⟩ := match_class P Q hn M hi q hy C E (by rw [C.len P hi, E.len Q hy, lgy]) (h := h) (ln := lnL f n)
        refine ⟨_, _, ?_, some (dN i), x6, x7, img', free', rfl, rfl, M.step P Q hi q hy fy my C E li' lf' i1 i2 f1 f2⟩
        have x2 : ∀ h, ixD ((lnL f n).map dN) (i : Int) h = .ok (dN (Rf.len f n i)) h := fun h => by
          rw [← lnL_at hi]; exact ixD_N (by rw [lnL_len]; exact hi)
        have ix := mIndex_N (us := free) (h := MH h (lnL f n) free img) (r := h.length + 1) (j := y) (v := Rf.len f n i) MH_1 (by rw [M.lf]; exact hy) fy my
        rw [q] at x1
        have m3 := MH_3 (h := h) (ln := lnL f n) (free := free) (img := img)
        have m1 := MH_1 (h := h) (ln := lnL f n) (free := free) (img := img)
        have m0 := MH_0 (h := h) (ln := lnL f n) (free := free) (img := img)
        generalize MH h (lnL f n) free img = H at *
        generalize Rf.len f n i = lv at *
        simp only [dN] at x2
        simp [lb_matching_1, m3, m1, m0, x1, x2, ix, w]
      · refine ⟨_, _, ?_, some (dN i), x6, x7, img, free, rfl, rfl, M.skip P hi q⟩
        have m3 := MH_3 (h := h) (ln := lnL f n) (free := free) (img := img)
        generalize MH h (lnL f n) free img = H at *
        simp [lb_matching_1, m3, x1, q, -List.getD_eq_getElem?_getD])
  obtain ⟨m, em, Mm⟩ := M.fin P
  refine ⟨m, ?_, Mm⟩
  have r1 : RepOk 1 (n : Int) := repOk_1 (by omega)
  have r2 : RgB (n : Int) := rgB_nat (by omega)
  have w0 : MH h (lnL f n) (lnL g n) (List.replicate n (-1)) = h ++ [.lst ((lnL f n).map dN), .lst ((lnL g n).map dN), .lst [.int (-1)], .lst (List.replicate n (D.int (-1)))] := by
    unfold MH; simp
  rw [w0] at w
  have e : c_matching [dC f, dC g] h = gc h (.ok (dC m) (MH h (lnL f n) free img)) := by
    unfold c_matching fsem
    have m3 := MH_3 (h := h) (ln := lnL f n) (free := free) (img := img)
    rw [em] at m3
    generalize MH h (lnL f n) free img = H at *
    simp only [dC] at w w1 w2 on cl1 cl2 ⊢
    simp [m_matching, w1, w2, on, cl1, cl2, lf, r1, r2, rg_zero, w, m3]
  rw [e]
  unfold MH
  rw [gc_app (by simp [dC])]
end Law

set_option maxHeartbeats 1000000
namespace Law
open PySem Rf L2
theorem is_perm_spec {p : List Nat} {n : Nat} (P : IsP n p) (hn : n ≤ 1000) {h : AH} : c__law_is_perm [dC p, dN n] h = .ok (.bl true) h := by
  have lp := P.len
  have nd := P.nodup
  obtain ⟨e', h', w, x3, rfl, rfl⟩ := loopM (φ := dN) (k := 3) (b := lb__law_is_perm_1)
    (fun i e h' => ∃ x3, e = [some (dC p), some (dN n), some (.ref (h.length + 1)), x3] ∧ h' = h ++ [.lst [.bl false], .lst (kn n (p.take i))])
    p (e := [some (dC p), some (dN n), some (.ref (h.length + 1)), none]) (h := h ++ [.lst [.bl false], .lst (kn n [])]) ⟨none, rfl, rfl⟩ (by
      rintro i x e h' hx ⟨x3, rfl, rfl⟩
      have hi : i < p.length := (List.getElem?_eq_some_iff.mp hx).1
      have ex : x = p.getD i 0 := by
        rw [getD_some (a := 0) hi] at hx
        exact (Option.some.inj hx).symm
      have hxn : x < n := by rw [ex]; exact P.lt i (by omega)
      have tk : p.take (i + 1) = p.take i ++ [x] := by rw [List.take_add_one, hx]; rfl
      have nin : x ∉ p.take i := fun m => by
        obtain ⟨j, hj, e⟩ := mem_getD (d := 0) m
        rw [List.length_take] at hj
        have : p.getD j 0 = p.getD i 0 := by
          rw [← ex, ← e]
          simp only [List.getD_eq_getElem?_getD]
          rw [List.getElem?_take, if_pos (by omega)]
        have := nodup_getD nd (by omega) hi this
        omega
      have k1 := kn_at (L := p.take i) hxn
      rw [decide_eq_false nin] at k1
      have g1 : (h ++ [AO.lst [.bl false], AO.lst (kn n (p.take i))])[h.length + 1]? = some (.lst (kn n (p.take i))) := by rw [app_get]; rfl
      have s1 : (h ++ [AO.lst [.bl false], AO.lst (kn n (p.take i))]).set (h.length + 1) (.lst (kn n (p.take i ++ [x]))) = h ++ [AO.lst [.bl false], AO.lst (kn n (p.take i ++ [x]))] := by rw [app_set rfl]; rfl
      have pk : ∀ r h, putO (some (.lst (kn n (p.take i)))) r (x : Int) (.bl true) h = some (h.set r (.lst (kn n (p.take i ++ [x])))) := fun r h => kn_put hxn
      have z1 : ¬ (x : Int) < 0 := by omega
      have z2 : ¬ (n : Int) ≤ (x : Int) := by omega
      refine ⟨_, _, ?_, some (dN x), rfl, rfl⟩
      rw [tk, ← s1]
      generalize h ++ [AO.lst [.bl false], AO.lst (kn n (p.take i))] = H at *
      have z3 : ¬ n ≤ x := by omega
      simp [lb__law_is_perm_1, z1, z2, z3, g1, k1, pk])
  have r1 : RepOk 1 (n : Int) := repOk_1 (by omega)
  have e : c__law_is_perm [dC p, dN n] h = gc h (.ok (.bl true) (h ++ [.lst [.bl false], .lst (kn n (p.take p.length))])) := by
    unfold c__law_is_perm fsem
    simp only [dC] at w ⊢
    simp [m__law_is_perm, lp, r1, kn_nil, w]
  rw [e, gc_app (by simp)]
open Classical in
/-- whether a row carries f to g -/
theorem carries_spec {f g r : List Nat} {n : Nat} (P : IsP n f) (Q : IsP n g) (R : IsP n r) (hn : n ≤ 1000) {h : AH} :
    c__law_carries [dC r, dC f, dC g] h = .ok (.bl (decide (Car f g n r))) h := by
  have lf := P.len
  have lg := Q.len
  have lr := R.len
  have z := loopN_ret (k := 3) (b := lb__law_carries_1)
    (fun i e h' => ∃ x3, e = [some (dC r), some (dC f), some (dC g), x3] ∧ h = h' ∧ ∀ x, x < i → g.getD (r.getD x 0) 0 = r.getD (f.getD x 0) 0)
    (fun d h' => d = .bl false ∧ h = h' ∧ ¬ Car f g n r)
    n (e := [some (dC r), some (dC f), some (dC g), none]) (h := h) ⟨none, rfl, rfl, fun x hx => absurd hx (by omega)⟩ (by
      rintro i e h' hi ⟨x3, rfl, rfl, al⟩
      have a1 := R.lt i hi
      have a2 := P.lt i hi
      have x1 : ∀ h, ixD (r.map dN) (i : Int) h = .ok (dN (r.getD i 0)) h := fun h => ixD_N (by omega)
      have x2 : ∀ h, ixD (f.map dN) (i : Int) h = .ok (dN (f.getD i 0)) h := fun h => ixD_N (by omega)
      have x3' : ∀ h, ixD (g.map dN) ((r.getD i 0 : Nat) : Int) h = .ok (dN (g.getD (r.getD i 0) 0)) h := fun h => ixD_N (by omega)
      have x4 : ∀ h, ixD (r.map dN) ((f.getD i 0 : Nat) : Int) h = .ok (dN (r.getD (f.getD i 0) 0)) h := fun h => ixD_N (by omega)
      simp only [dN] at x1 x2 x3' x4
      by_cases q : g.getD (r.getD i 0) 0 = r.getD (f.getD i 0) 0
      · refine .inl ⟨_, _, ?_, some (dN i), rfl, rfl, fun x hx => ?_⟩
        · rw [q] at x3'
          generalize r.getD (f.getD i 0) 0 = v at *
          generalize r.getD i 0 = a at *
          generalize f.getD i 0 = b at *
          simp [lb__law_carries_1, dC, x1, x2, x3', x4]
        · by_cases e : x = i
          · subst e; exact q
          · exact al x (by omega)
      · refine .inr ⟨_, _, ?_, rfl, rfl, fun C => q (C.car i hi)⟩
        generalize r.getD (f.getD i 0) 0 = v at *
        generalize g.getD (r.getD i 0) 0 = v2 at *
        generalize r.getD i 0 = a at *
        generalize f.getD i 0 = b at *
        simp [lb__law_carries_1, dC, x1, x2, x3', x4, q])
  have r2 : RgB (n : Int) := rgB_nat (by omega)
  have gcb : ∀ b, gc h (.ok (.bl b) h) = .ok (.bl b) h := fun b => gc_same (by simp)
  rcases z with ⟨e', h', w, x3, rfl, rfl, al⟩ | ⟨d, h', w, rfl, rfl, no⟩
  · rw [decide_eq_true ⟨R, al⟩, ← gcb]
    unfold c__law_carries fsem
    simp only [dC] at w ⊢
    simp [m__law_carries, lr, r2, rg_zero, w]
  · rw [decide_eq_false no, ← gcb]
    unfold c__law_carries fsem
    simp only [dC] at w ⊢
    simp [m__law_carries, lr, r2, rg_zero, w]
/-! ### the law's own sizes -/
theorem sizes_spec {f : List Nat} {n : Nat} (P : IsP n f) (hn : n ≤ 1000) {h : AH} :
    c__law_sizes [dC f] h = .ok (.ref h.length) (h ++ [.lst ((lnL f n).map dN)]) := by
  have lf := P.len
  obtain ⟨e', h', w, x2, x3, x4, x5, L, g, rfl, rfl, lL, al, un⟩ := loopN (k := 2) (b := lb__law_sizes_1)
    (fun i e h' => ∃ x2 x3 x4 x5 L g, e = [some (dC f), some (.ref (h.length + 1)), x2, x3, x4, x5] ∧ h' = h ++ (.lst [.int 0] :: .lst (L.map dN) :: g) ∧ L.length = n ∧ (∀ y, y < n → (∃ j, j < i ∧ Rch [f] j y) → L.getD y 0 = Rf.len f n y) ∧ ∀ y, y < n → (∀ j, j < i → ¬ Rch [f] j y) → L.getD y 0 = 0)
    n (e := [some (dC f), some (.ref (h.length + 1)), none, none, none, none]) (h := h ++ [.lst [.int 0], .lst ((List.replicate n 0).map dN)])
    ⟨none, none, none, none, List.replicate n 0, [], rfl, rfl, by simp, fun y hy ⟨j, hj, _⟩ => absurd hj (by omega), fun y hy _ => by simp [hy]⟩ (by
      rintro i e h' hi ⟨x2, x3, x4, x5, L, g, rfl, rfl, lL, al, un⟩
      have x1 : ∀ h, ixD (L.map dN) (i : Int) h = .ok (dN (L.getD i 0)) h := fun h => ixD_N (by omega)
      have lp := len_pos P hi
      have g1 : ∀ (L : List Nat) g, (h ++ (AO.lst [.int 0] :: AO.lst (L.map dN) :: g))[h.length + 1]? = some (.lst (L.map dN)) := fun L g => by rw [app_get]; rfl
      by_cases q : ∃ j, j < i ∧ Rch [f] j i
      · have e0 := al i hi q
        refine ⟨_, _, ?_, some (dN i), x3, x4, x5, L, g, rfl, rfl, lL, fun y hy ⟨j, hj, r⟩ => ?_, fun y hy no => un y hy fun j hj => no j (by omega)⟩
        · rw [e0] at x1
          have : ¬ Rf.len f n i = 0 := by omega
          have g1' := g1 L g
          generalize h ++ (AO.lst [.int 0] :: AO.lst (L.map dN) :: g) = H at *
          generalize Rf.len f n i = lv at *
          simp only [dN] at x1
          have z : ¬ (lv : Int) = 0 := by omega
          simp [lb__law_sizes_1, g1', x1, z, this]
        · by_cases e : j = i
          · subst e
            obtain ⟨j0, hj0, r0⟩ := q
            exact al y hy ⟨j0, hj0, r0.trans r⟩
          · exact al y hy ⟨j, by omega, r⟩
      · have e0 := un i hi fun j hj r => q ⟨j, hj, r⟩
        rw [e0] at x1
        -- the line
        obtain ⟨e', h', w1, rfl, rfl⟩ := while_ix (c := wc__law_sizes_2) (b := lb__law_sizes_2)
          (fun m e h' => ∃ c, m = n - c.length ∧ e = [some (dC f), some (.ref (h.length + 1)), some (dN i), some (.ref (h.length + 2 + g.length)), some (dN (f.getD (c.getD (c.length - 1) 0) 0)), x5] ∧ h' = h ++ (.lst [.int 0] :: .lst (L.map dN) :: (g ++ [.lst (c.map dN)])) ∧ Pa f i c)
          (fun e h' => e = [some (dC f), some (.ref (h.length + 1)), some (dN i), some (.ref (h.length + 2 + g.length)), some (dN i), x5] ∧ h' = h ++ (.lst [.int 0] :: .lst (L.map dN) :: (g ++ [.lst ((cyc f i).map dN)])))
          (by
            rintro m e h' ⟨c, rfl, rfl, rfl, A⟩
            have p := A.pos
            have l := A.len P hi
            have ll := A.lt P hi _ (getD_mem (d := 0) (show c.length - 1 < c.length by omega))
            by_cases q : f.getD (c.getD (c.length - 1) 0) 0 = i
            · refine .inl ⟨_, ?_, by rw [q], by rw [cyc_eq P hi ⟨A, q⟩]⟩
              rw [q]
              simp [wc__law_sizes_2]
            · refine .inr ⟨h ++ (.lst [.int 0] :: .lst (L.map dN) :: (g ++ [.lst (c.map dN)])), ?_, ?_⟩
              · generalize f.getD (c.getD (c.length - 1) 0) 0 = v at q
                simp [wc__law_sizes_2, q]
              · have B := A.push P hi q
                have lB := B.len P hi
                rw [List.length_append, List.length_singleton] at lB
                have last : (c ++ [f.getD (c.getD (c.length - 1) 0) 0]).getD ((c ++ [f.getD (c.getD (c.length - 1) 0) 0]).length - 1) 0 = f.getD (c.getD (c.length - 1) 0) 0 := by
                  rw [getD_app, if_pos (by simp)]
                have lv := P.lt _ ll
                refine ⟨_, _, ?_, n - (c.length + 1), by omega, c ++ [f.getD (c.getD (c.length - 1) 0) 0], by simp, rfl, rfl, B⟩
                rw [last]
                have ap : ∀ r v h, appO (some (.lst (c.map dN))) r v h = .ok .non (h.set r (.lst (c.map dN ++ [v]))) := fun r v h => appO_lst (by rw [List.length_map, sizeLine_eq]; omega)
                have gc' : (h ++ (AO.lst [.int 0] :: AO.lst (L.map dN) :: (g ++ [AO.lst (c.map dN)])))[h.length + 2 + g.length]? = some (.lst (c.map dN)) := by
                  rw [Nat.add_assoc, app_get, show 2 + g.length = g.length + 1 + 1 by omega, List.getElem?_cons_succ, List.getElem?_cons_succ, app_get0]; rfl
                have sc : ∀ v, (h ++ (AO.lst [.int 0] :: AO.lst (L.map dN) :: (g ++ [AO.lst (c.map dN)]))).set (h.length + 2 + g.length) (.lst (c.map dN ++ [v])) = h ++ (AO.lst [.int 0] :: AO.lst (L.map dN) :: (g ++ [AO.lst (c.map dN ++ [v])])) := fun v => by
                  rw [Nat.add_assoc, app_set rfl, show 2 + g.length = g.length + 1 + 1 by omega, List.set_cons_succ, List.set_cons_succ]
                  have := app_set (h := g) (g := [AO.lst (c.map dN)]) (i := 0) (n := g.length) (o := .lst (c.map dN ++ [v])) rfl
                  rw [Nat.add_zero] at this
                  rw [this]; rfl
                have x2 : ∀ h, ixD (f.map dN) ((f.getD (c.getD (c.length - 1) 0) 0 : Nat) : Int) h = .ok (dN (f.getD (f.getD (c.getD (c.length - 1) 0) 0) 0)) h := fun h => ixD_N (by omega)
                rw [List.map_append, List.map_cons, List.map_nil, ← sc]
                generalize h ++ (AO.lst [.int 0] :: AO.lst (L.map dN) :: (g ++ [AO.lst (c.map dN)])) = H at *
                generalize f.getD (f.getD (c.getD (c.length - 1) 0) 0) 0 = v2 at *
                generalize f.getD (c.getD (c.length - 1) 0) 0 = v at *
                simp only [dN] at x2
                simp [lb__law_sizes_2, dC, gc', ap, x2])
          (n - 1) [some (dC f), some (.ref (h.length + 1)), some (dN i), some (.ref (h.length + 2 + g.length)), some (dN (f.getD i 0)), x5] (h ++ (.lst [.int 0] :: .lst (L.map dN) :: (g ++ [.lst [dN i]])))
          ⟨[i], rfl, rfl, rfl, Pa.one⟩
        have C := cyc_cy P hi
        have cn := C.toPa.lt P hi
        obtain ⟨e', h', w2, x5', L', rfl, rfl, lL', a1, a2⟩ := liveL_inv (g := gVar 5) (b := lb__law_sizes_3) (r := h.length + 2 + g.length) (ds := (cyc f i).map dN)
          (fun j e h' => ∃ x5 L', e = [some (dC f), some (.ref (h.length + 1)), some (dN i), some (.ref (h.length + 2 + g.length)), some (dN i), x5] ∧ h' = h ++ (.lst [.int 0] :: .lst (L'.map dN) :: (g ++ [.lst ((cyc f i).map dN)])) ∧ L'.length = n ∧ (∀ y ∈ (cyc f i).take j, L'.getD y 0 = (cyc f i).length) ∧ ∀ y, y < n → y ∉ (cyc f i).take j → L'.getD y 0 = L.getD y 0)
          (e := [some (dC f), some (.ref (h.length + 1)), some (dN i), some (.ref (h.length + 2 + g.length)), some (dN i), x5]) (h := h ++ (.lst [.int 0] :: .lst (L.map dN) :: (g ++ [.lst ((cyc f i).map dN)])))
          (by
            rintro j e h' ⟨x5, L', rfl, rfl, _⟩
            rw [Nat.add_assoc, app_get, show 2 + g.length = g.length + 1 + 1 by omega, List.getElem?_cons_succ, List.getElem?_cons_succ, app_get0]; rfl)
          ⟨x5, L, rfl, rfl, lL, fun y hy => absurd hy (by simp), fun y _ _ => rfl⟩ (by
            rintro j d e h' hd' ⟨x5, L', rfl, rfl, lL', a1, a2⟩
            have hj : j < (cyc f i).length := by have := (List.getElem?_eq_some_iff.mp hd').1; simpa using this
            obtain ⟨y, ey⟩ : ∃ y, y = (cyc f i).getD j 0 := ⟨_, rfl⟩
            obtain rfl : dN y = d := by
              rw [List.getElem?_map, getD_some (a := 0) hj, ← ey] at hd'
              exact Option.some.inj hd'
            have hy : y < n := cn y (by rw [ey]; exact getD_mem hj)
            have tk : (cyc f i).take (j + 1) = (cyc f i).take j ++ [y] := by rw [List.take_add_one, getD_some (a := 0) hj, ← ey]; rfl
            have gcc : (h ++ (AO.lst [.int 0] :: AO.lst (L'.map dN) :: (g ++ [AO.lst ((cyc f i).map dN)])))[h.length + 2 + g.length]? = some (.lst ((cyc f i).map dN)) := by
              rw [Nat.add_assoc, app_get, show 2 + g.length = g.length + 1 + 1 by omega, List.getElem?_cons_succ, List.getElem?_cons_succ, app_get0]; rfl
            have gl : (h ++ (AO.lst [.int 0] :: AO.lst (L'.map dN) :: (g ++ [AO.lst ((cyc f i).map dN)])))[h.length + 1]? = some (.lst (L'.map dN)) := by rw [app_get]; rfl
            have sl : ∀ M : List Nat, (h ++ (AO.lst [.int 0] :: AO.lst (L'.map dN) :: (g ++ [AO.lst ((cyc f i).map dN)]))).set (h.length + 1) (.lst (M.map dN)) = h ++ (AO.lst [.int 0] :: AO.lst (M.map dN) :: (g ++ [AO.lst ((cyc f i).map dN)])) := fun M => by rw [app_set rfl]; rfl
            have pb : ∀ v r h, putO (some (.lst (L'.map dN))) r (y : Int) (dN v) h = some (h.set r (.lst ((L'.set y v).map dN))) := fun v r h => putO_N (by omega)
            refine ⟨_, _, ?_, some (dN y), L'.set y (cyc f i).length, rfl, rfl, by simpa using lL', fun z hz => ?_, fun z hz nz => ?_⟩
            · rw [← sl (L'.set y (cyc f i).length)]
              have pb' := pb (cyc f i).length
              have lm : ((cyc f i).map dN).length = (cyc f i).length := by simp
              generalize h ++ (AO.lst [.int 0] :: AO.lst (L'.map dN) :: (g ++ [AO.lst ((cyc f i).map dN)])) = H at *
              simp only [dN] at pb'
              simp [lb__law_sizes_3, gcc, gl, pb', -List.map_set]
            · rw [tk] at hz
              rw [getD_set (by omega)]
              split
              · rfl
              · rename_i e
                rcases List.mem_append.mp hz with hz | hz
                · exact a1 z hz
                · rw [List.mem_singleton] at hz; exact absurd hz.symm e
            · rw [tk] at nz
              rw [getD_set (by omega), if_neg fun e => nz (by rw [e]; simp)]
              exact a2 z hz fun m => nz (List.mem_append_left _ m))
        rw [List.length_map, List.take_length] at a1 a2
        refine ⟨_, _, ?_, some (dN i), some (.ref (h.length + 2 + g.length)), some (dN i), x5', L', g ++ [.lst ((cyc f i).map dN)], rfl, rfl, lL', fun y hy ⟨j, hj, r⟩ => ?_, fun y hy no => ?_⟩
        · have xf : ∀ h, ixD (f.map dN) (i : Int) h = .ok (dN (f.getD i 0)) h := fun h => ixD_N (by omega)
          have g1' := g1 L g
          have hl : (h ++ (AO.lst [.int 0] :: AO.lst (L.map dN) :: g)).length = h.length + 2 + g.length := by simp; omega
          have ap1 : (h ++ (AO.lst [.int 0] :: AO.lst (L.map dN) :: g)) ++ [AO.lst [dN i]] = h ++ (AO.lst [.int 0] :: AO.lst (L.map dN) :: (g ++ [.lst [dN i]])) := by simp
          have gcc : (h ++ (AO.lst [.int 0] :: AO.lst (L.map dN) :: (g ++ [AO.lst ((cyc f i).map dN)])))[h.length + 2 + g.length]? = some (.lst ((cyc f i).map dN)) := by
            rw [Nat.add_assoc, app_get, show 2 + g.length = g.length + 1 + 1 by omega, List.getElem?_cons_succ, List.getElem?_cons_succ, app_get0]; rfl
          rw [← ap1] at w1
          generalize h ++ (AO.lst [.int 0] :: AO.lst (L.map dN) :: (g ++ [AO.lst ((cyc f i).map dN)])) = H2 at *
          generalize h ++ (AO.lst [.int 0] :: AO.lst (L'.map dN) :: (g ++ [AO.lst ((cyc f i).map dN)])) = H3 at *
          have st : sSet 3 (eLst (lCons (eVar 2) lNil)) [some (dC f), some (.ref (h.length + 1)), some (dN i), x3, x4, x5] (h ++ (AO.lst [.int 0] :: AO.lst (L.map dN) :: g)) = .nx [some (dC f), some (.ref (h.length + 1)), some (dN i), some (.ref (h.length + 2 + g.length)), x4, x5] ((h ++ (AO.lst [.int 0] :: AO.lst (L.map dN) :: g)) ++ [AO.lst [dN i]]) := by
            rw [← hl]
            generalize h ++ (AO.lst [.int 0] :: AO.lst (L.map dN) :: g) = H at *
            simp
          generalize h ++ (AO.lst [.int 0] :: AO.lst (L.map dN) :: g) = H at *
          generalize f.getD i 0 = v at *
          have st2 : (sSeq (sSet 4 (eOp oIx (eVar 0) (eVar 2))) (sSeq (sWhile wc__law_sizes_2 lb__law_sizes_2) (sFor (iVal (eVar 3)) (gVar 5) lb__law_sizes_3))) [some (dC f), some (.ref (h.length + 1)), some (dN i), some (.ref (h.length + 2 + g.length)), x4, x5] (H ++ [AO.lst [dN i]]) = .nx [some (dC f), some (.ref (h.length + 1)), some (dN i), some (.ref (h.length + 2 + g.length)), some (dN i), x5'] H3 := by
            simp only [dN, dC] at xf w1 w2 ⊢
            simp [xf, w1, gcc, w2]
          unfold lb__law_sizes_1
          rw [sIf_]
          have cond : eOp oEq (eOp oIx (eVar 1) (eVar 2)) (eC (D.int 0)) (List.set [some (dC f), some (.ref (h.length + 1)), x2, x3, x4, x5] 2 (some (dN i))) H = .ok (.bl true) H := by
            simp [g1', x1]
          rw [cond, thenS_ok, onB_bl, if_pos rfl, sSeq_]
          rw [show List.set [some (dC f), some (D.ref (h.length + 1)), x2, x3, x4, x5] 2 (some (dN i)) = [some (dC f), some (.ref (h.length + 1)), some (dN i), x3, x4, x5] from rfl, st, sthen_nx]
          exact st2
        · by_cases m : y ∈ cyc f i
          · rw [a1 y m, C.len P hi, len_eq P hi (C.mem.mp m)]
          · rw [a2 y hy m]
            refine al y hy ⟨j, ?_, r⟩
            refine Nat.lt_of_le_of_ne (by omega) fun e => m (by rw [C.mem]; rw [e] at r; exact r)
        · have m : y ∉ cyc f i := fun m => no i (by omega) (C.mem.mp m)
          rw [a2 y hy m]
          exact un y hy fun j hj => no j (by omega))
  have eL : L = lnL f n := ext_getD (by rw [lL, lnL_len]) fun y hy => by
    rw [lL] at hy
    rw [lnL_at hy]
    exact al y hy ⟨y, hy, .refl⟩
  rw [eL] at w
  have r1 : RepOk 1 (n : Int) := repOk_1 (by omega)
  have r2 : RgB (n : Int) := rgB_nat (by omega)
  have e : c__law_sizes [dC f] h = gc h (.ok (.ref (h.length + 1)) (h ++ (.lst [.int 0] :: .lst ((lnL f n).map dN) :: g))) := by
    unfold c__law_sizes fsem
    have w0 : (List.replicate n 0).map dN = List.replicate n (D.int 0) := by simp
    rw [w0] at w
    simp only [dC] at w ⊢
    simp [m__law_sizes, lf, r1, r2, rg_zero, w]
  rw [e, gc_new (i := 1) rfl (by simp)]
end Law

set_option maxHeartbeats 1000000
namespace Law
open PySem Rf L2
noncomputable def tlL (f : List Nat) (n : Nat) : List Nat := (List.range (n + 1)).map (cntL f n)
theorem tlL_eq {f g : List Nat} {n : Nat} : tlL f n = tlL g n ↔ ∀ s, cntL f n s = cntL g n s := by
  constructor
  · intro e s
    by_cases hs : s < n + 1
    · have := congrArg (fun l => l.getD s 0) e
      unfold tlL at this
      rw [map_getD (d := 0) (by simpa using hs), map_getD (d := 0) (by simpa using hs), range_D hs] at this
      exact this
    · have z : ∀ f : List Nat, cntL f n s = 0 := fun f => by
        unfold cntL
        rw [List.length_eq_zero_iff, List.filter_eq_nil_iff]
        intro x _
        have := len_le (f := f) (n := n) (x := x)
        simp; omega
      rw [z f, z g]
  · intro e
    unfold tlL
    exact List.map_congr_left fun s _ => e s
theorem tally_spec {f : List Nat} {n : Nat} (hn : n ≤ 1000) {h : AH} {r : Nat} (hr : h[r]? = some (.lst ((lnL f n).map dN))) :
    c__law_tally [.ref r] h = .ok (.ref h.length) (h ++ [.lst ((tlL f n).map dN)]) := by
  have hrl := (List.getElem?_eq_some_iff.mp hr).1
  obtain ⟨e', h', w, x2, T, rfl, rfl, lT, cT⟩ := liveL_inv (g := gVar 2) (b := lb__law_tally_1) (r := r) (ds := (lnL f n).map dN)
    (fun i e h' => ∃ x2 T, e = [some (.ref r), some (.ref (h.length + 1)), x2] ∧ h' = h ++ [.lst [.int 0], .lst (T.map dN)] ∧ T.length = n + 1 ∧ ∀ s, s < n + 1 → T.getD s 0 = (((lnL f n).take i).filter (· == s)).length)
    (e := [some (.ref r), some (.ref (h.length + 1)), none]) (h := h ++ [.lst [.int 0], .lst ((List.replicate (n + 1) 0).map dN)])
    (by rintro i e h' ⟨x2, T, rfl, rfl, _⟩; exact app_get_l hr)
    ⟨none, List.replicate (n + 1) 0, rfl, rfl, by simp, fun s hs => by rw [List.take_zero]; simp [hs]⟩ (by
      rintro i d e h' hd ⟨x2, T, rfl, rfl, lT, cT⟩
      have hi : i < (lnL f n).length := by have := (List.getElem?_eq_some_iff.mp hd).1; simpa using this
      obtain ⟨v, ev⟩ : ∃ v, v = (lnL f n).getD i 0 := ⟨_, rfl⟩
      obtain rfl : dN v = d := by
        rw [List.getElem?_map, getD_some (a := 0) hi, ← ev] at hd
        exact Option.some.inj hd
      rw [lnL_len] at hi
      have hv : v < n + 1 := by rw [ev, lnL_at hi]; have := len_le (f := f) (n := n) (x := i); omega
      have tk : (lnL f n).take (i + 1) = (lnL f n).take i ++ [v] := by rw [List.take_add_one, getD_some (a := 0) (by rw [lnL_len]; exact hi), ← ev]; rfl
      have x1 : ∀ h, ixD (T.map dN) (v : Int) h = .ok (dN (T.getD v 0)) h := fun h => ixD_N (by omega)
      have pb : ∀ w r h, putO (some (.lst (T.map dN))) r (v : Int) (dN w) h = some (h.set r (.lst ((T.set v w).map dN))) := fun w r h => putO_N (by omega)
      have g1 : (h ++ [AO.lst [.int 0], AO.lst (T.map dN)])[h.length + 1]? = some (.lst (T.map dN)) := by rw [app_get]; rfl
      have s1 : (h ++ [AO.lst [.int 0], AO.lst (T.map dN)]).set (h.length + 1) (.lst ((T.set v (T.getD v 0 + 1)).map dN)) = h ++ [AO.lst [.int 0], AO.lst ((T.set v (T.getD v 0 + 1)).map dN)] := by rw [app_set rfl]; rfl
      refine ⟨_, _, ?_, some (dN v), T.set v (T.getD v 0 + 1), rfl, rfl, by simpa using lT, fun s hs => ?_⟩
      · rw [← s1]
        have pb' := pb (T.getD v 0 + 1)
        have ec : dN (T.getD v 0 + 1) = .int ((T.getD v 0 : Nat) + 1) := by unfold dN; congr 1
        rw [ec] at pb'
        generalize T.set v (T.getD v 0 + 1) = T2 at *
        generalize T.getD v 0 = tv at *
        generalize h ++ [AO.lst [.int 0], AO.lst (T.map dN)] = H at *
        simp only [dN] at x1 pb'
        simp [lb__law_tally_1, g1, x1, pb']
      · rw [getD_set (by omega), tk, List.filter_append, List.length_append]
        by_cases e : v = s
        · subst e
          rw [if_pos rfl, cT v hs, List.filter_cons, if_pos (by simp)]; rfl
        · rw [if_neg e, cT s hs, List.filter_cons, if_neg (by simpa using e)]; simp)
  rw [List.length_map, List.take_length] at cT
  have eT : T = tlL f n := ext_getD (by rw [lT]; simp [tlL]) fun s hs => by
    rw [lT] at hs
    rw [cT s hs]
    unfold tlL
    rw [map_getD (d := 0) (by simpa using hs), range_D hs]
    unfold lnL cntL
    rw [List.filter_map, List.length_map]; rfl
  rw [eT] at w
  have r1 : RepOk 1 ((n : Int) + 1) := repOk_1 (n := n + 1) (by omega)
  have tn : ((n : Int) + 1).toNat = n + 1 := by omega
  have ll : ((lnL f n).map dN).length = n := by rw [List.length_map, lnL_len]
  have w0 : (List.replicate (n + 1) 0).map dN = List.replicate (n + 1) (D.int 0) := by simp
  rw [w0] at w
  have hr1 : (h ++ [AO.lst [.int 0], AO.lst (List.replicate (n + 1) (D.int 0))])[r]? = some (.lst ((lnL f n).map dN)) := app_get_l hr
  have hr2 : (h ++ [AO.lst [.int 0]])[r]? = some (.lst ((lnL f n).map dN)) := app_get_l hr
  have hr3 : (h ++ [AO.lst [.int 0]])[h.length]? = some (.lst [.int 0]) := by simp
  have e : c__law_tally [.ref r] h = gc h (.ok (.ref (h.length + 1)) (h ++ [.lst [.int 0], .lst ((tlL f n).map dN)])) := by
    unfold c__law_tally fsem
    generalize (lnL f n).map dN = ds at *
    simp [m__law_tally, ll, r1, tn, w, hr1, hr2]
  rw [e, gc_new (i := 1) rfl (by simp)]
/-- the heap of is_least -/
def IL (h : AH) (a b c d : List Nat) (n : Nat) (A B : List Nat) (g : AH) : AH := h ++ (.lst (a.map dN) :: .lst (b.map dN) :: .lst (c.map dN) :: .lst (d.map dN) :: .lst [.bl false] :: .lst (kn n A) :: .lst [.bl false] :: .lst (kn n B) :: g)
section
variable {h g : AH} {a b c d A B : List Nat} {n : Nat}
theorem IL_0 : (IL h a b c d n A B g)[h.length]? = some (.lst (a.map dN)) := by unfold IL; rw [app_get0]; rfl
theorem IL_5 : (IL h a b c d n A B g)[h.length + 5]? = some (.lst (kn n A)) := by unfold IL; rw [app_get]; rfl
theorem IL_7 : (IL h a b c d n A B g)[h.length + 7]? = some (.lst (kn n B)) := by unfold IL; rw [app_get]; rfl
theorem IL_s5 (M : List Nat) : (IL h a b c d n A B g).set (h.length + 5) (.lst (kn n M)) = IL h a b c d n M B g := by unfold IL; rw [app_set rfl]; rfl
theorem IL_s7 (M : List Nat) : (IL h a b c d n A B g).set (h.length + 7) (.lst (kn n M)) = IL h a b c d n A M g := by unfold IL; rw [app_set rfl]; rfl
theorem IL_app (x : AH) : IL h a b c d n A B g ++ x = IL h a b c d n A B (g ++ x) := by unfold IL; simp
theorem IL_len : (IL h a b c d n A B g).length = h.length + 8 + g.length := by unfold IL; simp; omega
end
theorem least_some {f g m : List Nat} {n : Nat} (P : IsP n f) (Q : IsP n g) (hn : n ≤ 1000) (ct : ∀ s, cntL f n s = cntL g n s) (M : Mat f g n m) {h : AH} :
    c__law_is_least [dC m, dC f, dC g] h = .ok (.bl true) h := by
  have lf := P.len
  have lm := M.P.len
  have sz1 := fun h => sizes_spec Q hn (h := h)
  have sz2 := fun h => sizes_spec P hn (h := h)
  have te : tlL f n = tlL g n := tlL_eq.mpr ct
  have MT : Car f g n m := M.toCar
  obtain ⟨e', h', w, x7, x8, x9, x10, g', rfl, rfl⟩ := loopN (k := 7) (b := lb__law_is_least_1)
    (fun i e h' => ∃ x7 x8 x9 x10 g', e = [some (dC m), some (dC f), some (dC g), some (dN n), some (.ref h.length), some (.ref (h.length + 5)), some (.ref (h.length + 7)), x7, x8, x9, x10, none] ∧ h' = IL h (lnL g n) (lnL f n) (tlL f n) (tlL g n) n (knO [f] n i) ((knO [f] n i).map fun x => m.getD x 0) g')
    n (e := [some (dC m), some (dC f), some (dC g), some (dN n), some (.ref h.length), some (.ref (h.length + 5)), some (.ref (h.length + 7)), none, none, none, none, none]) (h := IL h (lnL g n) (lnL f n) (tlL f n) (tlL g n) n [] [] [])
    ⟨none, none, none, none, [], rfl, by
      have e1 : knO [f] n 0 = [] := by unfold knO; rw [List.filter_eq_nil_iff]; simp
      rw [e1]; rfl⟩ (by
      rintro i e h' hi ⟨x7, x8, x9, x10, g', rfl, rfl⟩
      have k1 := kn_at (L := knO [f] n i) hi
      by_cases q : i ∈ knO [f] n i
      · obtain ⟨z, hz, r⟩ := (mem_knO.mp q).2
        have e2 : knO [f] n (i + 1) = knO [f] n i := by
          unfold knO
          apply List.filter_congr
          intro x _
          rw [decide_eq_decide]
          constructor
          · rintro ⟨z', hz', r'⟩
            by_cases e : z' = i
            · subst e; exact ⟨z, hz, r.trans r'⟩
            · exact ⟨z', by omega, r'⟩
          · rintro ⟨z', hz', r'⟩; exact ⟨z', by omega, r'⟩
        refine ⟨_, _, ?_, some (dN i), x8, x9, x10, g', rfl, by rw [e2]⟩
        rw [decide_eq_true q] at k1
        have g5 := IL_5 (h := h) (a := lnL g n) (b := lnL f n) (c := tlL f n) (d := tlL g n) (n := n) (A := knO [f] n i) (B := (knO [f] n i).map fun x => m.getD x 0) (g := g')
        generalize IL h (lnL g n) (lnL f n) (tlL f n) (tlL g n) n (knO [f] n i) ((knO [f] n i).map fun x => m.getD x 0) g' = H at *
        simp [lb__law_is_least_1, g5, k1]
      · have hd : Hd [f] i := fun z hz r => q (mem_knO.mpr ⟨hi, z, hz, r⟩)
        rw [decide_eq_false q] at k1
        have C := cyc_cy P hi
        have cn := C.toPa.lt P hi
        have cp := C.pos
        have my := MT.P.lt i hi
        have lgy : Rf.len g n (m.getD i 0) = Rf.len f n i := MT.len P Q hi
        have lc0 := C.len P hi
        obtain ⟨y, ey⟩ : ∃ y, y = m.getD i 0 := ⟨_, rfl⟩
        rw [← ey] at my lgy
        -- none is left below
        have lc : lc__law_is_least_1 [some (dC m), some (dC f), some (dC g), some (dN n), some (.ref h.length), some (.ref (h.length + 5)), some (.ref (h.length + 7)), some (dN i), some (dN y), x9, x10, none] (IL h (lnL g n) (lnL f n) (tlL f n) (tlL g n) n (knO [f] n i) ((knO [f] n i).map fun x => m.getD x 0) g') = .ok (.ref (h.length + 8 + g'.length)) (IL h (lnL g n) (lnL f n) (tlL f n) (tlL g n) n (knO [f] n i) ((knO [f] n i).map fun x => m.getD x 0) (g' ++ [.lst []])) := by
          unfold lc__law_is_least_1
          have g0 := IL_0 (h := h) (a := lnL g n) (b := lnL f n) (c := tlL f n) (d := tlL g n) (n := n) (A := knO [f] n i) (B := (knO [f] n i).map fun x => m.getD x 0) (g := g')
          have g7 := IL_7 (h := h) (a := lnL g n) (b := lnL f n) (c := tlL f n) (d := tlL g n) (n := n) (A := knO [f] n i) (B := (knO [f] n i).map fun x => m.getD x 0) (g := g')
          have hl := IL_len (h := h) (a := lnL g n) (b := lnL f n) (c := tlL f n) (d := tlL g n) (n := n) (A := knO [f] n i) (B := (knO [f] n i).map fun x => m.getD x 0) (g := g')
          have ap := IL_app (h := h) (a := lnL g n) (b := lnL f n) (c := tlL f n) (d := tlL g n) (n := n) (A := knO [f] n i) (B := (knO [f] n i).map fun x => m.getD x 0) (g := g') [AO.lst []]
          have nil : (List.range y).filter (fun z => (Rf.len g n z == Rf.len g n y) && !decide (z ∈ (knO [f] n i).map fun x => m.getD x 0)) = [] := by
            rw [List.filter_eq_nil_iff]
            intro z hz
            rw [List.mem_range] at hz
            simp only [Bool.and_eq_true, beq_iff_eq, Bool.not_eq_true', decide_eq_false_iff_not, not_and, Classical.not_not]
            intro e
            obtain ⟨j, x, h1, h2, h3, h4⟩ := M.gr i hi hd z (by rw [← ey]; exact hz) (by rw [e, lgy])
            exact List.mem_map.mpr ⟨x, mem_knO.mpr ⟨h2, j, h1, h3⟩, h4⟩
          rw [eLc_pure (φ := dN) (List.range y) (fun z => (Rf.len g n z == Rf.len g n y) && !decide (z ∈ (knO [f] n i).map fun x => m.getD x 0)) dN (h1 := IL h (lnL g n) (lnL f n) (tlL f n) (tlL g n) n (knO [f] n i) ((knO [f] n i).map fun x => m.getD x 0) g') (iRange1_nat (by simp) (by omega)) (by rw [List.length_range, sizeLine_eq]; omega)]
          · rw [nil, hl, List.map_nil, ap]
          · intro z hz
            rw [List.mem_range] at hz
            have x1 : ∀ h, ixD ((lnL g n).map dN) (z : Int) h = .ok (dN (Rf.len g n z)) h := fun h => by rw [← lnL_at (by omega : z < n)]; exact ixD_N (by rw [lnL_len]; omega)
            have x2 : ∀ h, ixD ((lnL g n).map dN) (y : Int) h = .ok (dN (Rf.len g n y)) h := fun h => by rw [← lnL_at my]; exact ixD_N (by rw [lnL_len]; omega)
            have k2 := kn_at (n := n) (L := (knO [f] n i).map fun x => m.getD x 0) (x := z) (by omega)
            generalize IL h (lnL g n) (lnL f n) (tlL f n) (tlL g n) n (knO [f] n i) ((knO [f] n i).map fun x => m.getD x 0) g' = H at *
            generalize (knO [f] n i).map (fun x => m.getD x 0) = BB at *
            generalize decide (z ∈ BB) = bz at *
            generalize Rf.len g n z = l1 at *
            generalize Rf.len g n y = l2 at *
            simp only [dN] at x1 x2
            by_cases e : l1 = l2
            · simp [wipeE, g0, g7, x1, x2, k2, e]
            · simp [wipeE, g0, g7, x1, x2, k2, e]
          · intro z _ _
            simp [wipeE]
        -- the cycle is marked
        obtain ⟨e', h', w, x9', x10', rfl, rfl, he9⟩ := loopN (k := 10) (b := lb__law_is_least_2)
          (fun k e h' => ∃ x9' x10, e = [some (dC m), some (dC f), some (dC g), some (dN n), some (.ref h.length), some (.ref (h.length + 5)), some (.ref (h.length + 7)), some (dN i), some (dN y), x9', x10, none] ∧ h' = IL h (lnL g n) (lnL f n) (tlL f n) (tlL g n) n (knO [f] n i ++ (cyc f i).take k) ((knO [f] n i ++ (cyc f i).take k).map fun x => m.getD x 0) (g' ++ [.lst []]) ∧ x9' = some (dN ((cyc f i).getD (if k < (cyc f i).length then k else 0) 0)))
          (cyc f i).length (e := [some (dC m), some (dC f), some (dC g), some (dN n), some (.ref h.length), some (.ref (h.length + 5)), some (.ref (h.length + 7)), some (dN i), some (dN y), some (dN i), x10, none]) (h := IL h (lnL g n) (lnL f n) (tlL f n) (tlL g n) n (knO [f] n i) ((knO [f] n i).map fun x => m.getD x 0) (g' ++ [.lst []]))
          ⟨_, x10, rfl, by rw [List.take_zero, List.append_nil], by rw [if_pos cp, C.hd]⟩ (by
            rintro k e h' hk ⟨x9', x10, rfl, rfl, rfl⟩
            rw [if_pos hk]
            have mc := getD_mem (d := 0) hk
            have hc := cn _ mc
            have nx := C.nxt hk
            obtain ⟨u, eu⟩ : ∃ u, u = (cyc f i).getD k 0 := ⟨_, rfl⟩
            rw [← eu] at hc nx ⊢
            have mu := MT.P.lt u hc
            have tk : (cyc f i).take (k + 1) = (cyc f i).take k ++ [u] := by rw [List.take_add_one, getD_some (a := 0) hk, ← eu]; rfl
            have x1 : ∀ h, ixD (m.map dN) (u : Int) h = .ok (dN (m.getD u 0)) h := fun h => ixD_N (by omega)
            have x2 : ∀ h, ixD (f.map dN) (u : Int) h = .ok (dN (f.getD u 0)) h := fun h => ixD_N (by omega)
            rw [nx] at x2
            refine ⟨_, _, ?_, _, some (dN k), rfl, rfl, rfl⟩
            rw [tk, ← List.append_assoc, List.map_append (l₂ := [u]), List.map_cons, List.map_nil]
            have p1 : ∀ L r h, putO (some (.lst (kn n L))) r (u : Int) (.bl true) h = some (h.set r (.lst (kn n (L ++ [u])))) := fun L r h => kn_put hc
            have p2 : ∀ L r h, putO (some (.lst (kn n L))) r ((m.getD u 0 : Nat) : Int) (.bl true) h = some (h.set r (.lst (kn n (L ++ [m.getD u 0])))) := fun L r h => kn_put mu
            generalize knO [f] n i ++ (cyc f i).take k = A at *
            generalize A.map (fun x => m.getD x 0) = B at *
            generalize m.getD u 0 = v at *
            generalize (cyc f i).getD (if k + 1 < (cyc f i).length then k + 1 else 0) 0 = u2 at *
            simp only [dN] at x1 x2
            simp [lb__law_is_least_2, IL_5, IL_7, IL_s5, IL_s7, dC, x1, x2, p1, p2])
        rw [List.take_length] at w
        have e5 : kn n (knO [f] n (i + 1)) = kn n (knO [f] n i ++ cyc f i) := kn_ext fun x hx => by
          rw [List.mem_append, mem_knO, mem_knO, C.mem]
          constructor
          · rintro ⟨_, z', hz', r'⟩
            by_cases e : z' = i
            · subst e; exact .inr r'
            · exact .inl ⟨hx, z', by omega, r'⟩
          · rintro (⟨_, z', hz', r'⟩ | r)
            · exact ⟨hx, z', by omega, r'⟩
            · exact ⟨hx, i, by omega, r⟩
        have e7 : kn n ((knO [f] n (i + 1)).map fun x => m.getD x 0) = kn n ((knO [f] n i ++ cyc f i).map fun x => m.getD x 0) := kn_ext fun x hx => by
          rw [List.mem_map, List.mem_map]
          constructor
          · rintro ⟨z, hz, e⟩
            obtain ⟨zn, j, hj, r⟩ := mem_knO.mp hz
            refine ⟨z, List.mem_append.mpr ?_, e⟩
            by_cases e : j = i
            · subst e; exact .inr (C.mem.mpr r)
            · exact .inl (mem_knO.mpr ⟨zn, j, by omega, r⟩)
          · rintro ⟨z, hz, e⟩
            refine ⟨z, ?_, e⟩
            rcases List.mem_append.mp hz with hz | hz
            · obtain ⟨zn, j, hj, r⟩ := mem_knO.mp hz
              exact mem_knO.mpr ⟨zn, j, by omega, r⟩
            · exact mem_knO.mpr ⟨cn z hz, i, by omega, C.mem.mp hz⟩
        refine ⟨_, IL h (lnL g n) (lnL f n) (tlL f n) (tlL g n) n (knO [f] n i ++ cyc f i) ((knO [f] n i ++ cyc f i).map fun x => m.getD x 0) (g' ++ [AO.lst []]), ?_, some (dN i), some (dN y), x9', x10', g' ++ [.lst []], rfl, by
          unfold IL
          rw [e5, e7]⟩
        have g5 := IL_5 (h := h) (a := lnL g n) (b := lnL f n) (c := tlL f n) (d := tlL g n) (n := n) (A := knO [f] n i) (B := (knO [f] n i).map fun x => m.getD x 0) (g := g')
        have ge : (IL h (lnL g n) (lnL f n) (tlL f n) (tlL g n) n (knO [f] n i) ((knO [f] n i).map fun x => m.getD x 0) (g' ++ [AO.lst []]))[h.length + 8 + g'.length]? = some (.lst []) := by
          unfold IL
          rw [show h.length + 8 + g'.length = h.length + (g'.length + 8) by omega, app_get]
          simp
        have g0 := IL_0 (h := h) (a := lnL g n) (b := lnL f n) (c := tlL f n) (d := tlL g n) (n := n) (A := knO [f] n i) (B := (knO [f] n i).map fun x => m.getD x 0) (g := g' ++ [AO.lst []])
        have x1 : ∀ h, ixD (m.map dN) (i : Int) h = .ok (dN y) h := fun h => by rw [ey]; exact ixD_N (by omega)
        have x2 : ∀ h, ixD ((lnL g n).map dN) (y : Int) h = .ok (dN (cyc f i).length) h := fun h => by rw [lc0, ← lgy, ← lnL_at my]; exact ixD_N (by rw [lnL_len]; omega)
        have lci : (cyc f i).length ≤ n := by rw [lc0]; exact len_le
        have r3 : RgB ((cyc f i).length : Int) := rgB_nat (by omega)
        generalize IL h (lnL g n) (lnL f n) (tlL f n) (tlL g n) n (knO [f] n i) ((knO [f] n i).map fun x => m.getD x 0) (g' ++ [AO.lst []]) = H1 at *
        generalize IL h (lnL g n) (lnL f n) (tlL f n) (tlL g n) n (knO [f] n i) ((knO [f] n i).map fun x => m.getD x 0) g' = H0 at *
        generalize IL h (lnL g n) (lnL f n) (tlL f n) (tlL g n) n (knO [f] n i ++ cyc f i) ((knO [f] n i ++ cyc f i).map fun x => m.getD x 0) (g' ++ [AO.lst []]) = H2 at *
        generalize (cyc f i).length = cl at *
        simp only [dC, dN] at w lc x1 x2 ⊢
        simp [lb__law_is_least_1, g5, k1, x1, lc, ge, g0, x2, r3, rg_zero, w])
  have ip := fun h => is_perm_spec MT.P hn (h := h)
  have cs := fun h => carries_spec P Q MT.P hn (h := h)
  rw [@decide_eq_true _ (Classical.propDecidable _) MT] at cs
  have r1 : RepOk 1 (n : Int) := repOk_1 (by omega)
  have r2 : RgB (n : Int) := rgB_nat (by omega)
  have t1 := tally_spec (f := f) hn (h := (h ++ [AO.lst ((lnL g n).map dN)]) ++ [AO.lst ((lnL f n).map dN)]) (r := (h ++ [AO.lst ((lnL g n).map dN)]).length) getLast_app
  have t2 := tally_spec (f := g) hn (h := ((h ++ [AO.lst ((lnL g n).map dN)]) ++ [AO.lst ((lnL f n).map dN)]) ++ [AO.lst ((tlL f n).map dN)]) (r := h.length) (app_get_l (app_get_l getLast_app))
  have on := oNe_L (us := tlL f n) (vs := tlL g n) (h := (((h ++ [AO.lst ((lnL g n).map dN)]) ++ [AO.lst ((lnL f n).map dN)]) ++ [AO.lst ((tlL f n).map dN)]) ++ [AO.lst ((tlL g n).map dN)]) (r := ((h ++ [AO.lst ((lnL g n).map dN)]) ++ [AO.lst ((lnL f n).map dN)]).length) (q := (((h ++ [AO.lst ((lnL g n).map dN)]) ++ [AO.lst ((lnL f n).map dN)]) ++ [AO.lst ((tlL f n).map dN)]).length) (app_get_l getLast_app) getLast_app
  rw [decide_eq_true te] at on
  have w0 : IL h (lnL g n) (lnL f n) (tlL f n) (tlL g n) n [] [] [] = h ++ [.lst ((lnL g n).map dN), .lst ((lnL f n).map dN), .lst ((tlL f n).map dN), .lst ((tlL g n).map dN), .lst [.bl false], .lst (kn n []), .lst [.bl false], .lst (kn n [])] := rfl
  rw [w0] at w
  have e : c__law_is_least [dC m, dC f, dC g] h = gc h (.ok (.bl true) (IL h (lnL g n) (lnL f n) (tlL f n) (tlL g n) n (knO [f] n n) ((knO [f] n n).map fun x => m.getD x 0) g')) := by
    unfold c__law_is_least fsem
    generalize IL h (lnL g n) (lnL f n) (tlL f n) (tlL g n) n (knO [f] n n) ((knO [f] n n).map fun x => m.getD x 0) g' = HF at *
    generalize (lnL g n).map dN = lg at *
    generalize (lnL f n).map dN = lff at *
    generalize (tlL f n).map dN = tf at *
    generalize (tlL g n).map dN = tg at *
    simp only [dC] at w sz1 sz2 ip cs ⊢
    simp at t1 t2 on
    simp [m__law_is_least, lf, sz1, sz2, t1, t2, on, ip, cs, r1, r2, rg_zero, kn_nil, w]
  rw [e]
  unfold IL
  rw [gc_app rfl]
theorem least_none {f g : List Nat} {n : Nat} (P : IsP n f) (Q : IsP n g) (hn : n ≤ 1000) (no : ¬ ∀ s, cntL f n s = cntL g n s) {h : AH} :
    c__law_is_least [.non, dC f, dC g] h = .ok (.bl true) h := by
  have lf := P.len
  have sz1 := fun h => sizes_spec Q hn (h := h)
  have sz2 := fun h => sizes_spec P hn (h := h)
  have te : tlL f n ≠ tlL g n := fun e => no (tlL_eq.mp e)
  have t1 := tally_spec (f := f) hn (h := (h ++ [AO.lst ((lnL g n).map dN)]) ++ [AO.lst ((lnL f n).map dN)]) (r := (h ++ [AO.lst ((lnL g n).map dN)]).length) getLast_app
  have t2 := tally_spec (f := g) hn (h := ((h ++ [AO.lst ((lnL g n).map dN)]) ++ [AO.lst ((lnL f n).map dN)]) ++ [AO.lst ((tlL f n).map dN)]) (r := h.length) (app_get_l (app_get_l getLast_app))
  have on := oNe_L (us := tlL f n) (vs := tlL g n) (h := (((h ++ [AO.lst ((lnL g n).map dN)]) ++ [AO.lst ((lnL f n).map dN)]) ++ [AO.lst ((tlL f n).map dN)]) ++ [AO.lst ((tlL g n).map dN)]) (r := ((h ++ [AO.lst ((lnL g n).map dN)]) ++ [AO.lst ((lnL f n).map dN)]).length) (q := (((h ++ [AO.lst ((lnL g n).map dN)]) ++ [AO.lst ((lnL f n).map dN)]) ++ [AO.lst ((tlL f n).map dN)]).length) (app_get_l getLast_app) getLast_app
  rw [decide_eq_false te] at on
  have e : c__law_is_least [.non, dC f, dC g] h = gc h (.ok (.bl true) (h ++ [.lst ((lnL g n).map dN), .lst ((lnL f n).map dN), .lst ((tlL f n).map dN), .lst ((tlL g n).map dN)])) := by
    unfold c__law_is_least fsem
    generalize (lnL g n).map dN = lg at *
    generalize (lnL f n).map dN = lff at *
    generalize (tlL f n).map dN = tf at *
    generalize (tlL g n).map dN = tg at *
    simp only [dC] at sz1 sz2 ⊢
    simp at t1 t2 on
    simp [m__law_is_least, lf, sz1, sz2, t1, t2, on, D.isNon]
  rw [e, gc_app rfl]
end Law

set_option maxHeartbeats 1000000
namespace Law
open PySem Rf L2
/-! ### all rows, in order -/
def ext (n : Nat) (row : List Nat) : List (List Nat) := ((List.range n).filter fun x => !row.contains x).map fun x => row ++ [x]
def allR (n : Nat) : Nat → List (List Nat)
  | 0 => [[]]
  | k + 1 => (allR n k).flatMap (ext n)
theorem allR_row {n : Nat} : ∀ {k : Nat} {r : List Nat}, r ∈ allR n k → r.length = k ∧ r.Nodup ∧ ∀ x ∈ r, x < n
  | 0, r, h => by
    have : r = [] := by simpa [allR] using h
    subst this
    simp
  | k + 1, r, h => by
    obtain ⟨row, hr, he⟩ := List.mem_flatMap.mp (show r ∈ (allR n k).flatMap (ext n) from h)
    obtain ⟨h1, h2, h3⟩ := allR_row hr
    obtain ⟨x, hx, rfl⟩ := List.mem_map.mp (show r ∈ ((List.range n).filter fun x => !row.contains x).map (fun x => row ++ [x]) from he)
    obtain ⟨hx1, hx2⟩ := List.mem_filter.mp hx
    rw [List.mem_range] at hx1
    have nx : x ∉ row := by simpa using hx2
    refine ⟨by simp [h1], List.nodup_append.mpr ⟨h2, by simp, fun a ha b hb => by rw [List.mem_singleton] at hb; subst hb; exact fun e => nx (e ▸ ha)⟩, fun y hy => ?_⟩
    rcases List.mem_append.mp hy with hy | hy
    · exact h3 y hy
    · rw [List.mem_singleton] at hy; subst hy; exact hx1
theorem allR_mem {n : Nat} : ∀ (r : List Nat), r.reverse.Nodup → (∀ x ∈ r.reverse, x < n) → r.reverse ∈ allR n r.length
  | [], _, _ => by simp [allR]
  | x :: r, nd, lt => by
    rw [List.reverse_cons] at nd lt ⊢
    have n1 := List.nodup_append.mp nd
    have ih := allR_mem r n1.1 fun y hy => lt y (List.mem_append_left _ hy)
    show r.reverse ++ [x] ∈ (allR n r.length).flatMap (ext n)
    refine List.mem_flatMap.mpr ⟨r.reverse, ih, List.mem_map.mpr ⟨x, List.mem_filter.mpr ⟨List.mem_range.mpr (lt x (by simp)), ?_⟩, rfl⟩⟩
    have : x ∉ r.reverse := fun m => n1.2.2 x m x (by simp) rfl
    simpa using this
theorem ext_len {n : Nat} {row : List Nat} : (ext n row).length ≤ n := by
  unfold ext
  rw [List.length_map]
  exact Nat.le_trans (List.length_filter_le _ _) (by simp)
theorem flat_len {n : Nat} : ∀ rows : List (List Nat), (rows.flatMap (ext n)).length ≤ rows.length * n
  | [] => by simp
  | row :: rows => by
    rw [List.flatMap_cons, List.length_append, List.length_cons, Nat.succ_mul]
    have := ext_len (n := n) (row := row)
    have := flat_len (n := n) rows
    omega
theorem allR_len {n : Nat} : ∀ k, (allR n k).length ≤ n ^ k
  | 0 => by simp [allR]
  | k + 1 => by
    have := flat_len (n := n) (allR n k)
    have ih := Nat.mul_le_mul_right n (allR_len (n := n) k)
    rw [Nat.pow_succ]
    exact Nat.le_trans this ih
theorem allR_up {n : Nat} : ∀ k, (allR n k).Pairwise lx
  | 0 => by simp [allR]
  | k + 1 => by
    show ((allR n k).flatMap (ext n)).Pairwise lx
    rw [List.pairwise_flatMap]
    refine ⟨fun row hr => ?_, (allR_up k).imp_of_mem fun {a b} ha hb h x hx y hy => ?_⟩
    · unfold ext
      rw [List.pairwise_map]
      refine List.Pairwise.imp ?_ (List.Pairwise.filter _ List.pairwise_lt_range)
      intro u v huv
      exact (lx_snoc rfl).mpr (.inr ⟨rfl, huv⟩)
    · unfold ext at hx hy
      obtain ⟨u, _, rfl⟩ := List.mem_map.mp hx
      obtain ⟨v, _, rfl⟩ := List.mem_map.mp hy
      exact (lx_snoc (by rw [(allR_row ha).1, (allR_row hb).1])).mpr (.inl h)
theorem allR_isP {n : Nat} {r : List Nat} (h : r ∈ allR n n) : IsP n r := by
  obtain ⟨h1, h2, h3⟩ := allR_row h
  exact ⟨h1, fun i hi => h3 _ (getD_mem (by omega)), fun i j hi hj e => nodup_getD h2 (by omega) (by omega) e⟩
theorem allR_of {n : Nat} {r : List Nat} (P : IsP n r) : r ∈ allR n n := by
  have := allR_mem (n := n) r.reverse (by rw [List.reverse_reverse]; exact P.nodup) (fun x hx => by
    rw [List.reverse_reverse] at hx
    obtain ⟨i, hi, rfl⟩ := mem_getD (d := 0) hx
    exact P.lt i (by rw [← P.len]; exact hi))
  rwa [List.reverse_reverse, List.length_reverse, P.len] at this
theorem lc_all {n : Nat} (hn : n ≤ 1000) {row : List Nat} (hr : row.length ≤ 1000) {e1 e2 e3 e5 : Option D} {h : AH} : lc__law_all_1 [some (dN n), e1, e2, e3, some (dC row), e5] h = .ok (.ref h.length) (h ++ [.lst ((ext n row).map dC)]) := by
  unfold lc__law_all_1
  rw [eLc_pure (φ := dN) (List.range n) (fun x => !row.contains x) (fun x => dC (row ++ [x])) (h1 := h) (iRange1_nat (by simp) (by omega)) (by rw [List.length_range, sizeLine_eq]; omega)]
  · unfold ext; rw [List.map_map]; rfl
  · intro x _
    have := notIn2_tup (us := row) (h := h) (k := x)
    simp [wipeE, dC, this]
  · intro x _ _
    have ft : Fits (row.length + 1) := fits (by omega)
    simp [wipeE, dC, ft]
theorem allR_small {n k : Nat} (hn : n ≤ 6) (hk : k ≤ 6) : (allR n k).length ≤ 46656 :=
  Nat.le_trans (allR_len k) (Nat.le_trans (Nat.pow_le_pow_left hn k) (Nat.pow_le_pow_right (by decide) hk))
def AL (H : AH) (acc rows : List (List Nat)) (g : AH) : AH := H ++ (.lst (acc.map dC) :: .lst (rows.map dC) :: g)
section
variable {H g : AH} {acc rows : List (List Nat)}
theorem AL_0 : (AL H acc rows g)[H.length]? = some (.lst (acc.map dC)) := by unfold AL; rw [app_get0]; rfl
theorem AL_1 : (AL H acc rows g)[H.length + 1]? = some (.lst (rows.map dC)) := by unfold AL; rw [app_get]; rfl
theorem AL_g {i : Nat} : (AL H acc rows g)[H.length + 2 + i]? = g[i]? := by unfold AL; rw [Nat.add_assoc, app_get, show 2 + i = i + 1 + 1 by omega]; simp
theorem AL_len : (AL H acc rows g).length = H.length + 2 + g.length := by unfold AL; simp; omega
theorem AL_app (x : AH) : AL H acc rows g ++ x = AL H acc rows (g ++ x) := by unfold AL; simp
theorem AL_s (more : List (List Nat)) : (AL H acc rows g).set H.length (.lst (acc.map dC ++ more.map dC)) = AL H (acc ++ more) rows g := by
  have := app_set (h := H) (g := (.lst (acc.map dC) :: .lst (rows.map dC) :: g : AH)) (i := 0) (o := .lst (acc.map dC ++ more.map dC)) rfl
  unfold AL
  rw [Nat.add_zero] at this
  rw [this]; simp
end
theorem all_turn {n k : Nat} (hn : n ≤ 6) (hk : k < n) {H : AH} {r : Nat} (hr : H[r]? = some (.lst ((allR n k).map dC))) {x2 x3 x4 x5 : Option D} :
    ∃ y4 g, lb__law_all_1 [some (dN n), some (.ref r), x2, x3, x4, x5] H = .nx [some (dN n), some (.ref H.length), x2, some (.ref H.length), y4, x5] (AL H (allR n (k + 1)) (allR n k) g) := by
  have rl := allR_small hn (show k ≤ 6 by omega)
  obtain ⟨e', h', w, x4', g, rfl, rfl⟩ := liveL_inv (g := gVar 4) (b := lb__law_all_2) (r := H.length + 1) (ds := (allR n k).map dC)
    (fun j e h' => ∃ x4 g, e = [some (dN n), some (.ref r), x2, some (.ref H.length), x4, x5] ∧ h' = AL H (((allR n k).take j).flatMap (ext n)) (allR n k) g)
    (e := [some (dN n), some (.ref r), x2, some (.ref H.length), x4, x5]) (h := AL H [] (allR n k) [])
    (by rintro j e h' ⟨x4, g, rfl, rfl⟩; exact AL_1)
    ⟨x4, [], rfl, rfl⟩ (by
      rintro j d e h' hd ⟨x4, g, rfl, rfl⟩
      have hj : j < (allR n k).length := by have := (List.getElem?_eq_some_iff.mp hd).1; simpa using this
      obtain ⟨row, er⟩ : ∃ row, row = (allR n k).getD j [] := ⟨_, rfl⟩
      obtain rfl : dC row = d := by
        rw [List.getElem?_map, getD_some (a := []) hj, ← er] at hd
        exact Option.some.inj hd
      have hrow := (allR_row (n := n) (k := k) (r := row) (by rw [er]; exact getD_mem hj)).1
      have tk : (allR n k).take (j + 1) = (allR n k).take j ++ [row] := by rw [List.take_add_one, getD_some (a := []) hj, ← er]; rfl
      have fl : ((allR n k).take (j + 1)).flatMap (ext n) = ((allR n k).take j).flatMap (ext n) ++ ext n row := by rw [tk, List.flatMap_append]; simp
      have la := flat_len (n := n) ((allR n k).take j)
      have le := ext_len (n := n) (row := row)
      rw [List.length_take] at la
      have la2 : (((allR n k).take j).flatMap (ext n)).length ≤ 46656 * 6 := Nat.le_trans la (Nat.mul_le_mul (by omega) hn)
      have lc := lc_all (n := n) (by omega) (row := row) (by omega) (e1 := some (.ref r)) (e2 := x2) (e3 := some (.ref H.length)) (e5 := x5) (h := AL H (((allR n k).take j).flatMap (ext n)) (allR n k) g)
      rw [AL_app, AL_len] at lc
      refine ⟨_, _, ?_, some (dC row), g ++ [.lst ((ext n row).map dC)], rfl, rfl⟩
      rw [fl, ← AL_s]
      have mx := mExtend_L (xs := (((allR n k).take j).flatMap (ext n)).map dC) (ys := (ext n row).map dC) (h := AL H (((allR n k).take j).flatMap (ext n)) (allR n k) (g ++ [.lst ((ext n row).map dC)])) (r := H.length) (q := H.length + 2 + g.length) AL_0 (by rw [AL_g]; simp) (by rw [List.length_map, List.length_map]; omega)
      have g0 := AL_0 (H := H) (acc := ((allR n k).take j).flatMap (ext n)) (rows := allR n k) (g := g)
      generalize AL H (((allR n k).take j).flatMap (ext n)) (allR n k) (g ++ [.lst ((ext n row).map dC)]) = H2 at *
      generalize AL H (((allR n k).take j).flatMap (ext n)) (allR n k) g = H1 at *
      generalize (((allR n k).take j).flatMap (ext n)).map dC = accd at *
      generalize (ext n row).map dC = extd at *
      simp [lb__law_all_2, g0, lc, mx])
  rw [List.length_map, List.take_length] at w
  refine ⟨x4', g, ?_⟩
  have hr1 : (H ++ [AO.lst []])[r]? = some (.lst ((allR n k).map dC)) := app_get_l hr
  have z1 : (H ++ [AO.lst []]) ++ [AO.lst ((allR n k).map dC)] = AL H [] (allR n k) [] := by unfold AL; simp
  have z2 : (AL H [] (allR n k) [])[H.length + 1]? = some (.lst ((allR n k).map dC)) := AL_1
  have z3 : (H ++ [AO.lst []]).length = H.length + 1 := by simp
  rw [← z1] at w z2
  show lb__law_all_1 _ H = .nx _ (AL H ((allR n k).flatMap (ext n)) (allR n k) g)
  have st : sSet 3 (eLst lNil) [some (dN n), some (.ref r), x2, x3, x4, x5] H = .nx [some (dN n), some (.ref r), x2, some (.ref H.length), x4, x5] (H ++ [AO.lst []]) := by simp
  unfold lb__law_all_1
  rw [sSeq_, st, sthen_nx]
  generalize AL H ((allR n k).flatMap (ext n)) (allR n k) g = H3 at *
  generalize (allR n k).map dC = rd at *
  generalize hH1 : H ++ [AO.lst []] = H1 at *
  simp [hr1, z3, z2, w]
theorem all_spec {n : Nat} (hn : n ≤ 6) {h : AH} : c__law_all [dN n] h = .ok (.ref h.length) (h ++ [.lst ((allR n n).map dC)]) := by
  obtain ⟨e', h', w, r, x2, x3, x4, x5, g, rfl, rfl, hr, hrl⟩ := loopN (k := 2) (b := lb__law_all_1)
    (fun k e h' => ∃ r x2 x3 x4 x5 g, e = [some (dN n), some (.ref r), x2, x3, x4, x5] ∧ h' = h ++ g ∧ (h ++ g)[r]? = some (.lst ((allR n k).map dC)) ∧ h.length ≤ r)
    n (e := [some (dN n), some (.ref h.length), none, none, none, none]) (h := h ++ [.lst [dC []]])
    ⟨h.length, none, none, none, none, [.lst [dC []]], rfl, rfl, by simp [allR], Nat.le_refl _⟩ (by
      rintro k e h' hk ⟨r, x2, x3, x4, x5, g, rfl, rfl, hr, hrl⟩
      obtain ⟨x4', g', w⟩ := all_turn hn hk hr (x2 := some (dN k)) (x3 := x3) (x4 := x4) (x5 := x5)
      refine ⟨_, _, w, (h ++ g).length, some (dN k), some (.ref (h ++ g).length), x4', x5, g ++ (.lst ((allR n (k + 1)).map dC) :: .lst ((allR n k).map dC) :: g'), rfl, by unfold AL; simp, ?_, by simp⟩
      have := AL_0 (H := h ++ g) (acc := allR n (k + 1)) (rows := allR n k) (g := g')
      unfold AL at this
      rw [List.append_assoc] at this
      exact this)
  have r2 : RgB (n : Int) := rgB_nat (by omega)
  have e : c__law_all [dN n] h = gc h (.ok (.ref (h.length + (r - h.length))) (h ++ g)) := by
    unfold c__law_all fsem
    simp only [dC] at w
    rw [show h.length + (r - h.length) = r by omega]
    simp [m__law_all, r2, rg_zero] at w ⊢
    rw [w]; rfl
  rw [List.getElem?_append_right hrl] at hr
  rw [e, gc_new (o := .lst ((allR n n).map dC)) hr (by simp; exact pures_map fun c _ => by simp [dC])]
/-- the first row that carries -/
theorem tried_spec {f g : List Nat} {n : Nat} (P : IsP n f) (Q : IsP n g) (hn : n ≤ 6) {h : AH} {r : Nat} (hr : h[r]? = some (.lst ((allR n n).map dC))) :
    (c__law_tried [.ref r, dC f, dC g] h = .ok .non h ∧ ∀ p, ¬ Car f g n p) ∨ ∃ p, c__law_tried [.ref r, dC f, dC g] h = .ok (dC p) h ∧ Car f g n p ∧ ∀ p', Car f g n p' → p = p' ∨ lx p p' := by
  have z := liveL_ret (g := gVar 3) (b := lb__law_tried_1) (r := r) (ds := (allR n n).map dC)
    (fun i e h' => ∃ x3, e = [some (.ref r), some (dC f), some (dC g), x3] ∧ h = h' ∧ ∀ p ∈ (allR n n).take i, ¬ Car f g n p)
    (fun d h' => h = h' ∧ ∃ i p, (allR n n)[i]? = some p ∧ d = dC p ∧ Car f g n p ∧ ∀ p ∈ (allR n n).take i, ¬ Car f g n p)
    (e := [some (.ref r), some (dC f), some (dC g), none]) (h := h)
    (by rintro i e h' ⟨x3, rfl, rfl, _⟩; exact hr)
    ⟨none, rfl, rfl, fun p hp => absurd hp (by simp)⟩ (by
      rintro i d e h' hd ⟨x3, rfl, rfl, al⟩
      cases hp : (allR n n)[i]? with
      | none => rw [List.getElem?_map, hp] at hd; cases hd
      | some p =>
        rw [List.getElem?_map, hp] at hd
        obtain rfl : dC p = d := Option.some.inj hd
        have R := allR_isP (List.mem_of_getElem? hp)
        have cs := carries_spec P Q R (by omega) (h := h)
        have tk : (allR n n).take (i + 1) = (allR n n).take i ++ [p] := by rw [List.take_add_one, hp]; rfl
        by_cases q : Car f g n p
        · rw [@decide_eq_true _ (Classical.propDecidable _) q] at cs
          refine .inr ⟨_, _, ?_, rfl, i, p, hp, rfl, q, al⟩
          simp [lb__law_tried_1, cs]
        · rw [@decide_eq_false _ (Classical.propDecidable _) q] at cs
          refine .inl ⟨_, _, ?_, some (dC p), rfl, rfl, fun p' hp' => ?_⟩
          · simp [lb__law_tried_1, cs]
          · rw [tk] at hp'
            rcases List.mem_append.mp hp' with m | m
            · exact al p' m
            · rw [List.mem_singleton] at m; subst m; exact q)
  rw [List.length_map, List.take_length] at z
  rcases z with ⟨e', h', w, x3, rfl, rfl, al⟩ | ⟨d, h', w, rfl, i, p, hp, rfl, C, al⟩
  · refine .inl ⟨?_, fun p C => al p (allR_of C.P) C⟩
    have e : c__law_tried [.ref r, dC f, dC g] h = gc h (.ok .non h) := by
      unfold c__law_tried fsem
      simp [m__law_tried, hr, w]
    rw [e, gc_same rfl]
  · refine .inr ⟨p, ?_, C, fun p' C' => ?_⟩
    · have e : c__law_tried [.ref r, dC f, dC g] h = gc h (.ok (dC p) h) := by
        unfold c__law_tried fsem
        simp [m__law_tried, hr, w]
      rw [e, gc_same (by simp [dC])]
    · obtain ⟨j, hj, e⟩ := List.getElem_of_mem (allR_of C'.P)
      have hi := (List.getElem?_eq_some_iff.mp hp)
      obtain ⟨hi1, hi2⟩ := hi
      by_cases q : i = j
      · subst q
        exact .inl (by rw [← e, ← hi2])
      · right
        have lt : i < j := by
          refine Nat.lt_of_le_of_ne (Nat.le_of_not_lt fun l => ?_) q
          refine al p' ?_ C'
          rw [← e]
          exact List.mem_take_iff_getElem.mpr ⟨j, by omega, rfl⟩
        have := List.pairwise_iff_getElem.mp (allR_up (n := n) n) i j hi1 hj lt
        rw [hi2, e] at this
        exact this
/-- one pair of few points -/
theorem few_step {f g : List Nat} {n : Nat} (P : IsP n f) (Q : IsP n g) (hn : n ≤ 6) {h : AH} {r : Nat} (hr : h[r]? = some (.lst ((allR n n).map dC))) {x0 x4 x5 : Option D} :
    ∃ y4 y5, lb__law_few_1 [x0, some (dN n), some (.ref r), some (.tup [dC f, dC g]), x4, x5] h = .nx [x0, some (dN n), some (.ref r), some (.tup [dC f, dC g]), y4, y5] h := by
  rcases tried_spec P Q hn hr with ⟨wt, no⟩ | ⟨p, wt, C, le⟩
  · have ct : ¬ ∀ s, cntL f n s = cntL g n s := fun ct => by
      obtain ⟨m, _, M⟩ := matching_some P Q (by omega) ct (h := h)
      exact no m M.toCar
    have wm := matching_none P Q (by omega) ct (h := h)
    refine ⟨some .non, some .non, ?_⟩
    simp [lb__law_few_1, wt, wm, D.isNon]
  · obtain ⟨m, wm, M⟩ := matching_some P Q (by omega) (C.cnt P Q) (h := h)
    have e : m = p := by
      rcases M.least P Q C with e | l1
      · exact e
      · rcases le m M.toCar with e | l2
        · exact e.symm
        · exact absurd (lx_trans l1 l2) (lx_irr m)
    subst e
    have ip := is_perm_spec C.P (by omega) (h := h)
    have on : oNe (dC m) (dC m) h = .ok (.bl false) h := by
      unfold dC
      rw [oNe_tupN, decide_eq_true rfl]; rfl
    refine ⟨some (dC m), some (dC m), ?_⟩
    have nn : (dC m).isNon = false := rfl
    generalize dC m = dm at *
    simp [lb__law_few_1, wt, wm, nn, ip, on]
theorem many_step {f g : List Nat} {n : Nat} (P : IsP n f) (Q : IsP n g) (hn : n ≤ 1000) {h : AH} {x0 x1 : Option D} :
    lb__law_many_1 [x0, x1, some (.tup [dC f, dC g])] h = .nx [x0, x1, some (.tup [dC f, dC g])] h := by
  by_cases ct : ∀ s, cntL f n s = cntL g n s
  · obtain ⟨m, wm, M⟩ := matching_some P Q hn ct (h := h)
    have il := least_some P Q hn ct M (h := h)
    simp [lb__law_many_1, wm, il]
  · have wm := matching_none P Q hn ct (h := h)
    have il := least_none P Q hn ct (h := h)
    simp [lb__law_many_1, wm, il]
end Law

set_option maxHeartbeats 2000000
namespace Law
open PySem Rf L2
/-- the box of drawn cells -/
def BX (h : AH) (a N : Nat) : Prop := ∃ (r : Nat) (cells : List Int) (k : Nat) (b2 b3 b4 : Int), h[a]? = some (.lst [.ref r, dN k, .int b2, .int b3, .int b4]) ∧ r < a ∧ h[r]? = some (.lst (cells.map D.int)) ∧ cells.length ≤ 63 ∧ (∀ c ∈ cells, 0 ≤ c ∧ c < 10 ^ 180) ∧ k ≤ cells.length ∧ (0 ≤ b2 ∧ b2 < 10 ^ 180 + N) ∧ (0 ≤ b3 ∧ b3 ≤ N) ∧ (0 ≤ b4 ∧ b4 < 2147483647)
theorem BX.lt {h : AH} {a N : Nat} (B : BX h a N) : a < h.length := by
  obtain ⟨r, cells, k, b2, b3, b4, e, _⟩ := B
  exact (List.getElem?_eq_some_iff.mp e).1
theorem BX.app {h g : AH} {a N : Nat} (B : BX h a N) : BX (h ++ g) a N := by
  obtain ⟨r, cells, k, b2, b3, b4, e, hr, e2, rest⟩ := B
  exact ⟨r, cells, k, b2, b3, b4, app_get_l e, hr, app_get_l e2, rest⟩
theorem BX.mono {h : AH} {a N M : Nat} (B : BX h a N) (l : N ≤ M) : BX h a M := by
  obtain ⟨r, cells, k, b2, b3, b4, e, hr, e2, l1, l2, l3, ⟨l4, l4'⟩, ⟨l5, l6⟩, l7⟩ := B
  exact ⟨r, cells, k, b2, b3, b4, e, hr, e2, l1, l2, l3, ⟨l4, by omega⟩, ⟨l5, by omega⟩, l7⟩
theorem gc_len {h h' : AH} {d : D} (p : d.pure = true) (l : h'.length = h.length) : gc h (.ok d h') = .ok d h' := by
  unfold gc
  dsimp only
  split
  · first
      | rw [if_pos p, List.take_of_length_le (by omega)]
      | rw [List.take_of_length_le (by omega)]
  · rfl
theorem gc_box {h g : AH} {a : Nat} {o : AO} {d : D} (p : d.pure = true) : ∃ g', gc h (.ok d (h.set a o ++ g)) = .ok d (h.set a o ++ g') := by
  unfold gc
  dsimp only
  split
  · refine ⟨[], ?_⟩
    first
      | rw [if_pos p, List.take_append_of_le_length (by simp), List.take_of_length_le (by simp), List.append_nil]
      | rw [List.take_append_of_le_length (by simp), List.take_of_length_le (by simp), List.append_nil]
  · exact ⟨g, rfl⟩
theorem gc_boxR {h g : AH} {a i : Nat} {o u : AO} (hi : h.length ≤ i) (e : (h.set a o ++ g)[i]? = some u) (f : u.flat = true) :
    ∃ j g', gc h (.ok (.ref i) (h.set a o ++ g)) = .ok (.ref j) (h.set a o ++ g') ∧ (h.set a o ++ g')[j]? = some u ∧ h.length ≤ j := by
  unfold gc
  dsimp only
  split
  · rw [if_neg (by unfold D.pure; exact Bool.false_ne_true), if_pos ⟨hi, u, e, f⟩]
    refine ⟨h.length, [u], ?_, by rw [app_get0 (by simp)]; rfl, Nat.le_refl _⟩
    rw [List.take_append_of_le_length (by simp), List.take_of_length_le (by simp), e]; rfl
  · exact ⟨i, g, rfl, e, hi⟩
theorem take_spec {h : AH} {a N : Nat} (B : BX h a N) (hN : N ≤ 1000000000) {s : Int} (hs : 0 < s) (hs2 : s < 10 ^ 60) :
    ∃ (d : Nat) (o' : AO), c__law_take [.ref a, .int s] h = .ok (.int d) (h.set a o') ∧ (d : Int) < s ∧ BX (h.set a o') a (N + 1) := by
  have hal := B.lt
  obtain ⟨r, cells, k, b2, b3, b4, ha, hra, hr, lc, cc, hk, ⟨h20, h21⟩, ⟨h30, h31⟩, h40, h41⟩ := B
  have hg := fun x => get_set ha x
  have hgr : ∀ x, (h.set a x)[r]? = some (.lst (cells.map D.int)) := fun x => by rw [List.getElem?_set_ne (by omega)]; exact hr
  have dv : DivOk s := divB hs (by omega)
  have mk : ∀ (k' : Nat) (b2' : Int), k' ≤ cells.length → 0 ≤ b2' → b2' < 10 ^ 180 + ((N + 1 : Nat) : Int) → BX (h.set a (.lst [.ref r, dN k', .int b2', .int (b3 + 1), .int b4])) a (N + 1) := fun k' b2' h1 h2 h3 =>
    ⟨r, cells, k', b2', b3 + 1, b4, hg _, hra, hgr _, lc, cc, h1, ⟨h2, h3⟩, ⟨by omega, by omega⟩, h40, h41⟩
  have fin : ∀ (M : Int), ∃ d : Nat, M % s = d ∧ (d : Int) < s := fun M => ⟨(M % s).toNat, by have := Int.emod_nonneg M (show s ≠ 0 by omega); omega, by have := Int.emod_lt_of_pos M hs; have := Int.emod_nonneg M (show s ≠ 0 by omega); omega⟩
  -- the mixed draw
  have mixed : ∀ base : Int, 0 ≤ base → base < 10 ^ 18 → CMulX base 48271 ∧ CMulX (b3 + 1) 69621 ∧ ∀ once : Int, once = (base * 48271 + (b3 + 1) * 69621 + 65696) % 2147483647 → CMulX once once ∧ CMulX once 30269 := fun base h1 h2 => by
    refine ⟨mulB (by omega) (by omega) (by omega) (by omega), mulB (by omega) (by omega) (by omega) (by omega), fun once e => ?_⟩
    have o1 : 0 ≤ once := by rw [e]; exact Int.emod_nonneg _ (by decide)
    have o2 : once < 2147483647 := by rw [e]; exact Int.emod_lt_of_pos _ (by decide)
    exact ⟨mulB (by omega) (by omega) (by omega) (by omega), mulB (by omega) (by omega) (by omega) (by omega)⟩
  have run : ∀ d o', m__law_take [some (.ref a), some (.int s), none, none, none, none, none] h = .rt (.int (d : Nat)) (h.set a o') → c__law_take [.ref a, .int s] h = .ok (.int (d : Nat)) (h.set a o') := fun d o' e => by
    have e2 : c__law_take [.ref a, .int s] h = gc h (.ok (.int (d : Nat)) (h.set a o')) := by
      unfold c__law_take fsem
      rw [show ([D.ref a, D.int s].map some ++ List.replicate (7 - [D.ref a, D.int s].length) none : AE) = [some (.ref a), some (.int s), none, none, none, none, none] from rfl, e]
      rfl
    rw [e2, gc_len rfl (by simp)]
  by_cases q : k < cells.length
  · obtain ⟨c0, c1⟩ := cc _ (getD_mem (d := 0) q)
    have x1 : ∀ h, ixD (cells.map D.int) (k : Int) h = .ok (.int (cells.getD k 0)) h := fun h => ixD_map (getD_some q)
    generalize cells.getD k 0 = base at *
    have q' : (k : Int) < (cells.length : Int) := by omega
    by_cases big : 10 ^ 18 ≤ base
    · have big' : (1000000000000000000 : Int) ≤ base := big
      -- digits
      obtain ⟨rest, hrest⟩ : ∃ rest : Int, rest = if b2 = 0 then base else b2 := ⟨_, rfl⟩
      have r0 : 0 ≤ rest ∧ rest < 10 ^ 180 + ((N + 1 : Nat) : Int) := by rw [hrest]; split <;> constructor <;> omega
      obtain ⟨d, hd, hd2⟩ := fin rest
      have q0 : 0 ≤ rest / s ∧ rest / s ≤ rest := ⟨Int.ediv_nonneg r0.1 (by omega), Int.ediv_le_self _ r0.1⟩
      by_cases z : rest / s = 0
      · refine ⟨d, _, run d (.lst [.ref r, dN (k + 1), .int (rest / s), .int (b3 + 1), .int b4]) ?_, hd2, mk (k + 1) (rest / s) (by omega) q0.1 (by omega)⟩
        rw [z]
        by_cases b20 : b2 = 0
        · rw [if_pos b20] at hrest
          subst hrest
          subst b20
          simp [m__law_take, ha, hg, hgr, q', q, x1, big', oDiv_, dv, z, oMod_, hs, hd, dN]
        · rw [if_neg b20] at hrest
          subst hrest
          simp [m__law_take, ha, hg, hgr, q', q, x1, big', oDiv_, dv, z, oMod_, hs, hd, b20, dN]
      · refine ⟨d, _, run d (.lst [.ref r, dN k, .int (rest / s), .int (b3 + 1), .int b4]) ?_, hd2, mk k (rest / s) hk q0.1 (by omega)⟩
        by_cases b20 : b2 = 0
        · rw [if_pos b20] at hrest
          subst hrest
          subst b20
          simp [m__law_take, ha, hg, hgr, q', q, x1, big', oDiv_, dv, z, oMod_, hs, hd, dN]
        · rw [if_neg b20] at hrest
          subst hrest
          simp [m__law_take, ha, hg, hgr, q', q, x1, big', oDiv_, dv, z, oMod_, hs, hd, b20, dN]
    · have big' : ¬ (1000000000000000000 : Int) ≤ base := big
      obtain ⟨m1, m2, m3⟩ := mixed base c0 (by omega)
      obtain ⟨m4, m5⟩ := m3 _ rfl
      generalize hM : (base * 48271 + (b3 + 1) * 69621 + 65696) % 2147483647 = once at m4 m5
      obtain ⟨d, hd, hd2⟩ := fin ((once * once + once * 30269 + (b3 + 1)) % 2147483629 / 61)
      by_cases z : b2 + 1 = 6
      · refine ⟨d, _, run d (.lst [.ref r, dN (k + 1), .int 0, .int (b3 + 1), .int b4]) ?_, hd2, mk (k + 1) 0 (by omega) (by omega) (by omega)⟩
        simp [m__law_take, ha, hg, hgr, q', q, x1, big', z, oMul_, oMod_, oDiv_, m1, m2, m4, m5, hM, hs, hd, dN]
      · refine ⟨d, _, run d (.lst [.ref r, dN k, .int (b2 + 1), .int (b3 + 1), .int b4]) ?_, hd2, mk k (b2 + 1) hk (by omega) (by omega)⟩
        simp [m__law_take, ha, hg, hgr, q', q, x1, big', z, oMul_, oMod_, oDiv_, m1, m2, m4, m5, hM, hs, hd, dN]
  · have q' : ¬ (k : Int) < (cells.length : Int) := by omega
    obtain ⟨m1, m2, m3⟩ := mixed b4 h40 (by omega)
    obtain ⟨m4, m5⟩ := m3 _ rfl
    generalize hM : (b4 * 48271 + (b3 + 1) * 69621 + 65696) % 2147483647 = once at m4 m5
    obtain ⟨d, hd, hd2⟩ := fin ((once * once + once * 30269 + (b3 + 1)) % 2147483629 / 61)
    refine ⟨d, _, run d (.lst [.ref r, dN k, .int b2, .int (b3 + 1), .int b4]) ?_, hd2, mk k b2 hk h20 (by omega)⟩
    simp [m__law_take, ha, hg, hgr, q', q, oMul_, oMod_, oDiv_, m1, m2, m4, m5, hM, hs, hd, dN]
end Law

set_option maxHeartbeats 2000000
namespace Law
open PySem Rf L2
theorem isP_perm {n : Nat} {p : List Nat} (h : p.Perm (List.range n)) : IsP n p := by
  have l : p.length = n := by rw [h.length_eq]; simp
  have nd : p.Nodup := h.nodup_iff.mpr List.nodup_range
  exact ⟨l, fun i hi => List.mem_range.mp (h.mem_iff.mp (getD_mem (by omega))), fun i j hi hj e => nodup_getD nd (by omega) (by omega) e⟩
theorem erase_perm : ∀ {l : List Nat} {j : Nat}, j < l.length → l.Perm (l.getD j 0 :: l.eraseIdx j)
  | [], _, h => absurd h (by simp)
  | x :: l, 0, _ => List.Perm.refl _
  | x :: l, j + 1, h => by
    rw [List.eraseIdx_cons_succ]
    exact ((erase_perm (l := l) (j := j) (by simpa using h)).cons x).trans (List.Perm.swap _ _ _)
def PH (h : AH) (a : Nat) (o : AO) (left row : List Nat) : AH := h.set a o ++ [.lst (left.map dN), .lst (row.map dN)]
section
variable {h : AH} {a : Nat} {o : AO} {left row : List Nat}
theorem PH_0 : (PH h a o left row)[h.length]? = some (.lst (left.map dN)) := by unfold PH; rw [app_get0 (by simp)]; rfl
theorem PH_1 : (PH h a o left row)[h.length + 1]? = some (.lst (row.map dN)) := by
  have := app_get (h := h.set a o) (g := [AO.lst (left.map dN), AO.lst (row.map dN)]) (i := 1)
  rw [List.length_set] at this
  unfold PH; rw [this]; rfl
theorem PH_sa (ha : a < h.length) (o' : AO) : (PH h a o left row).set a o' = PH h a o' left row := by
  unfold PH; rw [app_set_l (by simpa using ha), List.set_set]
theorem PH_s0 (v : List Nat) : (PH h a o left row).set h.length (.lst (v.map dN)) = PH h a o v row := by
  have := app_set (h := h.set a o) (g := [AO.lst (left.map dN), AO.lst (row.map dN)]) (i := 0) (n := h.length) (o := .lst (v.map dN)) (by simp)
  unfold PH; rw [Nat.add_zero] at this; rw [this]; rfl
theorem PH_s1 (v : List Nat) : (PH h a o left row).set (h.length + 1) (.lst (v.map dN)) = PH h a o left v := by
  unfold PH; rw [app_set (by simp)]; rfl
end
theorem perm_spec {h : AH} {a N : Nat} (B : BX h a N) {n : Nat} (hn : n ≤ 1000) (hN : N + n ≤ 1000000000) :
    ∃ p o' g, c__law_perm [.ref a, dN n] h = .ok (dC p) (h.set a o' ++ g) ∧ IsP n p ∧ BX (h.set a o') a (N + n) := by
  have hal := B.lt
  obtain ⟨oa, hoa⟩ : ∃ oa, h[a]? = some oa := by obtain ⟨r, cells, k, b2, b3, b4, e, _⟩ := B; exact ⟨_, e⟩
  obtain ⟨e', h', w, x4, o', left, row, rfl, rfl, B', ll, lr, pm⟩ := loopN (k := 4) (b := lb__law_perm_1)
    (fun i e h' => ∃ x4 o' left row, e = [some (.ref a), some (dN n), some (.ref h.length), some (.ref (h.length + 1)), x4] ∧ h' = PH h a o' left row ∧ BX (h.set a o') a (N + i) ∧ left.length = n - i ∧ row.length = i ∧ (row ++ left).Perm (List.range n))
    n (e := [some (.ref a), some (dN n), some (.ref h.length), some (.ref (h.length + 1)), none]) (h := PH h a oa (List.range n) [])
    ⟨none, oa, List.range n, [], rfl, rfl, by rw [set_self hoa]; exact B, by simp, rfl, List.Perm.refl _⟩ (by
      rintro i e h' hi ⟨x4, o', left, row, rfl, rfl, B', ll, lr, pm⟩
      have B2 : BX (PH h a o' left row) a (N + i) := by unfold PH; exact B'.app
      obtain ⟨d, o2, t, hd, B3⟩ := take_spec B2 (by omega) (s := (left.length : Nat)) (by omega) (by omega)
      rw [PH_sa hal] at t B3
      have hdl : d < left.length := by omega
      have B4 : BX (h.set a o2) a (N + i + 1) := by
        obtain ⟨r, cells, k, b2, b3, b4, e1, hr, e2, rest⟩ := B3
        unfold PH at e1 e2
        rw [List.getElem?_append_left (by simp; omega)] at e1 e2
        exact ⟨r, cells, k, b2, b3, b4, e1, hr, e2, rest⟩
      refine ⟨_, PH h a o2 (left.eraseIdx d) (row ++ [left.getD d 0]), ?_, some (dN i), o2, left.eraseIdx d, row ++ [left.getD d 0], rfl, rfl, B4, by rw [List.length_eraseIdx_of_lt hdl]; omega, by simp [lr], ?_⟩
      · have pp := mPopAt_N (us := left) (h := PH h a o2 left row) (r := h.length) (j := d) PH_0 hdl (by omega)
        rw [PH_s0] at pp
        have g0 := PH_0 (h := h) (a := a) (o := o') (left := left) (row := row)
        have g0' := PH_0 (h := h) (a := a) (o := o2) (left := left) (row := row)
        have g1 := PH_1 (h := h) (a := a) (o := o') (left := left) (row := row)
        have g1' := PH_1 (h := h) (a := a) (o := o2) (left := left.eraseIdx d) (row := row)
        have s1 := PH_s1 (h := h) (a := a) (o := o2) (left := left.eraseIdx d) (row := row) (row ++ [left.getD d 0])
        have ap : ∀ r v h, appO (some (.lst (row.map dN))) r v h = .ok .non (h.set r (.lst (row.map dN ++ [v]))) := fun r v h => appO_lst (by rw [List.length_map, sizeLine_eq]; omega)
        rw [List.map_append, List.map_cons, List.map_nil] at s1
        rw [← s1]
        generalize left.getD d 0 = v at *
        have lm : (left.map dN).length = left.length := by simp
        generalize PH h a o2 (left.eraseIdx d) row = H3 at *
        generalize PH h a o2 left row = H2 at *
        generalize PH h a o' left row = H1 at *
        generalize left.map dN = ld at *
        simp [lb__law_perm_1, g0, g1, lm, t, g0', pp, g1', ap]
      · have := erase_perm hdl
        refine List.Perm.trans ?_ pm
        rw [List.append_assoc]
        exact (List.Perm.append_left row this.symm))
  have l0 : left = [] := List.eq_nil_of_length_eq_zero (by omega)
  subst l0
  rw [List.append_nil] at pm
  have e : c__law_perm [.ref a, dN n] h = gc h (.ok (dC row) (PH h a o' [] row)) := by
    unfold c__law_perm fsem
    have r2 : RgOk 0 (n : Int) := rgOk_nat (by omega)
    have r3 : RgB (n : Int) := rgB_nat (by omega)
    have w0 : PH h a oa (List.range n) [] = h ++ [.lst ((List.range n).map dN), .lst []] := by unfold PH; rw [set_self hoa]; rfl
    rw [w0] at w
    have g1 := PH_1 (h := h) (a := a) (o := o') (left := []) (row := row)
    generalize PH h a o' [] row = H at *
    simp [m__law_perm, r2, r3, rg_zero, w, g1, dC]
  obtain ⟨g, eg⟩ := gc_box (h := h) (a := a) (o := o') (g := [AO.lst (([] : List Nat).map dN), AO.lst (row.map dN)]) (d := dC row) (by simp [dC])
  exact ⟨row, o', g, by rw [e]; exact eg, isP_perm pm, B'⟩
/-- second after first -/
theorem times_spec {f s : List Nat} {n : Nat} (P : IsP n f) (Q : IsP n s) (hn : n ≤ 1000) {h : AH} {r : Nat} (hr : h[r]? = some (.lst (s.map dN))) :
    ∃ p, c__law_times [dC f, .ref r] h = .ok (dC p) h ∧ IsP n p := by
  have lf := P.len
  have ls := Q.len
  have hm : ∀ i, i < n → (f.map fun x => s.getD x 0).getD i 0 = s.getD (f.getD i 0) 0 := fun i hi => map_getD (by omega)
  refine ⟨f.map fun x => s.getD x 0, ?_, ⟨by simp [lf], fun i hi => by rw [hm i hi]; exact Q.lt _ (P.lt i hi), fun i j hi hj e => by
    rw [hm i hi, hm j hj] at e
    exact P.inj i j hi hj (Q.inj _ _ (P.lt i hi) (P.lt j hj) e)⟩⟩
  have lc : lc__law_times_1 [some (dC f), some (.ref r), none] h = .ok (.ref h.length) (h ++ [.lst ((f.map fun x => s.getD x 0).map dN)]) := by
    unfold lc__law_times_1
    rw [eLc_map (φ := dN) f (fun x => dN (s.getD x 0)) (h1 := h) (iVal_tup (by simp [dC])) (by rw [sizeLine_eq]; omega)]
    · rw [List.map_map]; rfl
    · intro x hx
      obtain ⟨i, hi, rfl⟩ := mem_getD (d := 0) hx
      have hxn := P.lt i (by omega)
      have x1 : ∀ h, ixD (s.map dN) ((f.getD i 0 : Nat) : Int) h = .ok (dN (s.getD (f.getD i 0) 0)) h := fun h => ixD_N (by omega)
      generalize s.getD (f.getD i 0) 0 = v at *
      generalize f.getD i 0 = u at *
      simp only [dN] at x1
      simp [wipeE, hr, x1]
  have e : c__law_times [dC f, .ref r] h = gc h (.ok (dC (f.map fun x => s.getD x 0)) (h ++ [.lst ((f.map fun x => s.getD x 0).map dN)])) := by
    unfold c__law_times fsem
    generalize (f.map fun x => s.getD x 0) = p at *
    simp only [dC] at lc ⊢
    simp [m__law_times, lc]
  rw [e]
  exact gc_app (by unfold dC; rw [pure_tup]; exact pures_dN _)
theorem conj_spec {f b : List Nat} {n : Nat} (P : IsP n f) (Q : IsP n b) (hn : n ≤ 1000) {h : AH} : ∃ p, c__law_conj [dC f, dC b] h = .ok (dC p) h ∧ IsP n p := by
  have lf := P.len
  have lb := Q.len
  obtain ⟨e', h', w, x3, p, rfl, rfl, lp, al⟩ := loopN (k := 3) (b := lb__law_conj_1)
    (fun i e h' => ∃ x3 p, e = [some (dC f), some (dC b), some (.ref (h.length + 1)), x3] ∧ h' = h ++ [.lst [.int 0], .lst (p.map dN)] ∧ p.length = n ∧ ∀ j, j < i → p.getD (b.getD j 0) 0 = b.getD (f.getD j 0) 0)
    n (e := [some (dC f), some (dC b), some (.ref (h.length + 1)), none]) (h := h ++ [.lst [.int 0], .lst ((List.replicate n 0).map dN)])
    ⟨none, List.replicate n 0, rfl, rfl, by simp, fun j hj => absurd hj (by omega)⟩ (by
      rintro i e h' hi ⟨x3, p, rfl, rfl, lp, al⟩
      have f1 := P.lt i hi
      have b1 := Q.lt i hi
      have x1 : ∀ h, ixD (f.map dN) (i : Int) h = .ok (dN (f.getD i 0)) h := fun h => ixD_N (by omega)
      have x2 : ∀ h, ixD (b.map dN) (i : Int) h = .ok (dN (b.getD i 0)) h := fun h => ixD_N (by omega)
      have x4 : ∀ h, ixD (b.map dN) ((f.getD i 0 : Nat) : Int) h = .ok (dN (b.getD (f.getD i 0) 0)) h := fun h => ixD_N (by omega)
      have pb : ∀ v r h, putO (some (.lst (p.map dN))) r ((b.getD i 0 : Nat) : Int) (dN v) h = some (h.set r (.lst ((p.set (b.getD i 0) v).map dN))) := fun v r h => putO_N (by omega)
      have g1 : (h ++ [AO.lst [.int 0], AO.lst (p.map dN)])[h.length + 1]? = some (.lst (p.map dN)) := by rw [app_get]; rfl
      have s1 : (h ++ [AO.lst [.int 0], AO.lst (p.map dN)]).set (h.length + 1) (.lst ((p.set (b.getD i 0) (b.getD (f.getD i 0) 0)).map dN)) = h ++ [AO.lst [.int 0], AO.lst ((p.set (b.getD i 0) (b.getD (f.getD i 0) 0)).map dN)] := by rw [app_set rfl]; rfl
      refine ⟨_, _, ?_, some (dN i), p.set (b.getD i 0) (b.getD (f.getD i 0) 0), rfl, rfl, by simpa using lp, fun j hj => ?_⟩
      · rw [← s1]
        have pb' := pb (b.getD (f.getD i 0) 0)
        generalize p.set (b.getD i 0) (b.getD (f.getD i 0) 0) = p2 at *
        generalize b.getD (f.getD i 0) 0 = v at *
        generalize f.getD i 0 = u at *
        generalize b.getD i 0 = u2 at *
        generalize h ++ [AO.lst [.int 0], AO.lst (p.map dN)] = H at *
        simp only [dN] at x1 x2 x4 pb'
        simp [lb__law_conj_1, dC, g1, x1, x2, x4, pb']
      · rw [getD_set (by omega)]
        by_cases e : j = i
        · subst e; rw [if_pos rfl]
        · rw [if_neg fun z => e (Q.inj _ _ (by omega) hi z.symm)]
          exact al j (by omega))
  refine ⟨p, ?_, ⟨lp, fun x hx => ?_, fun x y hx hy e => ?_⟩⟩
  · have r1 : RepOk 1 (n : Int) := repOk_1 (by omega)
    have r2 : RgB (n : Int) := rgB_nat (by omega)
    have e : c__law_conj [dC f, dC b] h = gc h (.ok (dC p) (h ++ [.lst [.int 0], .lst (p.map dN)])) := by
      unfold c__law_conj fsem
      have w0 : (List.replicate n 0).map dN = List.replicate n (D.int 0) := by simp
      rw [w0] at w
      have g1 : (h ++ [AO.lst [.int 0], AO.lst (p.map dN)])[h.length + 1]? = some (.lst (p.map dN)) := by rw [app_get]; rfl
      generalize h ++ [AO.lst [.int 0], AO.lst (p.map dN)] = H at *
      simp only [dC] at w ⊢
      simp [m__law_conj, lf, r1, r2, rg_zero, w, g1]
    rw [e, gc_app (by simp [dC])]
  · obtain ⟨j, hj, rfl⟩ := Q.surj hx
    rw [al j hj]
    exact Q.lt _ (P.lt j hj)
  · obtain ⟨j, hj, rfl⟩ := Q.surj hx
    obtain ⟨k, hk, rfl⟩ := Q.surj hy
    rw [al j hj, al k hk] at e
    rw [P.inj j k hj hk (Q.inj _ _ (P.lt j hj) (P.lt k hk) e)]
theorem linverse_spec {p : List Nat} {n : Nat} (P : IsP n p) (hn : n ≤ 1000) {h : AH} : ∃ q, c__law_inverse [dC p] h = .ok (dC q) h ∧ IsP n q := by
  have lp := P.len
  obtain ⟨e', h', w, x2, q, rfl, rfl, lq, al⟩ := loopN (k := 2) (b := lb__law_inverse_1)
    (fun i e h' => ∃ x2 q, e = [some (dC p), some (.ref (h.length + 1)), x2] ∧ h' = h ++ [.lst [.int 0], .lst (q.map dN)] ∧ q.length = n ∧ ∀ j, j < i → q.getD (p.getD j 0) 0 = j)
    n (e := [some (dC p), some (.ref (h.length + 1)), none]) (h := h ++ [.lst [.int 0], .lst ((List.replicate n 0).map dN)])
    ⟨none, List.replicate n 0, rfl, rfl, by simp, fun j hj => absurd hj (by omega)⟩ (by
      rintro i e h' hi ⟨x2, q, rfl, rfl, lq, al⟩
      have p1 := P.lt i hi
      have x1 : ∀ h, ixD (p.map dN) (i : Int) h = .ok (dN (p.getD i 0)) h := fun h => ixD_N (by omega)
      have pb : ∀ v r h, putO (some (.lst (q.map dN))) r ((p.getD i 0 : Nat) : Int) (dN v) h = some (h.set r (.lst ((q.set (p.getD i 0) v).map dN))) := fun v r h => putO_N (by omega)
      have g1 : (h ++ [AO.lst [.int 0], AO.lst (q.map dN)])[h.length + 1]? = some (.lst (q.map dN)) := by rw [app_get]; rfl
      have s1 : (h ++ [AO.lst [.int 0], AO.lst (q.map dN)]).set (h.length + 1) (.lst ((q.set (p.getD i 0) i).map dN)) = h ++ [AO.lst [.int 0], AO.lst ((q.set (p.getD i 0) i).map dN)] := by rw [app_set rfl]; rfl
      refine ⟨_, _, ?_, some (dN i), q.set (p.getD i 0) i, rfl, rfl, by simpa using lq, fun j hj => ?_⟩
      · rw [← s1]
        have pb' := pb i
        generalize q.set (p.getD i 0) i = p2 at *
        generalize p.getD i 0 = u at *
        generalize h ++ [AO.lst [.int 0], AO.lst (q.map dN)] = H at *
        simp only [dN] at x1 pb'
        simp [lb__law_inverse_1, dC, g1, x1, pb']
      · rw [getD_set (by omega)]
        by_cases e : j = i
        · subst e; rw [if_pos rfl]
        · rw [if_neg fun z => e (P.inj _ _ (by omega) hi z.symm)]
          exact al j (by omega))
  refine ⟨q, ?_, Inv.isP P ⟨lq, al⟩⟩
  have r1 : RepOk 1 (n : Int) := repOk_1 (by omega)
  have r2 : RgB (n : Int) := rgB_nat (by omega)
  have e : c__law_inverse [dC p] h = gc h (.ok (dC q) (h ++ [.lst [.int 0], .lst (q.map dN)])) := by
    unfold c__law_inverse fsem
    have w0 : (List.replicate n 0).map dN = List.replicate n (D.int 0) := by simp
    rw [w0] at w
    have g1 : (h ++ [AO.lst [.int 0], AO.lst (q.map dN)])[h.length + 1]? = some (.lst (q.map dN)) := by rw [app_get]; rfl
    generalize h ++ [AO.lst [.int 0], AO.lst (q.map dN)] = H at *
    simp only [dC] at w ⊢
    simp [m__law_inverse, lp, r1, r2, rg_zero, w, g1]
  rw [e, gc_app (by simp [dC])]
/-- cycles side by side -/
theorem block_isP {m s : Nat} {row : List Nat} (P : IsP m row) (hs : 1 ≤ s) : IsP (m + s) (row ++ (List.range s).map fun x => m + (x + 1) % s) := by
  have lr := P.len
  have bl : ∀ i, m ≤ i → i < m + s → (row ++ (List.range s).map fun x => m + (x + 1) % s).getD i 0 = m + (i - m + 1) % s := fun i h1 h2 => by
    simp only [List.getD_eq_getElem?_getD]
    rw [List.getElem?_append_right (by omega), List.getElem?_map, List.getElem?_range (by omega), lr]; rfl
  have al : ∀ i, i < m → (row ++ (List.range s).map fun x => m + (x + 1) % s).getD i 0 = row.getD i 0 := fun i h1 => by
    simp only [List.getD_eq_getElem?_getD]
    rw [List.getElem?_append_left (by omega)]
  have md : ∀ x, (x + 1) % s < s := fun x => Nat.mod_lt _ (by omega)
  refine ⟨by simp [lr], fun i hi => ?_, fun i j hi hj e => ?_⟩
  · by_cases q : i < m
    · rw [al i q]; have := P.lt i q; omega
    · rw [bl i (by omega) hi]; have := md (i - m); omega
  · by_cases q : i < m
    · by_cases q2 : j < m
      · rw [al i q, al j q2] at e; exact P.inj i j q q2 e
      · rw [al i q, bl j (by omega) hj] at e; have := P.lt i q; omega
    · by_cases q2 : j < m
      · rw [bl i (by omega) hi, al j q2] at e; have := P.lt j q2; omega
      · rw [bl i (by omega) hi, bl j (by omega) hj] at e
        have a1 : i - m < s := by omega
        have a2 : j - m < s := by omega
        by_cases z1 : i - m + 1 = s
        · by_cases z2 : j - m + 1 = s
          · omega
          · rw [z1, Nat.mod_self, Nat.mod_eq_of_lt (by omega)] at e; omega
        · by_cases z2 : j - m + 1 = s
          · rw [z2, Nat.mod_self, Nat.mod_eq_of_lt (by omega)] at e; omega
          · rw [Nat.mod_eq_of_lt (by omega), Nat.mod_eq_of_lt (by omega)] at e; omega
theorem shaped_spec {ls : List Nat} {n : Nat} (h1 : ∀ s ∈ ls, 1 ≤ s) (hsum : ls.sum = n) (hn : n ≤ 1000) {h : AH} {r : Nat} (hr : h[r]? = some (.lst (ls.map dN))) :
    ∃ p, c__law_shaped [.ref r] h = .ok (dC p) h ∧ IsP n p := by
  obtain ⟨e', h', w, x2, x3, x4, p, g, rfl, rfl, P⟩ := liveL_inv (g := gVar 2) (b := lb__law_shaped_1) (r := r) (ds := ls.map dN)
    (fun i e h' => ∃ x2 x3 x4 p g, e = [some (.ref r), some (.ref h.length), x2, x3, x4] ∧ h' = h ++ (.lst (p.map dN) :: g) ∧ IsP ((ls.take i).sum) p)
    (e := [some (.ref r), some (.ref h.length), none, none, none]) (h := h ++ [.lst []])
    (by rintro i e h' ⟨x2, x3, x4, p, g, rfl, rfl, _⟩; exact app_get_l hr)
    ⟨none, none, none, [], [], rfl, rfl, ⟨by simp, fun i hi => absurd hi (by simp), fun i j hi => absurd hi (by simp)⟩⟩ (by
      rintro i d e h' hd ⟨x2, x3, x4, p, g, rfl, rfl, P⟩
      have hi : i < ls.length := by have := (List.getElem?_eq_some_iff.mp hd).1; simpa using this
      obtain ⟨s, es⟩ : ∃ s, s = ls.getD i 0 := ⟨_, rfl⟩
      obtain rfl : dN s = d := by
        rw [List.getElem?_map, getD_some (a := 0) hi, ← es] at hd
        exact Option.some.inj hd
      have hs : 1 ≤ s := h1 s (by rw [es]; exact getD_mem hi)
      have tk : ls.take (i + 1) = ls.take i ++ [s] := by rw [List.take_add_one, getD_some (a := 0) hi, ← es]; rfl
      have sm : (ls.take (i + 1)).sum = (ls.take i).sum + s := by rw [tk]; simp
      have le : (ls.take (i + 1)).sum ≤ n := by
        have := congrArg List.sum (List.take_append_drop (i + 1) ls)
        rw [List.sum_append] at this
        omega
      have lp := P.len
      obtain ⟨bk, hbk⟩ : ∃ bk, bk = (List.range s).map fun x => p.length + (x + 1) % s := ⟨_, rfl⟩
      have PB := block_isP P hs
      rw [← sm, ← lp, ← hbk] at PB
      have lbk : bk.length = s := by rw [hbk]; simp
      have ec : ∀ x : Nat, (((x : Int) + 1) % (s : Int)) = (((x + 1) % s : Nat) : Int) := fun x => by push_cast; rfl
      have hsI : (0 : Int) < (s : Int) := by omega
      have hsN : 0 < s := by omega
      have g0 : ∀ (p : List Nat) g, (h ++ (AO.lst (p.map dN) :: g))[h.length]? = some (.lst (p.map dN)) := fun p g => by rw [app_get0]; rfl
      have lc : lc__law_shaped_1 [some (.ref r), some (.ref h.length), some (dN s), some (dN p.length), x4] (h ++ (.lst (p.map dN) :: g)) = .ok (.ref (h.length + 1 + g.length)) (h ++ (.lst (p.map dN) :: (g ++ [.lst (bk.map dN)]))) := by
        unfold lc__law_shaped_1
        rw [eLc_map (φ := dN) (List.range s) (fun x => dN (p.length + (x + 1) % s)) (h1 := h ++ (.lst (p.map dN) :: g)) (iRange1_nat (by simp) (by omega)) (by rw [List.length_range, sizeLine_eq]; omega)]
        · rw [hbk, List.map_map]
          simp [List.append_assoc]
          omega
        · intro x _
          have ecx := ec x
          generalize h ++ (AO.lst (p.map dN) :: g) = H at *
          generalize (x + 1) % s = m at *
          simp [wipeE, oMod_, hsN, ecx]
      refine ⟨_, _, ?_, some (dN s), some (dN p.length), x4, p ++ bk, g ++ [.lst (bk.map dN)], rfl, rfl, PB⟩
      have gp := g0 p g
      have gp2 := g0 p (g ++ [.lst (bk.map dN)])
      have gb : (h ++ (AO.lst (p.map dN) :: (g ++ [AO.lst (bk.map dN)])))[h.length + 1 + g.length]? = some (.lst (bk.map dN)) := by
        rw [show h.length + 1 + g.length = h.length + (g.length + 1) by omega, app_get, List.getElem?_cons_succ, app_get0]; rfl
      have mx := mExtend_L (xs := p.map dN) (ys := bk.map dN) (h := h ++ (AO.lst (p.map dN) :: (g ++ [AO.lst (bk.map dN)]))) (r := h.length) (q := h.length + 1 + g.length) gp2 gb (by rw [List.length_map, List.length_map]; omega)
      have sx : (h ++ (AO.lst (p.map dN) :: (g ++ [AO.lst (bk.map dN)]))).set h.length (.lst (p.map dN ++ bk.map dN)) = h ++ (AO.lst ((p ++ bk).map dN) :: (g ++ [AO.lst (bk.map dN)])) := by
        have := app_set (h := h) (g := (AO.lst (p.map dN) :: (g ++ [AO.lst (bk.map dN)]) : AH)) (i := 0) (n := h.length) (o := .lst (p.map dN ++ bk.map dN)) rfl
        rw [Nat.add_zero] at this
        rw [this]; simp
      rw [sx] at mx
      have lm : (p.map dN).length = p.length := by simp
      generalize h ++ (AO.lst ((p ++ bk).map dN) :: (g ++ [AO.lst (bk.map dN)])) = H3 at *
      generalize h ++ (AO.lst (p.map dN) :: (g ++ [AO.lst (bk.map dN)])) = H2 at *
      generalize h ++ (AO.lst (p.map dN) :: g) = H1 at *
      generalize p.map dN = pd at *
      simp [lb__law_shaped_1, gp, lm, lc, gp2, mx])
  rw [List.length_map, List.take_length, hsum] at P
  refine ⟨p, ?_, P⟩
  have hr1 : (h ++ [AO.lst []])[r]? = some (.lst (ls.map dN)) := app_get_l hr
  have e : c__law_shaped [.ref r] h = gc h (.ok (dC p) (h ++ (.lst (p.map dN) :: g))) := by
    unfold c__law_shaped fsem
    have g0 : (h ++ (AO.lst (p.map dN) :: g))[h.length]? = some (.lst (p.map dN)) := by rw [app_get0]; rfl
    generalize h ++ (AO.lst (p.map dN) :: g) = H at *
    generalize ls.map dN = lsd at *
    simp [m__law_shaped, hr1, w, g0, dC]
  rw [e, gc_app (by simp [dC])]
end Law

set_option maxHeartbeats 2000000
namespace Law
open PySem Rf L2
theorem BX.cut {h g : AH} {a N : Nat} {o : AO} (ha : a < h.length) (B : BX (h.set a o ++ g) a N) : BX (h.set a o) a N := by
  obtain ⟨r, cells, k, b2, b3, b4, e1, hr, e2, rest⟩ := B
  rw [List.getElem?_append_left (by simp; omega)] at e1 e2
  exact ⟨r, cells, k, b2, b3, b4, e1, hr, e2, rest⟩
def LH (h : AH) (a : Nat) (o : AO) (ls : List Nat) : AH := h.set a o ++ [.lst (ls.map dN)]
section
variable {h : AH} {a : Nat} {o : AO} {ls : List Nat}
theorem LH_0 : (LH h a o ls)[h.length]? = some (.lst (ls.map dN)) := by unfold LH; rw [app_get0 (by simp)]; rfl
theorem LH_sa (ha : a < h.length) (o' : AO) : (LH h a o ls).set a o' = LH h a o' ls := by
  unfold LH; rw [app_set_l (by simpa using ha), List.set_set]
theorem LH_s0 (s : Nat) : (LH h a o ls).set h.length (.lst (ls.map dN ++ [dN s])) = LH h a o (ls ++ [s]) := by
  have := app_set (h := h.set a o) (g := [AO.lst (ls.map dN)]) (i := 0) (n := h.length) (o := .lst (ls.map dN ++ [dN s])) (by simp)
  unfold LH; rw [Nat.add_zero] at this; rw [this]; simp
end
theorem lengths_spec {h : AH} {a N : Nat} (B : BX h a N) {n : Nat} (h1 : 1 ≤ n) (hn : n ≤ 1000) (hN : N + n + 2 ≤ 1000000000) :
    ∃ (ls : List Nat) (o' : AO) (j : Nat) (g : AH), c__law_lengths [.ref a, dN n] h = .ok (.ref j) (h.set a o' ++ g) ∧ (h.set a o' ++ g)[j]? = some (.lst (ls.map dN)) ∧ h.length ≤ j ∧ (∀ s ∈ ls, 1 ≤ s) ∧ ls.sum = n ∧ BX (h.set a o') a (N + n + 2) := by
  have hal := B.lt
  obtain ⟨mode, o1, t1, hm, B1⟩ := take_spec B (by omega) (s := 3) (by omega) (by omega)
  obtain ⟨al0, o2, t2, hal0, B2⟩ := take_spec B1 (by omega) (s := (n : Int)) (by omega) (by omega)
  rw [List.set_set] at t2 B2
  obtain ⟨al, eal⟩ : ∃ al, al = al0 + 1 := ⟨_, rfl⟩
  have eal' : 1 + (al0 : Int) = (al : Int) := by omega
  obtain ⟨e', h', w, o', left, ls, x6, x7, rfl, rfl, B', pos, sm, lf, ll⟩ := loopN (k := 6) (b := lb__law_lengths_1)
    (fun k e h' => ∃ o' left ls x6 x7, e = [some (.ref a), some (dN n), some (dN mode), some (dN al), some (dN left), some (.ref h.length), x6, x7] ∧ h' = LH h a o' ls ∧ BX (h.set a o') a (N + 2 + k) ∧ (∀ s ∈ ls, 1 ≤ s) ∧ ls.sum + left = n ∧ left ≤ n - k ∧ ls.length ≤ k)
    n (e := [some (.ref a), some (dN n), some (dN mode), some (dN al), some (dN n), some (.ref h.length), none, none]) (h := LH h a o2 [])
    ⟨o2, n, [], none, none, rfl, rfl, B2.mono (by omega), fun s hs => absurd hs (by simp), by simp, by omega, by simp⟩ (by
      rintro k e h' hk ⟨o', left, ls, x6, x7, rfl, rfl, B', pos, sm, lf, ll⟩
      by_cases l0 : left = 0
      · subst l0
        refine ⟨_, _, ?_, o', 0, ls, some (dN k), x7, rfl, rfl, B'.mono (by omega), pos, sm, by omega, by omega⟩
        simp [lb__law_lengths_1]
      · have lpos : (0 : Int) < (left : Int) := by omega
        have lpos' : 0 < left := by omega
        have BA : BX (LH h a o' ls) a (N + 2 + k) := by unfold LH; exact B'.app
        -- the size
        have key : ∃ size o'', 1 ≤ size ∧ size ≤ left ∧ BX (h.set a o'') a (N + 2 + k + 1) ∧
            (sIf (eOp oEq (eVar 2) (eC (.int 0))) (sSet 7 (eOp oAdd (eC (.int 1)) (eCall (argn 2 c__law_take) (lCons (eVar 0) (lCons (eVar 4) lNil)))))
              (sIf (eOp oEq (eVar 2) (eC (.int 1))) (sSet 7 (eOp oAdd (eC (.int 1)) (eCall (argn 2 c__law_take) (lCons (eVar 0) (lCons (eCall cMin2 (lCons (eVar 4) (lCons (eC (.int 3)) lNil))) lNil)))))
              (sIf (eOp oLt (eVar 3) (eVar 4)) (sSet 7 (eVar 3)) sPass))) [some (.ref a), some (dN n), some (dN mode), some (dN al), some (dN left), some (.ref h.length), some (dN k), some (dN left)] (LH h a o' ls) = .nx [some (.ref a), some (dN n), some (dN mode), some (dN al), some (dN left), some (.ref h.length), some (dN k), some (dN size)] (LH h a o'' ls) := by
          by_cases m0 : mode = 0
          · obtain ⟨d, o3, t3, hd, B3⟩ := take_spec BA (by omega) (s := (left : Nat)) (by omega) (by omega)
            rw [LH_sa hal] at t3 B3
            refine ⟨d + 1, o3, by omega, by omega, BX.cut hal B3, ?_⟩
            have ed : 1 + (d : Int) = ((d + 1 : Nat) : Int) := by omega
            subst m0
            have ed' : dN (d + 1) = .int (1 + (d : Int)) := by unfold dN; rw [ed]
            rw [ed']
            simp [t3]
          · have m0' : ¬ (mode : Int) = 0 := by omega
            by_cases m1 : mode = 1
            · obtain ⟨d, o3, t3, hd, B3⟩ := take_spec BA (by omega) (s := if (3 : Int) < (left : Int) then 3 else (left : Int)) (by split <;> omega) (by split <;> omega)
              rw [LH_sa hal] at t3 B3
              refine ⟨d + 1, o3, by omega, by split at hd <;> omega, BX.cut hal B3, ?_⟩
              have ed : 1 + (d : Int) = ((d + 1 : Nat) : Int) := by omega
              have ed' : dN (d + 1) = .int (1 + (d : Int)) := by unfold dN; rw [ed]
              rw [ed']
              subst m1
              simp [t3]
            · have m1' : ¬ (mode : Int) = 1 := by omega
              by_cases q : al < left
              · refine ⟨al, o', by omega, by omega, B'.mono (by omega), ?_⟩
                simp [m0', m0, m1', m1, q]
              · refine ⟨left, o', by omega, by omega, B'.mono (by omega), ?_⟩
                simp [m0', m0, m1', m1, q]
        obtain ⟨size, o'', s1, s2, B3, ke⟩ := key
        refine ⟨[some (.ref a), some (dN n), some (dN mode), some (dN al), some (dN (left - size)), some (.ref h.length), some (dN k), some (dN size)], LH h a o'' (ls ++ [size]), ?_, o'', left - size, ls ++ [size], some (dN k), some (dN size), rfl, rfl, B3, fun s hs => ?_, by rw [List.sum_append, List.sum_cons, List.sum_nil]; omega, by omega, by simp; omega⟩
        · have ap : ∀ r v h, appO (some (.lst (ls.map dN))) r v h = .ok .non (h.set r (.lst (ls.map dN ++ [v]))) := fun r v h => appO_lst (by rw [List.length_map, sizeLine_eq]; omega)
          have g0 := LH_0 (h := h) (a := a) (o := o'') (ls := ls)
          have s0 := LH_s0 (h := h) (a := a) (o := o'') (ls := ls) size
          have es : ((left - size : Nat) : Int) = (left : Int) - (size : Int) := by omega
          unfold lb__law_lengths_1
          rw [sIf_]
          have cond : eOp oGt (eVar 4) (eC (D.int 0)) (List.set [some (D.ref a), some (dN n), some (dN mode), some (dN al), some (dN left), some (.ref h.length), x6, x7] 6 (some (dN k))) (LH h a o' ls) = .ok (.bl true) (LH h a o' ls) := by
            simp [lpos']
          rw [cond, thenS_ok, onB_bl, if_pos rfl, sSeq_]
          have st : sSet 7 (eVar 4) (List.set [some (D.ref a), some (dN n), some (dN mode), some (dN al), some (dN left), some (.ref h.length), x6, x7] 6 (some (dN k))) (LH h a o' ls) = .nx [some (.ref a), some (dN n), some (dN mode), some (dN al), some (dN left), some (.ref h.length), some (dN k), some (dN left)] (LH h a o' ls) := by simp
          rw [st, sthen_nx, sSeq_, ke, sthen_nx, ← s0]
          generalize LH h a o'' ls = H at *
          simp only [dN, es]
          simp [g0, ap]
        · rcases List.mem_append.mp hs with hs | hs
          · exact pos s hs
          · rw [List.mem_singleton] at hs; subst hs; exact s1)
  have l0 : left = 0 := by omega
  subst l0
  have e : c__law_lengths [.ref a, dN n] h = gc h (.ok (.ref h.length) (LH h a o' ls)) := by
    unfold c__law_lengths fsem
    have r3 : RgB (n : Int) := rgB_nat (by omega)
    have w0 : LH h a o2 [] = h.set a o2 ++ [.lst []] := rfl
    rw [w0] at w
    have st1 : (h.set a o1).length = h.length := by simp
    simp [m__law_lengths, t1, t2, eal', r3, rg_zero, w]
  obtain ⟨j, g, eg, ej, lj⟩ := gc_boxR (h := h) (a := a) (o := o') (g := [AO.lst (ls.map dN)]) (i := h.length) (u := .lst (ls.map dN)) (Nat.le_refl _) LH_0 (by simp)
  exact ⟨ls, o', j, g, by rw [e]; exact eg, ej, lj, pos, by omega, B'.mono (by omega)⟩
def OR (h : AH) (a n N : Nat) (d : D) (h' : AH) : Prop := ∃ p o' g, d = dC p ∧ h' = h.set a o' ++ g ∧ IsP n p ∧ BX (h.set a o') a N
theorem cutD_tail {es : List D} : cutD es (some (2 : Int)) none = es.drop 2 := cutD_from es 2
theorem other_spec {h : AH} {a N : Nat} (B : BX h a N) {n : Nat} (h1 : 1 ≤ n) (hn : n ≤ 1000) (hN : N + n + 10 ≤ 1000000000) {f : List Nat} (P : IsP n f) {ls : List Nat} (pos : ∀ s ∈ ls, 1 ≤ s) (sm : ls.sum = n) {r : Nat} (hr : h[r]? = some (.lst (ls.map dN))) (hra : r ≠ a) :
    ∃ p o' g, c__law_other [.ref a, dC f, .ref r, dN n] h = .ok (dC p) (h.set a o' ++ g) ∧ IsP n p ∧ BX (h.set a o') a (N + n + 10) := by
  have hal := B.lt
  obtain ⟨mode, o1, t1, hm, B1⟩ := take_spec B (by omega) (s := 4) (by omega) (by omega)
  have hr1 : ∀ o, (h.set a o)[r]? = some (.lst (ls.map dN)) := fun o => by rw [List.getElem?_set_ne (fun e => hra e.symm)]; exact hr
  have lm : (ls.map dN).length = ls.length := by simp
  suffices S : ∃ d h', m__law_other [some (.ref a), some (dC f), some (.ref r), some (dN n), none, none, none, none, none] h = .rt d h' ∧ OR h a n (N + n + 10) d h' by
    obtain ⟨d, h', e, p, o', g, rfl, rfl, R, B'⟩ := S
    obtain ⟨g', eg⟩ := gc_box (h := h) (a := a) (o := o') (g := g) (d := dC p) (by simp [dC])
    refine ⟨p, o', g', ?_, R, B'⟩
    rw [← eg]
    unfold c__law_other fsem
    rw [show ([D.ref a, dC f, .ref r, dN n].map some ++ List.replicate (9 - [D.ref a, dC f, D.ref r, dN n].length) none : AE) = [some (.ref a), some (dC f), some (.ref r), some (dN n), none, none, none, none, none] from rfl, e]
    rfl
  unfold m__law_other
  refine sqR (e1 := [some (.ref a), some (dC f), some (.ref r), some (dN n), some (dN mode), none, none, none, none]) (h1 := h.set a o1) (by simp [t1]) ?_
  have hl1 : (h.set a o1).length = h.length := by simp
  by_cases m0 : mode = 0
  · subst m0
    obtain ⟨p, o2, g, ep, R, B2⟩ := perm_spec B1 hn (by omega)
    rw [List.set_set] at ep B2
    refine sqX ⟨dC p, h.set a o2 ++ g, ?_, p, o2, g, rfl, rfl, R, B2.mono (by omega)⟩
    simp [ep]
  have m0' : ¬ (mode : Int) = 0 := by omega
  refine sqR (e1 := [some (.ref a), some (dC f), some (.ref r), some (dN n), some (dN mode), none, none, none, none]) (h1 := h.set a o1) (by simp [m0', m0]) ?_
  have hr1' := hr1 o1
  by_cases br : mode < 3 ∧ 1 < ls.length
  · obtain ⟨m3, l1⟩ := br
    have m3' : (mode : Int) < 3 := by omega
    have l1' : (1 : Int) < (ls.length : Int) := by omega
    obtain ⟨s0, s1, rest, rfl⟩ : ∃ s0 s1 rest, ls = s0 :: s1 :: rest := by
      match ls, l1 with
      | s0 :: s1 :: rest, _ => exact ⟨s0, s1, rest, rfl⟩
    have p0 := pos s0 (by simp)
    have p1 := pos s1 (by simp)
    have pr : ∀ s ∈ rest, 1 ≤ s := fun s hs => pos s (by simp [hs])
    simp only [List.sum_cons] at sm
    have le0 : s0 + s1 ≤ n := by omega
    have lrest : rest.length ≤ n := by
      have : ∀ l : List Nat, (∀ s ∈ l, 1 ≤ s) → l.length ≤ l.sum := fun l => by
        induction l with
        | nil => simp
        | cons x l ih =>
          intro h
          have := h x (by simp)
          have := ih fun s hs => h s (by simp [hs])
          rw [List.length_cons, List.sum_cons]; omega
      have := this rest pr
      omega
    -- the parts
    have key : ∃ parts : List Nat, (parts = [s0 + s1 - 1, 1] ∨ parts = [s0 + s1]) ∧ ∃ g q, sSeq (sSet 5 (eLst (lCons (eOp oSub (eOp oAdd (eOp oIx (eVar 2) (eC (.int 0))) (eOp oIx (eVar 2) (eC (.int 1)))) (eC (.int 1))) (lCons (eC (.int 1)) lNil))))
        (sIf (eOp oEq (eVar 4) (eC (.int 2))) (sSet 5 (eLst (lCons (eOp oAdd (eOp oIx (eVar 2) (eC (.int 0))) (eOp oIx (eVar 2) (eC (.int 1)))) lNil))) sPass) [some (.ref a), some (dC f), some (.ref r), some (dN n), some (dN mode), none, none, none, none] (h.set a o1) = .nx [some (.ref a), some (dC f), some (.ref r), some (dN n), some (dN mode), some (.ref q), none, none, none] (h.set a o1 ++ g) ∧ (h.set a o1 ++ g)[q]? = some (.lst (parts.map dN)) := by
      have es : ((s0 + s1 - 1 : Nat) : Int) = (s0 : Int) + (s1 : Int) - 1 := by omega
      by_cases m2 : mode = 2
      · subst m2
        refine ⟨[s0 + s1], .inr rfl, [.lst ([s0 + s1 - 1, 1].map dN), .lst ([s0 + s1].map dN)], h.length + 1, ?_, by
          have := app_get (h := h.set a o1) (g := [AO.lst ([s0 + s1 - 1, 1].map dN), AO.lst ([s0 + s1].map dN)]) (i := 1)
          rw [hl1] at this
          rw [this]; rfl⟩
        have hr2 : (h.set a o1 ++ [AO.lst ([s0 + s1 - 1, 1].map dN)])[r]? = some (.lst ((s0 :: s1 :: rest).map dN)) := app_get_l (hr1 o1)
        have ap2 : h.set a o1 ++ [AO.lst ([s0 + s1 - 1, 1].map dN), AO.lst ([s0 + s1].map dN)] = (h.set a o1 ++ [AO.lst ([s0 + s1 - 1, 1].map dN)]) ++ [AO.lst ([s0 + s1].map dN)] := by simp
        have hl2 : (h.set a o1 ++ [AO.lst ([s0 + s1 - 1, 1].map dN)]).length = h.length + 1 := by simp
        rw [ap2]
        have st : sSet 5 (eLst (lCons (eOp oSub (eOp oAdd (eOp oIx (eVar 2) (eC (.int 0))) (eOp oIx (eVar 2) (eC (.int 1)))) (eC (.int 1))) (lCons (eC (.int 1)) lNil))) [some (.ref a), some (dC f), some (.ref r), some (dN n), some (dN 2), none, none, none, none] (h.set a o1) = .nx [some (.ref a), some (dC f), some (.ref r), some (dN n), some (dN 2), some (.ref h.length), none, none, none] (h.set a o1 ++ [AO.lst ([s0 + s1 - 1, 1].map dN)]) := by
          simp only [List.map_cons, List.map_nil] at hr1' ⊢
          simp [hr1', dN, es]
        rw [sSeq_, st, sthen_nx]
        simp only [List.map_cons, List.map_nil] at hr2 hl2 ⊢
        generalize h.set a o1 ++ [AO.lst [dN (s0 + s1 - 1), dN 1]] = H at *
        simp [hr2, hl2, dN]
      · have m2' : ¬ (mode : Int) = 2 := by omega
        refine ⟨[s0 + s1 - 1, 1], .inl rfl, [.lst ([s0 + s1 - 1, 1].map dN)], h.length, ?_, by rw [app_get0 (by simp)]; rfl⟩
        simp only [List.map_cons, List.map_nil] at hr1' ⊢
        simp [hr1', dN, es, m2', m2]
    obtain ⟨parts, pc, g, q, ks, gq⟩ := key
    have psum : (parts ++ rest).sum = n := by
      rcases pc with rfl | rfl
      · simp; omega
      · simp; omega
    have ppos : ∀ s ∈ parts ++ rest, 1 ≤ s := fun s hs => by
      rcases List.mem_append.mp hs with hs | hs
      · rcases pc with rfl | rfl
        · simp at hs; omega
        · simp at hs; omega
      · exact pr s hs
    have lparts : parts.length ≤ 2 := by rcases pc with rfl | rfl <;> simp
    have g2 : (h.set a o1 ++ g)[r]? = some (.lst ((s0 :: s1 :: rest).map dN)) := app_get_l (hr1 o1)
    have hxl : (h.set a o1 ++ g ++ [AO.lst (rest.map dN)])[(h.set a o1 ++ g).length]? = some (.lst (rest.map dN)) := getLast_app
    have gq2 : (h.set a o1 ++ g ++ [AO.lst (rest.map dN)])[q]? = some (.lst (parts.map dN)) := app_get_l gq
    have oa := oAdd_ref (r := q) (q := (h.set a o1 ++ g).length) gq2 hxl
    rw [if_pos (fits (by simp; omega)), ← List.map_append] at oa
    obtain ⟨sp, es, S⟩ := shaped_spec ppos psum hn (h := (h.set a o1 ++ g ++ [AO.lst (rest.map dN)]) ++ [AO.lst ((parts ++ rest).map dN)]) (r := (h.set a o1 ++ g ++ [AO.lst (rest.map dN)]).length) getLast_app
    have B3 : BX ((h.set a o1 ++ g ++ [AO.lst (rest.map dN)]) ++ [AO.lst ((parts ++ rest).map dN)]) a (N + 1) := B1.app.app.app
    obtain ⟨pp, o2, g3, ep, PP, B4⟩ := perm_spec B3 hn (by omega)
    obtain ⟨cp, ec, CC⟩ := conj_spec S PP hn (h := ((h.set a o1 ++ g ++ [AO.lst (rest.map dN)]) ++ [AO.lst ((parts ++ rest).map dN)]).set a o2 ++ g3)
    have eh : ((h.set a o1 ++ g ++ [AO.lst (rest.map dN)]) ++ [AO.lst ((parts ++ rest).map dN)]).set a o2 = h.set a o2 ++ (g ++ [AO.lst (rest.map dN)] ++ [AO.lst ((parts ++ rest).map dN)]) := by
      rw [app_set_l (by simp; omega), app_set_l (by simp; omega), app_set_l (by simp; omega), List.set_set]; simp
    rw [eh] at B4
    have cond : eAnd (eOp oLt (eVar 4) (eC (.int 3))) (eOp oGt (eCall cLen (lCons (eVar 2) lNil)) (eC (.int 1))) [some (.ref a), some (dC f), some (.ref r), some (dN n), some (dN mode), none, none, none, none] (h.set a o1) = .ok (.bl true) (h.set a o1) := by
      have hh := hr1 o1
      generalize h.set a o1 = H at *
      simp [m3', m3, hh]
      omega
    refine sqX ?_
    rw [sIf_, cond, thenS_ok, onB_bl, if_pos rfl]
    refine ⟨dC cp, h.set a o2 ++ (g ++ [AO.lst (rest.map dN)] ++ [AO.lst ((parts ++ rest).map dN)] ++ g3), ?_, cp, o2, _, rfl, rfl, CC, ?_⟩
    · rw [sSeq_] at ks
      rw [sSeq_]
      have : ∀ (x : SR) (b c : SM), x.then (sSeq b c) = (x.then b).then c := fun x b c => by cases x <;> rfl
      rw [this, ks, sthen_nx]
      have cd : cutD ((s0 :: s1 :: rest).map dN) (some (2 : Int)) none = rest.map dN := by rw [cutD_tail]; rfl
      have fin : h.set a o2 ++ (g ++ [AO.lst (rest.map dN)] ++ [AO.lst ((parts ++ rest).map dN)] ++ g3) = ((h.set a o1 ++ g ++ [AO.lst (rest.map dN)]) ++ [AO.lst ((parts ++ rest).map dN)]).set a o2 ++ g3 := by rw [eh]; simp
      rw [fin]
      generalize ((h.set a o1 ++ g ++ [AO.lst (rest.map dN)]) ++ [AO.lst ((parts ++ rest).map dN)]).set a o2 ++ g3 = H4 at *
      generalize (h.set a o1 ++ g ++ [AO.lst (rest.map dN)]) ++ [AO.lst ((parts ++ rest).map dN)] = H3 at *
      generalize hH2 : h.set a o1 ++ g ++ [AO.lst (rest.map dN)] = H2 at *
      generalize h.set a o1 ++ g = H1 at *
      generalize (s0 :: s1 :: rest).map dN = lsd at *
      simp [g2, cd, hH2, oa, es, ep, ec]
    · exact (BX.cut hal B4).mono (by omega)
  · -- an exchange behind
    have cond : eAnd (eOp oLt (eVar 4) (eC (.int 3))) (eOp oGt (eCall cLen (lCons (eVar 2) lNil)) (eC (.int 1))) [some (.ref a), some (dC f), some (.ref r), some (dN n), some (dN mode), none, none, none, none] (h.set a o1) = .ok (.bl false) (h.set a o1) := by
      have hh := hr1 o1
      generalize h.set a o1 = H at *
      by_cases m3 : mode < 3
      · have l1 : ¬ 1 < ls.length := fun z => br ⟨m3, z⟩
        have m3' : (mode : Int) < 3 := by omega
        simp [m3', m3, hh]
        omega
      · have m3' : ¬ (mode : Int) < 3 := by omega
        simp [m3', m3]
    refine sqR (e1 := [some (.ref a), some (dC f), some (.ref r), some (dN n), some (dN mode), none, none, none, none]) (h1 := h.set a o1) (by rw [sIf_, cond]; rfl) ?_
    by_cases n1 : n = 1
    · subst n1
      refine sqX ⟨dC f, h.set a o1, ?_, f, o1, [], rfl, by simp, P, B1.mono (by omega)⟩
      simp
    have n1' : ¬ (n : Int) = 1 := by omega
    refine sqR (e1 := [some (.ref a), some (dC f), some (.ref r), some (dN n), some (dN mode), none, none, none, none]) (h1 := h.set a o1) (by simp [n1', n1]) ?_
    have r2 : RgOk 0 (n : Int) := rgOk_nat (by omega)
    refine sqR (e1 := [some (.ref a), some (dC f), some (.ref r), some (dN n), some (dN mode), none, some (.ref h.length), none, none]) (h1 := LH h a o1 (List.range n)) (by
      unfold LH
      simp [r2, rg_zero]) ?_
    have BL : BX (LH h a o1 (List.range n)) a (N + 1) := by unfold LH; exact B1.app
    obtain ⟨i, o2, t2, hi, B2⟩ := take_spec BL (by omega) (s := (n : Int)) (by omega) (by omega)
    rw [LH_sa hal] at t2 B2
    obtain ⟨d, o3, t3, hd, B3⟩ := take_spec B2 (by omega) (s := (n : Int) - 1) (by omega) (by omega)
    rw [LH_sa hal] at t3 B3
    obtain ⟨j, hj⟩ : ∃ j, j = (i + 1 + d) % n := ⟨_, rfl⟩
    have hjn : j < n := by rw [hj]; exact Nat.mod_lt _ (by omega)
    have ej : ((i : Int) + 1 + (d : Int)) % (n : Int) = (j : Int) := by rw [hj]; push_cast; rfl
    have hnp : (0 : Int) < (n : Int) := by omega
    have hnp' : 0 < n := by omega
    have hin : i < n := by omega
    refine sqR (e1 := [some (.ref a), some (dC f), some (.ref r), some (dN n), some (dN mode), none, some (.ref h.length), some (dN i), none]) (h1 := LH h a o2 (List.range n)) (by simp [t2]) ?_
    refine sqR (e1 := [some (.ref a), some (dC f), some (.ref r), some (dN n), some (dN mode), none, some (.ref h.length), some (dN i), some (dN j)]) (h1 := LH h a o3 (List.range n)) (by simp [t3, oMod_, hnp', ej]) ?_
    have SW : IsP n (((List.range n).set i ((List.range n).getD j 0)).set j ((List.range n).getD i 0)) := IsP.swap (IsP.range n) hin hjn
    rw [range_D hjn, range_D hin] at SW
    have st : ∀ (p : List Nat) (x v : Nat), p.length = n → x < n → (LH h a o3 p).set h.length (.lst ((p.map dN).set x (dN v))) = LH h a o3 (p.set x v) := fun p x v hp hx => by
      have := app_set (h := h.set a o3) (g := [AO.lst (p.map dN)]) (i := 0) (n := h.length) (o := .lst ((p.map dN).set x (dN v))) (by simp)
      unfold LH; rw [Nat.add_zero] at this; rw [this, List.map_set]; rfl
    have pt : ∀ (p : List Nat) (x v : Nat) h, p.length = n → x < n → putO (some (.lst (p.map dN))) h.length (x : Int) (dN v) h = some (h.set h.length (.lst ((p.map dN).set x (dN v)))) := fun p x v h hp hx => putO_nat (by simp; omega)
    have a1 : sAsg (eVar 8) (fun d e h => onlyNx ((gSub putL (eVar 6) (eVar 7)) d e h)) [some (.ref a), some (dC f), some (.ref r), some (dN n), some (dN mode), none, some (.ref h.length), some (dN i), some (dN j)] (LH h a o3 (List.range n)) = .nx [some (.ref a), some (dC f), some (.ref r), some (dN n), some (dN mode), none, some (.ref h.length), some (dN i), some (dN j)] (LH h a o3 ((List.range n).set i j)) := by
      have g0 := LH_0 (h := h) (a := a) (o := o3) (ls := List.range n)
      have s1 := st (List.range n) i j (by simp) hin
      have p1 : ∀ r v h, putO (some (.lst ((List.range n).map dN))) r (i : Int) v h = some (h.set r (.lst (((List.range n).map dN).set i v))) := fun r v h => putO_nat (by simpa using hin)
      rw [← s1]
      generalize LH h a o3 (List.range n) = H at *
      generalize (List.range n).map dN = rd at *
      simp [g0, p1]
    have a2 : sAsg (eVar 7) (fun d e h => onlyNx ((gSub putL (eVar 6) (eVar 8)) d e h)) [some (.ref a), some (dC f), some (.ref r), some (dN n), some (dN mode), none, some (.ref h.length), some (dN i), some (dN j)] (LH h a o3 ((List.range n).set i j)) = .nx [some (.ref a), some (dC f), some (.ref r), some (dN n), some (dN mode), none, some (.ref h.length), some (dN i), some (dN j)] (LH h a o3 (((List.range n).set i j).set j i)) := by
      have g0 := LH_0 (h := h) (a := a) (o := o3) (ls := (List.range n).set i j)
      have s1 := st ((List.range n).set i j) j i (by simp) hjn
      have p1 : ∀ r v h, putO (some (.lst (((List.range n).set i j).map dN))) r (j : Int) v h = some (h.set r (.lst ((((List.range n).set i j).map dN).set j v))) := fun r v h => putO_nat (by simpa using hjn)
      rw [← s1]
      generalize LH h a o3 ((List.range n).set i j) = H at *
      generalize ((List.range n).set i j).map dN = rd at *
      simp [g0, p1]
    refine sqR a1 ?_
    refine sqR a2 ?_
    obtain ⟨p, ep, PP⟩ := times_spec P SW hn (h := LH h a o3 (((List.range n).set i j).set j i)) (r := h.length) LH_0
    refine ⟨dC p, LH h a o3 (((List.range n).set i j).set j i), ?_, p, o3, _, rfl, rfl, PP, (BX.cut hal B3).mono (by omega)⟩
    generalize LH h a o3 (((List.range n).set i j).set j i) = H at *
    simp [ep]
end Law

set_option maxHeartbeats 4000000
namespace Law
open PySem Rf L2
theorem setApp {h g g2 : AH} {a : Nat} {o o2 : AO} (ha : a < h.length) : (h.set a o ++ g).set a o2 ++ g2 = h.set a o2 ++ (g ++ g2) := by
  rw [app_set_l (by simpa using ha), List.set_set, List.append_assoc]
theorem BX.setA {h g : AH} {a N : Nat} {o o2 : AO} (ha : a < h.length) (B : BX ((h.set a o ++ g).set a o2) a N) : BX (h.set a o2) a N := by
  have e := setApp (h := h) (g := g) (g2 := []) (o := o) (o2 := o2) ha
  rw [List.append_nil, List.append_nil] at e
  rw [e] at B
  exact BX.cut ha B
def dPP (x : List Nat × List Nat) : D := .tup [dC x.1, dC x.2]
theorem set_get {h g : AH} {a j : Nat} {o o2 : AO} {u : AO} (hj : j ≠ a) (e : (h.set a o ++ g)[j]? = some u) : ((h.set a o ++ g).set a o2)[j]? = some u := by
  rw [List.getElem?_set_ne (fun z => hj z.symm)]; exact e
theorem pairs_spec {h : AH} {a N : Nat} (B : BX h a N) {n : Nat} (h1 : 1 ≤ n) (hn : n ≤ 1000) (hN : N + 10000 ≤ 1000000000) :
    ∃ (prs : List (List Nat × List Nat)) (o' : AO) (j : Nat) (g : AH), c__law_pairs [.ref a, dN n] h = .ok (.ref j) (h.set a o' ++ g) ∧ (h.set a o' ++ g)[j]? = some (.lst (prs.map dPP)) ∧ h.length ≤ j ∧ (∀ x ∈ prs, IsP n x.1 ∧ IsP n x.2) ∧ BX (h.set a o') a (N + 10000) := by
  have hal := B.lt
  obtain ⟨ls, o1, j1, g1, e1, ej1, lj1, pos, sm, B1⟩ := lengths_spec B h1 hn (by omega)
  have ja : j1 ≠ a := by omega
  obtain ⟨pl, e2, PL⟩ := shaped_spec pos sm hn ej1
  obtain ⟨p3, o3, g3, e3, P3, B3⟩ := perm_spec (h := h.set a o1 ++ g1) B1.app hn (by omega)
  have E3 := setApp (h := h) (g := g1) (g2 := g3) (o := o1) (o2 := o3) hal
  have ej3 : ((h.set a o1 ++ g1).set a o3 ++ g3)[j1]? = some (.lst (ls.map dN)) := app_get_l (set_get ja ej1)
  rw [E3] at e3 ej3
  have B3 := BX.setA hal B3
  obtain ⟨f, e3c, F⟩ := conj_spec PL P3 hn (h := h.set a o3 ++ (g1 ++ g3))
  obtain ⟨p4, o4, g4, e4, P4, B4⟩ := perm_spec (h := h.set a o3 ++ (g1 ++ g3)) B3.app hn (by omega)
  have E4 := setApp (h := h) (g := g1 ++ g3) (g2 := g4) (o := o3) (o2 := o4) hal
  have ej4 : ((h.set a o3 ++ (g1 ++ g3)).set a o4 ++ g4)[j1]? = some (.lst (ls.map dN)) := app_get_l (set_get ja ej3)
  rw [E4] at e4 ej4
  have B4 := BX.setA hal B4
  obtain ⟨s, e4c, S⟩ := conj_spec PL P4 hn (h := h.set a o4 ++ (g1 ++ g3 ++ g4))
  obtain ⟨ot, o5, g5, e5, OT, B5⟩ := other_spec (h := h.set a o4 ++ (g1 ++ g3 ++ g4)) B4.app h1 hn (by omega) S pos sm ej4 ja
  have E5 := setApp (h := h) (g := g1 ++ g3 ++ g4) (g2 := g5) (o := o4) (o2 := o5) hal
  rw [E5] at e5
  have B5 := BX.setA hal B5
  obtain ⟨H5, hH5⟩ : ∃ H5, H5 = h.set a o5 ++ (g1 ++ g3 ++ g4 ++ g5) := ⟨_, rfl⟩
  rw [← hH5] at e5
  obtain ⟨iv, e6, IV⟩ := linverse_spec F hn (h := H5 ++ [AO.lst [dPP (f, s), dPP (s, f), dPP (f, ot), dPP (ot, f)]])
  have oa := oAdd_ref (r := H5.length) (q := (H5 ++ [AO.lst [dPP (f, s), dPP (s, f), dPP (f, ot), dPP (ot, f)]]).length) (xs := [dPP (f, s), dPP (s, f), dPP (f, ot), dPP (ot, f)]) (ys := [dPP (f, f), dPP (f, iv)]) (h := (H5 ++ [AO.lst [dPP (f, s), dPP (s, f), dPP (f, ot), dPP (ot, f)]]) ++ [AO.lst [dPP (f, f), dPP (f, iv)]]) (app_get_l getLast_app) getLast_app
  rw [if_pos (fits (by simp))] at oa
  have hl5 : H5.length = h.length + (g1 ++ g3 ++ g4 ++ g5).length := by rw [hH5]; simp
  have e : c__law_pairs [.ref a, dN n] h = gc h (.ok (.ref (H5.length + 2)) (((H5 ++ [AO.lst [dPP (f, s), dPP (s, f), dPP (f, ot), dPP (ot, f)]]) ++ [AO.lst [dPP (f, f), dPP (f, iv)]]) ++ [AO.lst [dPP (f, s), dPP (s, f), dPP (f, ot), dPP (ot, f), dPP (f, f), dPP (f, iv)]])) := by
    unfold c__law_pairs fsem
    have l2 : ((H5 ++ [AO.lst [dPP (f, s), dPP (s, f), dPP (f, ot), dPP (ot, f)]]) ++ [AO.lst [dPP (f, f), dPP (f, iv)]]).length = H5.length + 2 := by simp
    have l1 : (H5 ++ [AO.lst [dPP (f, s), dPP (s, f), dPP (f, ot), dPP (ot, f)]]).length = H5.length + 1 := by simp
    rw [l2, l1] at oa
    have f4 : Fits 4 := fits (by decide)
    generalize h.set a o4 ++ (g1 ++ g3 ++ g4) = H4 at *
    generalize h.set a o3 ++ (g1 ++ g3) = H3 at *
    generalize h.set a o1 ++ g1 = H1 at *
    simp only [dPP] at oa e6 l1 l2 ⊢
    generalize dC iv = div at *
    generalize dC ot = dot at *
    generalize dC s = ds at *
    generalize dC f = df at *
    generalize dC p4 = dp4 at *
    generalize dC p3 = dp3 at *
    generalize dC pl = dpl at *
    generalize hA : H5 ++ [AO.lst [D.tup [df, ds], D.tup [ds, df], D.tup [df, dot], D.tup [dot, df]]] = A at *
    generalize hBB : A ++ [AO.lst [D.tup [df, df], D.tup [df, div]]] = BB at *
    simp [m__law_pairs, e1, e2, e3, e3c, e4, e4c, e5, f4, hA, e6, l1, hBB, oa]
  obtain ⟨G, hG⟩ : ∃ G, G = (g1 ++ g3 ++ g4 ++ g5) ++ [AO.lst [dPP (f, s), dPP (s, f), dPP (f, ot), dPP (ot, f)], AO.lst [dPP (f, f), dPP (f, iv)], AO.lst [dPP (f, s), dPP (s, f), dPP (f, ot), dPP (ot, f), dPP (f, f), dPP (f, iv)]] := ⟨_, rfl⟩
  have eG : ((H5 ++ [AO.lst [dPP (f, s), dPP (s, f), dPP (f, ot), dPP (ot, f)]]) ++ [AO.lst [dPP (f, f), dPP (f, iv)]]) ++ [AO.lst [dPP (f, s), dPP (s, f), dPP (f, ot), dPP (ot, f), dPP (f, f), dPP (f, iv)]] = h.set a o5 ++ G := by rw [hH5, hG]; simp
  have gG : (h.set a o5 ++ G)[H5.length + 2]? = some (.lst ([(f, s), (s, f), (f, ot), (ot, f), (f, f), (f, iv)].map dPP)) := by
    rw [← eG, ← show ((H5 ++ [AO.lst [dPP (f, s), dPP (s, f), dPP (f, ot), dPP (ot, f)]]) ++ [AO.lst [dPP (f, f), dPP (f, iv)]]).length = H5.length + 2 by simp]
    exact getLast_app
  obtain ⟨j, g, eg, ej, lj⟩ := gc_boxR (h := h) (a := a) (o := o5) (g := G) (i := H5.length + 2) (by omega) gG (by simp [dPP, dC])
  refine ⟨[(f, s), (s, f), (f, ot), (ot, f), (f, f), (f, iv)], o5, j, g, by rw [e, eG]; exact eg, ej, lj, fun x hx => ?_, B5.mono (by omega)⟩
  simp only [List.mem_cons, List.not_mem_nil, or_false] at hx
  rcases hx with rfl | rfl | rfl | rfl | rfl | rfl
  · exact ⟨F, S⟩
  · exact ⟨S, F⟩
  · exact ⟨F, OT⟩
  · exact ⟨OT, F⟩
  · exact ⟨F, F⟩
  · exact ⟨F, IV⟩
theorem few_spec {h : AH} {a N : Nat} (B : BX h a N) (hN : N + 20000 ≤ 1000000000) : ∃ o' g, c__law_few [.ref a] h = .ok (.bl true) (h.set a o' ++ g) ∧ BX (h.set a o') a (N + 20000) := by
  have hal := B.lt
  obtain ⟨d1, o1, t1, hd1, B1⟩ := take_spec B (by omega) (s := 5) (by omega) (by omega)
  obtain ⟨d2, o2, t2, hd2, B2⟩ := take_spec B1 (by omega) (s := 8) (by omega) (by omega)
  rw [List.set_set] at t2 B2
  obtain ⟨n0, en0⟩ : ∃ n0, n0 = d1 + 1 := ⟨_, rfl⟩
  have en0' : 1 + (d1 : Int) = (n0 : Int) := by omega
  -- the points
  obtain ⟨n, hn1, hn6, si⟩ : ∃ n, 1 ≤ n ∧ n ≤ 6 ∧ sIf (eOp oEq (eCall (argn 2 c__law_take) (lCons (eVar 0) (lCons (eC (.int 8)) lNil))) (eC (.int 0))) (sSet 1 (eC (.int 6))) sPass [some (.ref a), some (dN n0), none, none, none, none] (h.set a o1) = .nx [some (.ref a), some (dN n), none, none, none, none] (h.set a o2) := by
    by_cases q : d2 = 0
    · refine ⟨6, by omega, by omega, ?_⟩
      subst q
      simp [t2]
    · refine ⟨n0, by omega, by omega, ?_⟩
      have : ¬ (d2 : Int) = 0 := by omega
      simp [t2, this, q]
  have ea := all_spec hn6 (h := h.set a o2)
  have hl2 : (h.set a o2).length = h.length := by simp
  rw [hl2] at ea
  obtain ⟨prs, o3, j, g, ep, ej, lj, PP, B3⟩ := pairs_spec (h := h.set a o2 ++ [.lst ((allR n n).map dC)]) B2.app hn1 (by omega) (by omega)
  have E3 := setApp (h := h) (g := [AO.lst ((allR n n).map dC)]) (g2 := g) (o := o2) (o2 := o3) hal
  have er : ((h.set a o2 ++ [AO.lst ((allR n n).map dC)]).set a o3 ++ g)[h.length]? = some (.lst ((allR n n).map dC)) := app_get_l (by
    rw [List.getElem?_set_ne (by omega), app_get0 (by simp)]; rfl)
  rw [E3] at ep ej er
  have B3 := BX.setA hal B3
  obtain ⟨e', h', w, x3, x4, x5, rfl, rfl⟩ := liveL_inv (g := gVar 3) (b := lb__law_few_1) (r := j) (ds := prs.map dPP)
    (fun i e h' => ∃ x3 x4 x5, e = [some (.ref a), some (dN n), some (.ref h.length), x3, x4, x5] ∧ h.set a o3 ++ ([.lst ((allR n n).map dC)] ++ g) = h')
    (e := [some (.ref a), some (dN n), some (.ref h.length), none, none, none]) (h := h.set a o3 ++ ([.lst ((allR n n).map dC)] ++ g))
    (by rintro i e h' ⟨x3, x4, x5, rfl, rfl⟩; exact ej)
    ⟨none, none, none, rfl, rfl⟩ (by
      rintro i d e h' hd ⟨x3, x4, x5, rfl, rfl⟩
      cases hp : prs[i]? with
      | none => rw [List.getElem?_map, hp] at hd; cases hd
      | some x =>
        rw [List.getElem?_map, hp] at hd
        obtain rfl : dPP x = d := Option.some.inj hd
        obtain ⟨P, Q⟩ := PP x (List.mem_of_getElem? hp)
        obtain ⟨x4', x5', st⟩ := few_step P Q hn6 er (x0 := some (.ref a)) (x4 := x4) (x5 := x5)
        exact ⟨_, _, st, some (dPP x), x4', x5', rfl, rfl⟩)
  have e : c__law_few [.ref a] h = gc h (.ok (.bl true) (h.set a o3 ++ ([.lst ((allR n n).map dC)] ++ g))) := by
    unfold c__law_few fsem
    have e1 : sSet 1 (eOp oAdd (eC (.int 1)) (eCall (argn 2 c__law_take) (lCons (eVar 0) (lCons (eC (.int 5)) lNil)))) [some (.ref a), none, none, none, none, none] h = .nx [some (.ref a), some (dN n0), none, none, none, none] (h.set a o1) := by simp [t1, en0']
    unfold m__law_few
    rw [show ([D.ref a].map some ++ List.replicate (6 - [D.ref a].length) none : AE) = [some (.ref a), none, none, none, none, none] from rfl]
    rw [sSeq_, e1, sthen_nx, sSeq_, si, sthen_nx]
    generalize h.set a o3 ++ ([AO.lst ((allR n n).map dC)] ++ g) = H3 at *
    generalize h.set a o2 ++ [AO.lst ((allR n n).map dC)] = H2 at *
    simp [ea, ep, ej, w]
  obtain ⟨g', eg⟩ := gc_box (h := h) (a := a) (o := o3) (g := [AO.lst ((allR n n).map dC)] ++ g) (d := .bl true) rfl
  exact ⟨o3, g', by rw [e]; exact eg, B3.mono (by omega)⟩
theorem many_spec {h : AH} {a N : Nat} (B : BX h a N) (hN : N + 20000 ≤ 1000000000) : ∃ o' g, c__law_many [.ref a] h = .ok (.bl true) (h.set a o' ++ g) := by
  have hal := B.lt
  obtain ⟨d1, o1, t1, hd1, B1⟩ := take_spec B (by omega) (s := 12) (by omega) (by omega)
  obtain ⟨d2, o2, t2, hd2, B2⟩ := take_spec B1 (by omega) (s := 3) (by omega) (by omega)
  rw [List.set_set] at t2 B2
  obtain ⟨d3, o3, t3, hd3, B3⟩ := take_spec B2 (by omega) (s := 27) (by omega) (by omega)
  rw [List.set_set] at t3 B3
  obtain ⟨n0, en0⟩ : ∃ n0, n0 = d1 + 2 := ⟨_, rfl⟩
  have en0' : 2 + (d1 : Int) = (n0 : Int) := by omega
  obtain ⟨n, o4, hn1, hn6, B4, si⟩ : ∃ n o4, 1 ≤ n ∧ n ≤ 60 ∧ BX (h.set a o4) a (N + 3) ∧ sIf (eOp oEq (eCall (argn 2 c__law_take) (lCons (eVar 0) (lCons (eC (.int 3)) lNil))) (eC (.int 0))) (sSet 1 (eOp oAdd (eC (.int 14)) (eCall (argn 2 c__law_take) (lCons (eVar 0) (lCons (eC (.int 27)) lNil))))) sPass [some (.ref a), some (dN n0), none] (h.set a o1) = .nx [some (.ref a), some (dN n), none] (h.set a o4) := by
    by_cases q : d2 = 0
    · have en : ((d3 + 14 : Nat) : Int) = 14 + (d3 : Int) := by omega
      refine ⟨d3 + 14, o3, by omega, by omega, B3, ?_⟩
      subst q
      have ed : dN (d3 + 14) = .int (14 + (d3 : Int)) := by unfold dN; rw [en]
      rw [ed]
      simp [t2, t3]
    · refine ⟨n0, o2, by omega, by omega, B2.mono (by omega), ?_⟩
      have : ¬ (d2 : Int) = 0 := by omega
      simp [t2, this, q]
  obtain ⟨prs, o5, j, g, ep, ej, lj, PP, B5⟩ := pairs_spec (h := h.set a o4) B4 hn1 (by omega) (by omega)
  rw [List.set_set] at ep ej
  obtain ⟨e', h', w, x2, rfl, rfl⟩ := liveL_inv (g := gVar 2) (b := lb__law_many_1) (r := j) (ds := prs.map dPP)
    (fun i e h' => ∃ x2, e = [some (.ref a), some (dN n), x2] ∧ h.set a o5 ++ g = h')
    (e := [some (.ref a), some (dN n), none]) (h := h.set a o5 ++ g)
    (by rintro i e h' ⟨x2, rfl, rfl⟩; exact ej)
    ⟨none, rfl, rfl⟩ (by
      rintro i d e h' hd ⟨x2, rfl, rfl⟩
      cases hp : prs[i]? with
      | none => rw [List.getElem?_map, hp] at hd; cases hd
      | some x =>
        rw [List.getElem?_map, hp] at hd
        obtain rfl : dPP x = d := Option.some.inj hd
        obtain ⟨P, Q⟩ := PP x (List.mem_of_getElem? hp)
        have st := many_step P Q (by omega) (h := h.set a o5 ++ g) (x0 := some (.ref a)) (x1 := some (dN n))
        exact ⟨_, _, st, some (dPP x), rfl, rfl⟩)
  have e : c__law_many [.ref a] h = gc h (.ok (.bl true) (h.set a o5 ++ g)) := by
    unfold c__law_many fsem
    have e1 : sSet 1 (eOp oAdd (eC (.int 2)) (eCall (argn 2 c__law_take) (lCons (eVar 0) (lCons (eC (.int 12)) lNil)))) [some (.ref a), none, none] h = .nx [some (.ref a), some (dN n0), none] (h.set a o1) := by simp [t1, en0']
    unfold m__law_many
    rw [show ([D.ref a].map some ++ List.replicate (3 - [D.ref a].length) none : AE) = [some (.ref a), none, none] from rfl]
    rw [sSeq_, e1, sthen_nx, sSeq_, si, sthen_nx]
    generalize h.set a o5 ++ g = H3 at *
    simp [ep, ej, w]
  obtain ⟨g', eg⟩ := gc_box (h := h) (a := a) (o := o5) (g := g) (d := .bl true) rfl
  exact ⟨o5, g', by rw [e]; exact eg⟩
theorem box_spec (ns : List Int) (hl : ns.length ≤ 63) : ∃ h, c__law_box [.rol (ns.map D.int)] [] = .ok (.ref 2) h ∧ BX h 2 0 := by
  have ht : cutD (ns.map D.int) none (some 63) = ns.map D.int := by
    rw [show (63 : Int) = ((63 : Nat) : Int) from rfl, cutD_to, List.take_of_length_le (by simpa using hl)]
  obtain ⟨big, hbig⟩ : ∃ big : Int, big = 10 ^ 60 * 10 ^ 60 * 10 ^ 60 := ⟨_, rfl⟩
  have hb0 : (10 : Int) ^ 60 * 10 ^ 60 * 10 ^ 60 = 10 ^ 180 := by decide
  have c1 : CMulX ((10 : Int) ^ 60) (10 ^ 60) := mulB (by decide) (by decide) (by decide) (by decide)
  have c2 : CMulX ((10 : Int) ^ 60 * 10 ^ 60) (10 ^ 60) := mulB (by decide) (by decide) (by decide) (by decide)
  obtain ⟨cells, hcells⟩ : ∃ cells : List Int, cells = ns.map fun c => c % big := ⟨_, rfl⟩
  have bp : 0 < big := by rw [hbig]; decide
  have cc : ∀ c ∈ cells, 0 ≤ c ∧ c < 10 ^ 180 := fun c hc => by
    rw [hcells] at hc
    obtain ⟨x, _, rfl⟩ := List.mem_map.mp hc
    exact ⟨Int.emod_nonneg _ (by omega), by rw [← hb0, ← hbig]; exact Int.emod_lt_of_pos _ bp⟩
  have lc : cells.length ≤ 63 := by rw [hcells]; simpa using hl
  have l1 : lc__law_box_1 [some (.rol (ns.map D.int)), none, none, none] [] = .ok (.ref 1) [.lst (ns.map D.int), .lst (cells.map D.int)] := by
    unfold lc__law_box_1
    rw [eLc_pureL (φ := D.int) (r := 0) ns (fun _ => true) (fun c => D.int (c % big)) (h1 := [.lst (ns.map D.int)]) (by
      have := iVal_ref (m := eSl (eVar 0) none (some (eC (.int 63)))) (e := [some (.rol (ns.map D.int)), none, none, none]) (h := []) (h1 := [.lst (ns.map D.int)]) (r := 0) (ds := ns.map D.int) (by simp [ht]) rfl
      simpa using this) rfl (by rw [sizeLine_eq]; omega) (fun _ _ => rfl)]
    · rw [List.filter_eq_self.mpr (by simp), hcells, List.map_map]; rfl
    · intro c _
      have bp' : (0 : Int) < 10 ^ 60 * 10 ^ 60 * 10 ^ 60 := by decide
      have c1' : CMulX 1000000000000000000000000000000000000000000000000000000000000 1000000000000000000000000000000000000000000000000000000000000 := c1
      have e0 : ([some (D.rol (ns.map D.int)), none, none, none].set 2 none).set 2 (some (D.int c)) = [some (.rol (ns.map D.int)), none, some (.int c), none] := rfl
      simp only [wipeE]
      rw [e0]
      generalize ns.map D.int = nd
      have s1 : eVar 2 [some (.rol (ns.map D.int)), none, some (.int c), none] [AO.lst nd] = .ok (.int c) [AO.lst nd] := rfl
      simp only [eOp_, eCall_, lCons_, lNil_, eC_, eVar_, List.getElem?_cons_zero, List.getElem?_cons_succ, then_ok, thenL_ok, lrcons_ok, lthen_ok, cInt_int, oPow_, if_pos powOk_60]
      rw [show ((60 : Int).toNat) = 60 from rfl, oMul_int c1, then_ok, oMul_int c2, then_ok, oMod_int bp', hbig]
  -- the fold
  obtain ⟨e', h', w, x2, fold, rfl, rfl, f0, f1⟩ := liveL_inv (g := gVar 2) (b := lb__law_box_1) (r := 1) (ds := cells.map D.int)
    (fun i e h' => ∃ x2 fold, e = [some (.rol (ns.map D.int)), some (.ref 1), x2, some (.int fold)] ∧ h' = [.lst (ns.map D.int), .lst (cells.map D.int)] ∧ 0 ≤ fold ∧ fold < 2147483647)
    (e := [some (.rol (ns.map D.int)), some (.ref 1), none, some (.int (cells.length : Nat))]) (h := [.lst (ns.map D.int), .lst (cells.map D.int)])
    (by rintro i e h' ⟨x2, fold, rfl, rfl, _⟩; rfl)
    ⟨none, (cells.length : Nat), rfl, rfl, by omega, by omega⟩ (by
      rintro i d e h' hd ⟨x2, fold, rfl, rfl, f0, f1⟩
      cases hp : cells[i]? with
      | none => rw [List.getElem?_map, hp] at hd; cases hd
      | some c =>
        rw [List.getElem?_map, hp] at hd
        obtain rfl : D.int c = d := Option.some.inj hd
        have m1 : CMulX fold 69621 := mulB (by omega) (by omega) (by omega) (by omega)
        refine ⟨_, _, ?_, some (.int c), (fold * 69621 + c % 1000003 + 17) % 2147483647, rfl, rfl, Int.emod_nonneg _ (by decide), Int.emod_lt_of_pos _ (by decide)⟩
        generalize ns.map D.int = nd
        generalize cells.map D.int = cd
        simp [lb__law_box_1, oMul_, oMod_, m1])
  refine ⟨[.lst (ns.map D.int), .lst (cells.map D.int), .lst [.ref 1, dN 0, .int 0, .int 0, .int fold]], ?_, 1, cells, 0, 0, 0, fold, rfl, by omega, rfl, lc, cc, by omega, ⟨by omega, by decide⟩, ⟨by omega, by omega⟩, f0, f1⟩
  have lm : (cells.map D.int).length = cells.length := by simp
  have e : c__law_box [.rol (ns.map D.int)] [] = gc [] (.ok (.ref 2) [.lst (ns.map D.int), .lst (cells.map D.int), .lst [.ref 1, dN 0, .int 0, .int 0, .int fold]]) := by
    unfold c__law_box fsem
    generalize ns.map D.int = nd at *
    generalize cells.map D.int = cd at *
    rw [← lm] at w
    simp [m__law_box, l1, w, dN]
  rw [e, gc_deep (o := .lst [.ref 1, dN 0, .int 0, .int 0, .int fold]) rfl rfl]
theorem law_true (ns : List Int) (hl : ns.length ≤ 63) : ∃ h', c_law [.rol (ns.map D.int)] [] = .ok (.bl true) h' := by
  obtain ⟨h, eb, B⟩ := box_spec ns hl
  obtain ⟨o1, g1, ef, B1⟩ := few_spec B (by omega)
  obtain ⟨o2, g2, em⟩ := many_spec (h := h.set 2 o1 ++ g1) B1.app (by omega)
  obtain ⟨h2, e2⟩ := gc_bl (h := []) (h' := (h.set 2 o1 ++ g1).set 2 o2 ++ g2) (b := true)
  refine ⟨h2, ?_⟩
  rw [← e2]
  unfold c_law fsem
  generalize (h.set 2 o1 ++ g1).set 2 o2 ++ g2 = H2 at *
  generalize h.set 2 o1 ++ g1 = H1 at *
  generalize ns.map D.int = nd at *
  simp [m_law, eb, ef, em]
end Law

open PySem PySem.W PyProof.Rows
set_option maxHeartbeats 0 in
theorem PySem.Challenge.cw_tumbler_k30_least_matching_holds : PySem.Challenge.rw_tumbler_k30_least_matching.Holds := by
  w_on; o_law; k_head; (case hw => w_witness2)
  k_fill
  refine L2.walk_of (l := PySem.Challenge.rw_tumbler_k30_least_matching) (n := 63) (k := 6) (x := "script") (CX := fun w => L2.CX PySem.Challenge.rw_tumbler_k30_least_matching.prog w) (sp := fun w => Rf.spLaw _ Law.c_law) rfl (by decide) rfl ⟨rfl, by decide, by decide⟩ (fun w h Y => PySem.W.kIn_of Y) ?F (fun w H a ns hl O S => Rf.spLaw.start O S (Law.law_true ns hl)) (fun _ _ _ _ _ h => Rf.cx_false h)
  case F =>
    intro w mg fa h KX G hmg
    refine' Law.all_mk KX G hmg ?a0 ?l0 ?c0 ?k0 ?a1 ?l1 ?c1 ?k1 ?a2 ?l2 ?c2 ?k2 ?a3 ?l3 ?c3 ?k3 ?a4 ?l4 ?c4 ?k4 ?a5 ?l5 ?c5 ?k5 ?a6 ?l6 ?c6 ?k6 ?a7 ?l7 ?c7 ?k7 ?a8 ?l8 ?c8 ?k8 ?a9 ?l9 ?c9 ?k9 ?a10 ?l10 ?c10 ?k10 ?a11 ?l11 ?c11 ?k11 ?a12 ?l12 ?c12 ?k12 ?a13 ?l13 ?c13 ?k13 ?a14 ?l14 ?c14 ?k14 ?a15 ?l15 ?c15 ?k15 ?a16 ?l16 ?c16 ?k16 ?a17 ?l17 ?c17 ?k17 ?a18 ?l18 ?c18 ?k18 ?a19 ?l19 ?c19 ?k19 ?a20 ?l20 ?c20 ?k20 ?a21 ?l21 ?c21 ?k21 ?a22 ?l22 ?c22 ?k22 ?a23 ?l23 ?c23 ?k23 ?a24 ?l24 ?c24 ?k24 ?z0 ?z1 ?z2 ?z3 ?z4 ?z5 ?z6 ?z7 ?z8
    (case a0 => k_is); (case l0 => k_is); (case c0 => k_is); (case k0 => k_is); (case a1 => k_is); (case l1 => k_is); (case c1 => k_is); (case k1 => k_is); (case a2 => k_is); (case l2 => k_is); (case c2 => k_is); (case k2 => k_is); (case a3 => k_is); (case l3 => k_is); (case c3 => k_is); (case k3 => k_is); (case a4 => k_is); (case l4 => k_is); (case c4 => k_is); (case k4 => k_is); (case a5 => k_is); (case l5 => k_is); (case c5 => k_is); (case k5 => k_is); (case a6 => k_is); (case l6 => k_is); (case c6 => k_is); (case k6 => k_is); (case a7 => k_is); (case l7 => k_is); (case c7 => k_is); (case k7 => k_is); (case a8 => k_is); (case l8 => k_is); (case c8 => k_is); (case k8 => k_is); (case a9 => k_is); (case l9 => k_is); (case c9 => k_is); (case k9 => k_is); (case a10 => k_is); (case l10 => k_is); (case c10 => k_is); (case k10 => k_is); (case a11 => k_is); (case l11 => k_is); (case c11 => k_is); (case k11 => k_is); (case a12 => k_is); (case l12 => k_is); (case c12 => k_is); (case k12 => k_is); (case a13 => k_is); (case l13 => k_is); (case c13 => k_is); (case k13 => k_is); (case a14 => k_is); (case l14 => k_is); (case c14 => k_is); (case k14 => k_is); (case a15 => k_is); (case l15 => k_is); (case c15 => k_is); (case k15 => k_is); (case a16 => k_is); (case l16 => k_is); (case c16 => k_is); (case k16 => k_is); (case a17 => k_is); (case l17 => k_is); (case c17 => k_is); (case k17 => k_is); (case a18 => k_is); (case l18 => k_is); (case c18 => k_is); (case k18 => k_is); (case a19 => k_is); (case l19 => k_is); (case c19 => k_is); (case k19 => k_is); (case a20 => k_is); (case l20 => k_is); (case c20 => k_is); (case k20 => k_is); (case a21 => k_is); (case l21 => k_is); (case c21 => k_is); (case k21 => k_is); (case a22 => k_is); (case l22 => k_is); (case c22 => k_is); (case k22 => k_is); (case a23 => k_is); (case l23 => k_is); (case c23 => k_is); (case k23 => k_is); (case a24 => k_is); (case l24 => k_is); (case c24 => k_is); (case k24 => k_is); (case z0 => k_is); (case z1 => k_is); (case z2 => k_is); (case z3 => k_is); (case z4 => k_is); (case z5 => k_is); (case z6 => k_is); (case z7 => k_is); (case z8 => k_is)
