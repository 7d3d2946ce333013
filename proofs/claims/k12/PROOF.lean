import PyProof.Rows.All
import Wide.All
import OpenK.AllK
import Wide.FinOn
import HandS.ForMost
import HandS.ForExc
import HandS.IsInst
import HandS.CallSlots
import HandS.TupAny
import HandS.Deep
import HandS.Wide
import HandS.WideBits
import HandS.Text
import HandS.Conv
import HandS.Zip
import HandS.TupMul
import HandS.SortInts
import HandS.RevRange
import HandS.Defaults
import KE.GoesEnum
import KE.GoesMore
import HandS.More
import HandS.Dict
import HandS.Small
import HandS.Style
import HandS.SortKw
import HandS.Star
import HandS.EndBits
import PySem.Challenge.RW_tumbler_k12_whole_one_certificate_each
set_option Elab.async false
set_option linter.all false
set_option maxRecDepth 100000
set_option maxHeartbeats 1000000
/-! A layer over HandS: plain data D, an abstract heap of lists and dicts by number, and for each construct a plain Lean function. -/
namespace Rf
open PySem PySem.Spec PyProof.Rows L2

/-- a value as plain data; `ref i`: the i-th thing of the abstract heap; `rol`: a list that is only read -/
inductive D where
  | non | bl (b : Bool) | int (i : Int) | str (x : Str) | ty (n : String) | tup (ds : List D) | rol (ds : List D) | ref (i : Nat)

inductive AO where
  | lst (ds : List D)
  | dK (kvs : List (Key × D))
  | dT (kvs : List (List Key × D))
abbrev AH := List AO
abbrev AE := List (Option D)

/-- what an expression ends in -/
inductive ER where
  | ok (d : D) (h : AH)
  | exc (c : Str) (fs : List (Str × D)) (h : AH)
  | stuck
/-- what a statement ends in -/
inductive SR where
  | nx (e : AE) (h : AH)
  | rt (d : D) (h : AH)
  | bk (e : AE) (h : AH)
  | ct (e : AE) (h : AH)
  | exc (c : Str) (fs : List (Str × D)) (e : AE) (h : AH)
  | stuck
/-- what a list of expressions ends in -/
inductive LR where
  | ok (ds : List D) (h : AH)
  | exc (c : Str) (fs : List (Str × D)) (h : AH)
  | stuck

/-- a list that nobody writes -/
def RoL (K : PySem.W.Frag) (H : Hp) (a : Addr) (vs : List V) : Prop :=
  (∃ o, H a = some (.frz o (.lst vs))) ∨ ∃ (o : Obj) (its : Array Value) (n : Nat), K.lookup a = some o ∧ o.cls = .type "list" ∧ o.dict = none ∧ o.data = .seq its n ∧ its.size ≤ sizeLine ∧ Vals vs its.toList
theorem RoL.sq {K : PySem.W.Frag} {H : Hp} {a : Addr} {vs : List V} (h : RoL K H a vs) : SqL K H a vs := by
  rcases h with ⟨o, e⟩ | h
  · exact .inl (.inr ⟨o, e⟩)
  · exact .inr h

mutual
def RD (K : PySem.W.Frag) (ι : Nat → Addr) (n : Nat) (H : Hp) : D → V → Prop
  | .non, v => v = .non
  | .bl b, v => v = .bl b
  | .int i, v => v = .int i
  | .str x, v => v = .str x
  | .ty s, v => v = .ty s
  | .tup ds, v => ∃ a vs, v = .ref a ∧ SqT K H a vs ∧ RDs K ι n H ds vs
  | .rol ds, v => ∃ a vs, v = .ref a ∧ RoL K H a vs ∧ RDs K ι n H ds vs
  | .ref i, v => i < n ∧ v = .ref (ι i)
def RDs (K : PySem.W.Frag) (ι : Nat → Addr) (n : Nat) (H : Hp) : List D → List V → Prop
  | [], vs => vs = []
  | d :: ds, vs => ∃ v r, vs = v :: r ∧ RD K ι n H d v ∧ RDs K ι n H ds r
end
def RO (K : PySem.W.Frag) (ι : Nat → Addr) (n : Nat) (H : Hp) : AO → Addr → Prop
  | .lst ds, a => ∃ vs, H a = some (.lst vs) ∧ RDs K ι n H ds vs
  | .dK kvs, a => ∃ ws, H a = some (.dK ws) ∧ kvs.map (·.1) = ws.map (·.1) ∧ RDs K ι n H (kvs.map (·.2)) (ws.map (·.2))
  | .dT kvs, a => ∃ ws, H a = some (.dT ws) ∧ kvs.map (·.1) = ws.map (·.1) ∧ RDs K ι n H (kvs.map (·.2)) (ws.map (·.2))

structure Rel (K : PySem.W.Frag) (ι : Nat → Addr) (h : AH) (H : Hp) : Prop where
  inj : ∀ i j, i < h.length → j < h.length → ι i = ι j → i = j
  ob : ∀ i o, h[i]? = some o → RO K ι h.length H o (ι i)
structure Ext (ι : Nat → Addr) (n : Nat) (H : Hp) (ι' : Nat → Addr) (n' : Nat) (H' : Hp) : Prop where
  le : n ≤ n'
  ag : ∀ i, i < n → ι' i = ι i
  nw : ∀ i, n ≤ i → i < n' → H (ι' i) = none
  fr : ∀ b o, H b = some o → (∀ i, i < n → ι i ≠ b) → H' b = some o
  st : ∀ b, H' b = none → H b = none
section
variable {K : PySem.W.Frag} {ι ι' ι2 : Nat → Addr} {n n' n2 : Nat} {H H' H2 : Hp} {h h' : AH} {d : D} {ds es : List D} {v : V} {vs ws : List V} {a : Addr} {i : Nat} {o : AO}
theorem Ext.refl : Ext ι n H ι n H := ⟨Nat.le_refl _, fun _ _ => rfl, fun i h1 h2 => absurd h2 (Nat.not_lt.mpr h1), fun _ _ e _ => e, fun _ e => e⟩
theorem Ext.trans (x : Ext ι n H ι' n' H') (y : Ext ι' n' H' ι2 n2 H2) : Ext ι n H ι2 n2 H2 := by
  refine ⟨Nat.le_trans x.le y.le, fun i hi => (y.ag i (Nat.lt_of_lt_of_le hi x.le)).trans (x.ag i hi), fun i h1 h2 => ?_, fun b o e hb => ?_, fun b e => x.st b (y.st b e)⟩
  · by_cases hi : i < n'
    · rw [y.ag i hi]; exact x.nw i h1 hi
    · exact x.st _ (y.nw i (Nat.not_lt.mp hi) h2)
  · refine y.fr b o (x.fr b o e hb) fun i hi e' => ?_
    by_cases h1 : i < n
    · exact hb i h1 (by rw [← x.ag i h1]; exact e')
    · have q := x.nw i (Nat.not_lt.mp h1) hi
      rw [e', e] at q; cases q

/-! ### the relation of data -/
theorem RD.int {j : Int} : RD K ι n H (.int j) v ↔ v = .int j := by unfold RD; exact Iff.rfl
theorem RD.bl {j : Bool} : RD K ι n H (.bl j) v ↔ v = .bl j := by unfold RD; exact Iff.rfl
theorem RD.str {j : Str} : RD K ι n H (.str j) v ↔ v = .str j := by unfold RD; exact Iff.rfl
theorem RD.non : RD K ι n H .non v ↔ v = .non := by unfold RD; exact Iff.rfl
theorem RD.ty {j : String} : RD K ι n H (.ty j) v ↔ v = .ty j := by unfold RD; exact Iff.rfl
theorem RD.ref : RD K ι n H (.ref i) v ↔ i < n ∧ v = .ref (ι i) := by unfold RD; exact Iff.rfl
theorem RD.tup : RD K ι n H (.tup ds) v ↔ ∃ a vs, v = .ref a ∧ SqT K H a vs ∧ RDs K ι n H ds vs := by
  constructor
  · intro h; unfold RD at h; exact h
  · intro h; unfold RD; exact h
theorem RD.rol : RD K ι n H (.rol ds) v ↔ ∃ a vs, v = .ref a ∧ RoL K H a vs ∧ RDs K ι n H ds vs := by
  constructor
  · intro h; unfold RD at h; exact h
  · intro h; unfold RD; exact h
theorem RDs.nil : RDs K ι n H [] vs ↔ vs = [] := by unfold RDs; exact Iff.rfl
theorem RDs.cons : RDs K ι n H (d :: ds) vs ↔ ∃ v r, vs = v :: r ∧ RD K ι n H d v ∧ RDs K ι n H ds r := by
  constructor
  · intro h; unfold RDs at h; exact h
  · intro h; unfold RDs; exact h
theorem RDs.cons' (h1 : RD K ι n H d v) (h2 : RDs K ι n H ds vs) : RDs K ι n H (d :: ds) (v :: vs) := RDs.cons.mpr ⟨v, vs, rfl, h1, h2⟩
theorem RDs.nil' : RDs K ι n H [] [] := RDs.nil.mpr rfl
theorem RDs.length : ∀ {ds : List D} {vs : List V}, RDs K ι n H ds vs → ds.length = vs.length
  | [], vs, h => by rw [RDs.nil.mp h]; rfl
  | d :: ds, vs, h => by
    obtain ⟨v, r, rfl, _, h2⟩ := RDs.cons.mp h
    simp [RDs.length h2]
theorem RDs.get : ∀ {ds : List D} {vs : List V} {i : Nat} {d : D}, RDs K ι n H ds vs → ds[i]? = some d → ∃ v, vs[i]? = some v ∧ RD K ι n H d v
  | [], vs, i, d, h, e => by simp at e
  | d' :: ds, vs, 0, d, h, e => by
    obtain ⟨v, r, rfl, h1, h2⟩ := RDs.cons.mp h
    simp at e; subst e
    exact ⟨v, rfl, h1⟩
  | d' :: ds, vs, i + 1, d, h, e => by
    obtain ⟨v, r, rfl, h1, h2⟩ := RDs.cons.mp h
    simpa using RDs.get h2 (by simpa using e)
theorem RDs.append : ∀ {ds es : List D} {vs ws : List V}, RDs K ι n H ds vs → RDs K ι n H es ws → RDs K ι n H (ds ++ es) (vs ++ ws)
  | [], es, vs, ws, h, h' => by rw [RDs.nil.mp h]; exact h'
  | d :: ds, es, vs, ws, h, h' => by
    obtain ⟨v, r, rfl, h1, h2⟩ := RDs.cons.mp h
    exact RDs.cons' h1 (RDs.append h2 h')
theorem RDs.take : ∀ {ds : List D} {vs : List V} (k : Nat), RDs K ι n H ds vs → RDs K ι n H (ds.take k) (vs.take k)
  | _, _, 0, h => by simp only [List.take_zero]; exact RDs.nil'
  | [], vs, k + 1, h => by rw [RDs.nil.mp h]; exact RDs.nil'
  | d :: ds, vs, k + 1, h => by
    obtain ⟨v, r, rfl, h1, h2⟩ := RDs.cons.mp h
    exact RDs.cons' h1 (RDs.take k h2)
theorem RDs.drop : ∀ {ds : List D} {vs : List V} (k : Nat), RDs K ι n H ds vs → RDs K ι n H (ds.drop k) (vs.drop k)
  | _, _, 0, h => by simpa using h
  | [], vs, k + 1, h => by rw [RDs.nil.mp h]; exact RDs.nil'
  | d :: ds, vs, k + 1, h => by
    obtain ⟨v, r, rfl, h1, h2⟩ := RDs.cons.mp h
    simpa using RDs.drop k h2
theorem RDs.set : ∀ {ds : List D} {vs : List V} (k : Nat), RDs K ι n H ds vs → RD K ι n H d v → RDs K ι n H (ds.set k d) (vs.set k v)
  | [], vs, k, h, _ => by rw [RDs.nil.mp h]; exact RDs.nil'
  | d' :: ds, vs, 0, h, r => by
    obtain ⟨v', r', rfl, h1, h2⟩ := RDs.cons.mp h
    exact RDs.cons' r h2
  | d' :: ds, vs, k + 1, h, r => by
    obtain ⟨v', r', rfl, h1, h2⟩ := RDs.cons.mp h
    exact RDs.cons' h1 (RDs.set k h2 r)
theorem RDs.eraseIdx : ∀ {ds : List D} {vs : List V} (k : Nat), RDs K ι n H ds vs → RDs K ι n H (ds.eraseIdx k) (vs.eraseIdx k)
  | [], vs, k, h => by rw [RDs.nil.mp h]; exact RDs.nil'
  | d' :: ds, vs, 0, h => by
    obtain ⟨v', r', rfl, h1, h2⟩ := RDs.cons.mp h
    exact h2
  | d' :: ds, vs, k + 1, h => by
    obtain ⟨v', r', rfl, h1, h2⟩ := RDs.cons.mp h
    exact RDs.cons' h1 (RDs.eraseIdx k h2)
theorem RDs.reverse : ∀ {ds : List D} {vs : List V}, RDs K ι n H ds vs → RDs K ι n H ds.reverse vs.reverse
  | [], vs, h => by rw [RDs.nil.mp h]; exact RDs.nil'
  | d' :: ds, vs, h => by
    obtain ⟨v', r', rfl, h1, h2⟩ := RDs.cons.mp h
    simp only [List.reverse_cons]
    exact RDs.append (RDs.reverse h2) (RDs.cons' h1 RDs.nil')
theorem RDs.dropLast {ds : List D} {vs : List V} (h : RDs K ι n H ds vs) : RDs K ι n H ds.dropLast vs.dropLast := by
  rw [List.dropLast_eq_take, List.dropLast_eq_take, h.length]
  exact h.take _
theorem RDs.rep {ds : List D} {vs : List V} (h : RDs K ι n H ds vs) : ∀ k : Nat, RDs K ι n H (List.replicate k ds).flatten (List.replicate k vs).flatten
  | 0 => RDs.nil'
  | k + 1 => by
    rw [List.replicate_succ, List.replicate_succ, List.flatten_cons, List.flatten_cons]
    exact RDs.append h (RDs.rep h k)

/-- what is tracked within the heap of lists is no tuple and not locked -/
theorem Rel.mut (R : Rel K ι h H) (hi : i < h.length) : Mut (H (ι i)) := by
  have e : h[i]? = some h[i] := List.getElem?_eq_getElem hi
  have q := R.ob i _ e
  cases r : h[i] with
  | lst ds => rw [r] at q; obtain ⟨vs, e, _⟩ := q; rw [e]; trivial
  | dK ds => rw [r] at q; obtain ⟨vs, e, _⟩ := q; rw [e]; trivial
  | dT ds => rw [r] at q; obtain ⟨vs, e, _⟩ := q; rw [e]; trivial
theorem Rel.fix (R : Rel K ι h H) (x : Ext ι h.length H ι' n' H') {o : HO} (e : H a = some o) (m : ¬ Mut (some o)) : H' a = some o :=
  x.fr a o e fun i hi z => by
    have q := R.mut hi
    rw [z, e] at q
    exact m q
theorem Rel.sqT (R : Rel K ι h H) (x : Ext ι h.length H ι' n' H') (q : SqT K H a vs) : SqT K H' a vs := by
  rcases q with (q | ⟨o, q⟩) | q
  · exact .inl (.inl (R.fix x q fun z => z))
  · exact .inl (.inr ⟨o, R.fix x q fun z => z⟩)
  · exact .inr q
theorem Rel.roL (R : Rel K ι h H) (x : Ext ι h.length H ι' n' H') (q : RoL K H a vs) : RoL K H' a vs := by
  rcases q with ⟨o, q⟩ | q
  · exact .inl ⟨o, R.fix x q fun z => z⟩
  · exact .inr q
/-- data keeps its meaning where tuples are kept -/
structure Grow (K : PySem.W.Frag) (ι : Nat → Addr) (n : Nat) (H : Hp) (ι' : Nat → Addr) (n' : Nat) (H' : Hp) : Prop where
  le : n ≤ n'
  ag : ∀ i, i < n → ι' i = ι i
  tp : ∀ a vs, SqT K H a vs → SqT K H' a vs
  ro : ∀ a vs, RoL K H a vs → RoL K H' a vs
theorem Ext.grow (x : Ext ι h.length H ι' n' H') (R : Rel K ι h H) : Grow K ι h.length H ι' n' H' := ⟨x.le, x.ag, fun _ _ q => R.sqT x q, fun _ _ q => R.roL x q⟩
mutual
theorem RD.mono (g : Grow K ι n H ι' n' H') : ∀ {d : D} {v : V}, RD K ι n H d v → RD K ι' n' H' d v
  | .non, v, h => by unfold RD at h ⊢; exact h
  | .bl _, v, h => by unfold RD at h ⊢; exact h
  | .int _, v, h => by unfold RD at h ⊢; exact h
  | .str _, v, h => by unfold RD at h ⊢; exact h
  | .ty _, v, h => by unfold RD at h ⊢; exact h
  | .tup ds, v, h => by
    unfold RD at h ⊢
    obtain ⟨a, vs, e, q, r⟩ := h
    exact ⟨a, vs, e, g.tp a vs q, RDs.mono g r⟩
  | .rol ds, v, h => by
    unfold RD at h ⊢
    obtain ⟨a, vs, e, q, r⟩ := h
    exact ⟨a, vs, e, g.ro a vs q, RDs.mono g r⟩
  | .ref i, v, h => by
    unfold RD at h ⊢
    exact ⟨Nat.lt_of_lt_of_le h.1 g.le, by rw [g.ag i h.1]; exact h.2⟩
theorem RDs.mono (g : Grow K ι n H ι' n' H') : ∀ {ds : List D} {vs : List V}, RDs K ι n H ds vs → RDs K ι' n' H' ds vs
  | [], vs, h => by unfold RDs at h ⊢; exact h
  | d :: ds, vs, h => by
    unfold RDs at h ⊢
    obtain ⟨v, r, e, h1, h2⟩ := h
    exact ⟨v, r, e, RD.mono g h1, RDs.mono g h2⟩
end
theorem RO.mono {H0 : Hp} (g : Grow K ι n H ι' n' H') (e : H' a = H a) : RO K ι n H o a → RO K ι' n' H' o a := by
  cases o with
  | lst ds => rintro ⟨vs, q, r⟩; exact ⟨vs, e.trans q, r.mono g⟩
  | dK kvs => rintro ⟨vs, q, k, r⟩; exact ⟨vs, e.trans q, k, r.mono g⟩
  | dT kvs => rintro ⟨vs, q, k, r⟩; exact ⟨vs, e.trans q, k, r.mono g⟩

/-! ### the slots -/
structure RE (K : PySem.W.Frag) (ι : Nat → Addr) (n : Nat) (H : Hp) (env : AE) (σ : List (Option V)) : Prop where
  len : env.length = σ.length
  at_ : ∀ (i : Nat) (d : D), env[i]? = some (some d) → ∃ v : V, σ[i]? = some (some v) ∧ RD K ι n H d v
theorem RE.mono {env : AE} {σ : List (Option V)} (g : Grow K ι n H ι' n' H') (h : RE K ι n H env σ) : RE K ι' n' H' env σ :=
  ⟨h.len, fun i d e => let ⟨v, e1, r⟩ := h.at_ i d e; ⟨v, e1, r.mono g⟩⟩
theorem RE.set {env : AE} {σ : List (Option V)} (h : RE K ι n H env σ) (i : Nat) (r : RD K ι n H d v) : RE K ι n H (env.set i (some d)) (σ.set i (some v)) := by
  refine ⟨by simp [h.len], fun j d' e => ?_⟩
  by_cases hj : i = j
  · subst hj
    by_cases hl : i < env.length
    · rw [List.getElem?_set_self hl] at e
      have e' : d = d' := by simpa using e
      subst e'
      exact ⟨v, List.getElem?_set_self (by rw [← h.len]; exact hl), r⟩
    · rw [List.getElem?_eq_none (by simpa using hl)] at e; cases e
  · rw [List.getElem?_set_ne hj] at e ⊢
    exact h.at_ j d' e
theorem RE.forget {env : AE} {σ : List (Option V)} (h : RE K ι n H env σ) (i : Nat) (x : Option V) : RE K ι n H (env.set i none) (σ.set i x) := by
  refine ⟨by simp [h.len], fun j d' e => ?_⟩
  by_cases hj : i = j
  · subst hj
    by_cases hl : i < env.length
    · rw [List.getElem?_set_self hl] at e; cases e
    · rw [List.getElem?_eq_none (by simpa using hl)] at e; cases e
  · rw [List.getElem?_set_ne hj] at e ⊢
    exact h.at_ j d' e
end
end Rf

set_option maxHeartbeats 1000000
namespace Rf
open PySem PySem.Spec PyProof.Rows L2

/-- the own dict of an exception -/
def XD (K : PySem.W.Frag) (ι : Nat → Addr) (n : Nat) (H : Hp) (d : Option Addr) (fs : List (Str × D)) : Prop := match d with
  | some dd => ∃ ws : List (Str × V), H dd = some (.xd ws) ∧ fs.map (·.1) = ws.map (·.1) ∧ RDs K ι n H (fs.map (·.2)) (ws.map (·.2))
  | none => fs = []
/-- the exception that a suite handles: its slot, its address, class, dict, fields -/
structure ExI where
  i : Nat
  a : Addr
  C : Addr
  c : Str
  d : Option Addr
  fs : List (Str × D)
structure Ct where
  X : Cx
  W : WX
  ea : Option ExI
def EA (K : PySem.W.Frag) (ι : Nat → Addr) (n : Nat) (H : Hp) (ea : Option ExI) (env : AE) (σ : List (Option V)) : Prop := match ea with
  | none => True
  | some x => σ[x.i]? = some (some (.ref x.a)) ∧ (∀ d, env[x.i]? ≠ some (some d)) ∧ XD K ι n H x.d x.fs
structure RVK (K : PySem.W.Frag) (ea : Option ExI) (ι : Nat → Addr) (n : Nat) (H : Hp) (env : AE) (σ : List (Option V)) : Prop where
  re : RE K ι n H env σ
  ea : EA K ι n H ea env σ
abbrev RV (C : Ct) (ι : Nat → Addr) (n : Nat) (H : Hp) (env : AE) (σ : List (Option V)) : Prop := RVK C.X.K C.ea ι n H env σ
section
variable {K : PySem.W.Frag} {C : Ct} {ι ι' ι1 : Nat → Addr} {n n' n1 : Nat} {H H' H1 : Hp} {h h' h1 : AH} {env : AE} {σ : List (Option V)} {d : D} {ds : List D} {v : V} {vs : List V} {a : Addr} {i : Nat}
theorem Rel.xd (R : Rel K ι h H) (x : Ext ι h.length H ι' n' H') {d : Option Addr} {fs : List (Str × D)} (q : XD K ι h.length H d fs) : XD K ι' n' H' d fs := by
  cases d with
  | none => exact q
  | some dd =>
    obtain ⟨ws, e, k, r⟩ := q
    exact ⟨ws, R.fix x e fun z => z, k, r.mono (x.grow R)⟩
theorem RV.ext (R : Rel C.X.K ι h H) (x : Ext ι h.length H ι' n' H') (e : RV C ι h.length H env σ) : RV C ι' n' H' env σ := by
  refine ⟨e.re.mono (x.grow R), ?_⟩
  have q := e.ea
  unfold EA at q ⊢
  cases r : C.ea with
  | none => trivial
  | some y =>
    rw [r] at q
    exact ⟨q.1, q.2.1, R.xd x q.2.2⟩
theorem RV.set (e : RV C ι n H env σ) (i : Nat) (r : RD C.X.K ι n H d v) (hi : ∀ x, C.ea = some x → x.i ≠ i) : RV C ι n H (env.set i (some d)) (σ.set i (some v)) := by
  refine ⟨e.re.set i r, ?_⟩
  have q := e.ea
  unfold EA at q ⊢
  cases z : C.ea with
  | none => trivial
  | some y =>
    rw [z] at q
    have hne := hi y z
    refine ⟨by rw [List.getElem?_set_ne (Ne.symm hne)]; exact q.1, fun d' e' => q.2.1 d' ?_, q.2.2⟩
    rw [List.getElem?_set_ne (Ne.symm hne)] at e'
    exact e'

/-! ### what must hold behind -/
def PostE (C : Ct) (ι : Nat → Addr) (n : Nat) (H : Hp) (σ : List (Option V)) (o : ER) (Q : VK) : Prop := match o with
  | .ok d h' => ∀ ι' H' v, Ext ι n H ι' h'.length H' → Rel C.X.K ι' h' H' → RD C.X.K ι' h'.length H' d v → Q v H'
  | .exc c fs h' => ∀ ι' H' Cl dd, Ext ι n H ι' h'.length H' → Rel C.X.K ι' h' H' → C.X.mg c = some (.ref Cl) → XD C.X.K ι' h'.length H' dd fs → C.W (.ref Cl) dd σ H'
  | .stuck => False
def PostL (C : Ct) (ι : Nat → Addr) (n : Nat) (H : Hp) (σ : List (Option V)) (o : LR) (Q : List V → Hp → Prop) : Prop := match o with
  | .ok ds h' => ∀ ι' H' vs, Ext ι n H ι' h'.length H' → Rel C.X.K ι' h' H' → RDs C.X.K ι' h'.length H' ds vs → Q vs H'
  | .exc c fs h' => ∀ ι' H' Cl dd, Ext ι n H ι' h'.length H' → Rel C.X.K ι' h' H' → C.X.mg c = some (.ref Cl) → XD C.X.K ι' h'.length H' dd fs → C.W (.ref Cl) dd σ H'
  | .stuck => False
def PostT (C : Ct) (ι : Nat → Addr) (n : Nat) (H : Hp) (σ : List (Option V)) (o : ER) (Q : Bool → Hp → Prop) : Prop := match o with
  | .ok d h' => ∃ b, d = .bl b ∧ ∀ ι' H', Ext ι n H ι' h'.length H' → Rel C.X.K ι' h' H' → Q b H'
  | .exc c fs h' => ∀ ι' H' Cl dd, Ext ι n H ι' h'.length H' → Rel C.X.K ι' h' H' → C.X.mg c = some (.ref Cl) → XD C.X.K ι' h'.length H' dd fs → C.W (.ref Cl) dd σ H'
  | .stuck => False
def PostS (C : Ct) (ι : Nat → Addr) (n : Nat) (H : Hp) (o : SR) (D : Ends) : Prop := match o with
  | .nx env' h' => ∀ ι' H' σ', Ext ι n H ι' h'.length H' → Rel C.X.K ι' h' H' → RV C ι' h'.length H' env' σ' → D.nx σ' H'
  | .rt d h' => ∀ ι' H' v, Ext ι n H ι' h'.length H' → Rel C.X.K ι' h' H' → RD C.X.K ι' h'.length H' d v → D.rt v H'
  | .bk env' h' => ∀ ι' H' σ', Ext ι n H ι' h'.length H' → Rel C.X.K ι' h' H' → RV C ι' h'.length H' env' σ' → D.bk σ' H'
  | .ct env' h' => ∀ ι' H' σ', Ext ι n H ι' h'.length H' → Rel C.X.K ι' h' H' → RV C ι' h'.length H' env' σ' → D.ct σ' H'
  | .exc c fs env' h' => ∀ ι' H' σ' Cl dd, Ext ι n H ι' h'.length H' → Rel C.X.K ι' h' H' → RV C ι' h'.length H' env' σ' → C.X.mg c = some (.ref Cl) → XD C.X.K ι' h'.length H' dd fs → C.W (.ref Cl) dd σ' H'
  | .stuck => False
theorem PostE.shift {o : ER} {Q : VK} (p : PostE C ι n H σ o Q) (x : Ext ι n H ι1 n1 H1) : PostE C ι1 n1 H1 σ o Q := by
  cases o with
  | ok d h' => exact fun ι' H' v y => p ι' H' v (x.trans y)
  | exc c fs h' => exact fun ι' H' Cl dd y => p ι' H' Cl dd (x.trans y)
  | stuck => exact p
theorem PostL.shift {o : LR} {Q : List V → Hp → Prop} (p : PostL C ι n H σ o Q) (x : Ext ι n H ι1 n1 H1) : PostL C ι1 n1 H1 σ o Q := by
  cases o with
  | ok d h' => exact fun ι' H' v y => p ι' H' v (x.trans y)
  | exc c fs h' => exact fun ι' H' Cl dd y => p ι' H' Cl dd (x.trans y)
  | stuck => exact p
theorem PostT.shift {o : ER} {Q : Bool → Hp → Prop} (p : PostT C ι n H σ o Q) (x : Ext ι n H ι1 n1 H1) : PostT C ι1 n1 H1 σ o Q := by
  cases o with
  | ok d h' =>
    obtain ⟨b, e, p⟩ := p
    exact ⟨b, e, fun ι' H' y => p ι' H' (x.trans y)⟩
  | exc c fs h' => exact fun ι' H' Cl dd y => p ι' H' Cl dd (x.trans y)
  | stuck => exact p
theorem PostS.shift {o : SR} {D : Ends} (p : PostS C ι n H o D) (x : Ext ι n H ι1 n1 H1) : PostS C ι1 n1 H1 o D := by
  cases o with
  | nx e h' => exact fun ι' H' s y => p ι' H' s (x.trans y)
  | rt e h' => exact fun ι' H' s y => p ι' H' s (x.trans y)
  | bk e h' => exact fun ι' H' s y => p ι' H' s (x.trans y)
  | ct e h' => exact fun ι' H' s y => p ι' H' s (x.trans y)
  | exc c fs e h' => exact fun ι' H' s Cl dd y => p ι' H' s Cl dd (x.trans y)
  | stuck => exact p
end

/-! ### the judgements: the def's piece e is done by the plain function m -/
abbrev EM := AE → AH → ER
abbrev LM := AE → AH → LR
abbrev SM := AE → AH → SR
structure SimE (C : Ct) (t : TE) (m : EM) : Prop where
  run : ∀ (env : AE) (h : AH) (σ : List (Option V)) (H : Hp) (ι : Nat → Addr) (Q : VK), Rel C.X.K ι h H → RV C ι h.length H env σ → PostE C ι h.length H σ (m env h) Q → t σ H Q
structure SimT (C : Ct) (t : TT) (m : EM) : Prop where
  run : ∀ (env : AE) (h : AH) (σ : List (Option V)) (H : Hp) (ι : Nat → Addr) (Q : Bool → Hp → Prop), Rel C.X.K ι h H → RV C ι h.length H env σ → PostT C ι h.length H σ (m env h) Q → t σ H Q
structure SimL (C : Ct) (t : TA) (m : LM) : Prop where
  run : ∀ (env : AE) (h : AH) (σ : List (Option V)) (H : Hp) (ι : Nat → Addr) (Q : List V → Hp → Prop), Rel C.X.K ι h H → RV C ι h.length H env σ → PostL C ι h.length H σ (m env h) Q → t σ H Q
structure SimS (C : Ct) (t : TS) (m : SM) : Prop where
  run : ∀ (env : AE) (h : AH) (σ : List (Option V)) (H : Hp) (ι : Nat → Addr) (D : Ends), Rel C.X.K ι h H → RV C ι h.length H env σ → PostS C ι h.length H (m env h) D → t D σ H
def ME (C : Ct) (e : Expr) (m : EM) : Prop := ∃ t, PE C.X e t ∧ SimE C t m
def MT (C : Ct) (e : Expr) (m : EM) : Prop := ∃ t, PT C.X e t ∧ SimT C t m
def MW (C : Ct) (e : Expr) (m : EM) : Prop := ∃ t, PW C.X e t ∧ SimT C t m
def MA (C : Ct) (es : List Expr) (m : LM) : Prop := ∃ t, PA C.X es t ∧ SimL C t m
def MS (C : Ct) (s : Stmt) (m : SM) : Prop := ∃ t, PS C.X s t ∧ SimS C t m
def MB (C : Ct) (s : List Stmt) (m : SM) : Prop := ∃ t, PSs C.X s t ∧ SimS C t m

/-! ### the plain functions of the constructs -/
def ER.then (o : ER) (f : D → AH → ER) : ER := match o with
  | .ok d h => f d h
  | .exc c fs h => .exc c fs h
  | .stuck => .stuck
def LR.then (o : LR) (f : List D → AH → ER) : ER := match o with
  | .ok d h => f d h
  | .exc c fs h => .exc c fs h
  | .stuck => .stuck
def eVar (i : Nat) : EM := fun env h => match env[i]? with
  | some (some d) => .ok d h
  | _ => .stuck
def eC (d : D) : EM := fun _ h => .ok d h
def eOp (g : D → D → AH → ER) (a b : EM) : EM := fun env h => (a env h).then fun d1 h1 => (b env h1).then fun d2 h2 => g d1 d2 h2
def eUn (g : D → AH → ER) (a : EM) : EM := fun env h => (a env h).then fun d1 h1 => g d1 h1
def eIf (c a b : EM) : EM := fun env h => (c env h).then fun d h1 => match d with
  | .bl true => a env h1
  | .bl false => b env h1
  | _ => .stuck
/-- and, or of bools -/
def eAnd (a b : EM) : EM := fun env h => (a env h).then fun d h1 => match d with
  | .bl true => b env h1
  | .bl false => .ok (.bl false) h1
  | _ => .stuck
def eOr (a b : EM) : EM := fun env h => (a env h).then fun d h1 => match d with
  | .bl true => .ok (.bl true) h1
  | .bl false => b env h1
  | _ => .stuck
def eNot (a : EM) : EM := fun env h => (a env h).then fun d h1 => match d with
  | .bl b => .ok (.bl (!b)) h1
  | _ => .stuck
def lNil : LM := fun _ h => .ok [] h
def lCons (a : EM) (r : LM) : LM := fun env h => match a env h with
  | .ok d h1 => (match r env h1 with
    | .ok ds h2 => .ok (d :: ds) h2
    | .exc c fs h2 => .exc c fs h2
    | .stuck => .stuck)
  | .exc c fs h1 => .exc c fs h1
  | .stuck => .stuck
def eCall (g : List D → AH → ER) (a : LM) : EM := fun env h => (a env h).then g

section
variable {C : Ct} {e a b c : Expr} {m ma mb mc : EM} {pos : Pos}
/-- the first of two -/
theorem SimE.then {t : TE} {ma : EM} (sa : SimE C t ma) {env : AE} {h : AH} {σ : List (Option V)} {H : Hp} {ι : Nat → Addr} {f : D → AH → ER} {Q Q' : VK} (R : Rel C.X.K ι h H) (V : RV C ι h.length H env σ)
    (p : PostE C ι h.length H σ ((ma env h).then f) Q)
    (k : ∀ d h' ι' H' v, Ext ι h.length H ι' h'.length H' → Rel C.X.K ι' h' H' → RV C ι' h'.length H' env σ → RD C.X.K ι' h'.length H' d v → PostE C ι' h'.length H' σ (f d h') Q → Q' v H') : t σ H Q' := by
  refine sa.run env h σ H ι Q' R V ?_
  cases hm : ma env h with
  | ok d h1 =>
    rw [hm] at p
    exact fun ι' H' v x R' r => k d h1 ι' H' v x R' (V.ext R x) r (PostE.shift p x)
  | exc c fs h1 => rw [hm] at p; exact p
  | stuck => rw [hm] at p; exact p
theorem SimT.then {t : TT} {ma : EM} (sa : SimT C t ma) {env : AE} {h : AH} {σ : List (Option V)} {H : Hp} {ι : Nat → Addr} {f : Bool → AH → ER} {Q : VK} {Q' : Bool → Hp → Prop} (R : Rel C.X.K ι h H) (V : RV C ι h.length H env σ)
    (p : PostE C ι h.length H σ ((ma env h).then fun d h1 => match d with | .bl b => f b h1 | _ => .stuck) Q)
    (k : ∀ b h' ι' H', Ext ι h.length H ι' h'.length H' → Rel C.X.K ι' h' H' → RV C ι' h'.length H' env σ → PostE C ι' h'.length H' σ (f b h') Q → Q' b H') : t σ H Q' := by
  refine sa.run env h σ H ι Q' R V ?_
  cases hm : ma env h with
  | ok d h1 =>
    rw [hm] at p
    cases d with
    | bl b => exact ⟨b, rfl, fun ι' H' x R' => k b h1 ι' H' x R' (V.ext R x) (PostE.shift p x)⟩
    | _ => exact (show False from p).elim
  | exc c fs h1 => rw [hm] at p; exact p
  | stuck => rw [hm] at p; exact p

/-! ### names, constants -/
theorem me_var (i : Nat) {x : Str} (hN : C.X.N[i]? = some x := by rfl) (hv : Vis C.X.env.scope x := by first | exact Or.inl rfl | exact Or.inr (Or.inl rfl) | exact Or.inr (Or.inr rfl)) (hd : (x == ("__debug__" : Str)) = false := by decide)
    (hcd : (x == ("__classdict__" : Str)) = false := by decide) : ME C (.Name x pos) (eVar i) := by
  refine ⟨_, pe_var hN hv hd hcd, ⟨fun env h σ H ι Q R V p => ?_⟩⟩
  unfold eVar at p
  split at p
  · rename_i d e
    obtain ⟨v, e2, r⟩ := V.re.at_ i d e
    exact ⟨v, e2, p ι H v .refl R r⟩
  · exact p.elim
theorem me_C {v : V} {d : D} (hp : PE C.X e (tC v)) (hd : ∀ ι n H, RD C.X.K ι n H d v) : ME C e (eC d) :=
  ⟨_, hp, ⟨fun env h σ H ι Q R V p => p ι H v .refl R (hd _ _ _)⟩⟩

/-! ### operators, by values -/
/-- r asks no more of related values than g tells -/
def OpS (C : Ct) (r : R2) (g : D → D → AH → ER) : Prop := ∀ (ι : Nat → Addr) (h : AH) (H : Hp) (σ : List (Option V)) (x y : V) (d1 d2 : D) (Q : VK), Rel C.X.K ι h H → RD C.X.K ι h.length H d1 x → RD C.X.K ι h.length H d2 y → PostE C ι h.length H σ (g d1 d2 h) Q → r x y H Q
def UnS (C : Ct) (r : V → Hp → VK → Prop) (g : D → AH → ER) : Prop := ∀ (ι : Nat → Addr) (h : AH) (H : Hp) (σ : List (Option V)) (x : V) (d : D) (Q : VK), Rel C.X.K ι h H → RD C.X.K ι h.length H d x → PostE C ι h.length H σ (g d h) Q → r x H Q
def CallS (C : Ct) (r : List V → Hp → VK → Prop) (g : List D → AH → ER) : Prop := ∀ (ι : Nat → Addr) (h : AH) (H : Hp) (σ : List (Option V)) (xs : List V) (ds : List D) (Q : VK), Rel C.X.K ι h H → RDs C.X.K ι h.length H ds xs → PostE C ι h.length H σ (g ds h) Q → r xs H Q
def TruS (C : Ct) (g : D → AH → ER) : Prop := ∀ (ι : Nat → Addr) (h : AH) (H : Hp) (σ : List (Option V)) (x : V) (d : D) (Q : Bool → Hp → Prop), Rel C.X.K ι h H → RD C.X.K ι h.length H d x → PostT C ι h.length H σ (g d h) Q → ∃ k, TruV C.X.K x H k ∧ Q k H
theorem SimE.op {ta tb : TE} (sa : SimE C ta ma) (sb : SimE C tb mb) {r : R2} {g : D → D → AH → ER} (hs : OpS C r g) : SimE C (tOp r ta tb) (eOp g ma mb) := by
  refine ⟨fun env h σ H ι Q R V p => ?_⟩
  refine sa.then R V p fun d1 h1 ι1 H1 v1 x1 R1 V1 r1 p1 => ?_
  refine sb.then R1 V1 p1 fun d2 h2 ι2 H2 v2 x2 R2 V2 r2 p2 => ?_
  exact hs ι2 h2 H2 σ v1 v2 d1 d2 Q R2 (r1.mono (x2.grow R1)) r2 p2
theorem me_op {op : Operator} {r : R2} {g : D → D → AH → ER} (ho : OpR C.X (binaryOp op) r) (hs : OpS C r g) (ha : ME C a ma) (hb : ME C b mb) : ME C (.BinOp a op b pos) (eOp g ma mb) := by
  obtain ⟨ta, pa, sa⟩ := ha
  obtain ⟨tb, pb, sb⟩ := hb
  exact ⟨_, pe_op ho pa pb, sa.op sb hs⟩
theorem me_un {op : UnaryOp} {r : V → Hp → VK → Prop} {g : D → AH → ER} (ho : UnR C.X (unaryOp op) r) (hs : UnS C r g) (ha : ME C a ma) : ME C (.UnaryOp op a pos) (eUn g ma) := by
  obtain ⟨ta, pa, sa⟩ := ha
  refine ⟨_, pe_un ho pa, ⟨fun env h σ H ι Q R V p => ?_⟩⟩
  refine sa.then R V p fun d1 h1 ι1 H1 v1 x1 R1 V1 r1 p1 => ?_
  exact hs ι1 h1 H1 σ v1 d1 Q R1 r1 p1
theorem me_cmp {op : CmpOp} {r : R2} {g : D → D → AH → ER} (ho : OpR C.X (compareOp op) r) (hs : OpS C r g) (ha : ME C a ma) (hb : ME C b mb) (hm : behindInMarks op b = false) : ME C (.Compare a [op] [b] pos) (eOp g ma mb) := by
  obtain ⟨ta, pa, sa⟩ := ha
  obtain ⟨tb, pb, sb⟩ := hb
  exact ⟨_, pe_cmpR ho pa pb hm, sa.op sb hs⟩
theorem SimE.test {t : TE} (s : SimE C t m) : SimT C (tTest t) m := by
  refine ⟨fun env h σ H ι Q R V p => ?_⟩
  refine s.run env h σ H ι _ R V ?_
  cases hm : m env h with
  | ok d h1 =>
    rw [hm] at p
    obtain ⟨b, rfl, p⟩ := p
    exact fun ι' H' v x R' r => ⟨b, RD.bl.mp r, p ι' H' x R'⟩
  | exc c fs h1 => rw [hm] at p; exact p
  | stuck => rw [hm] at p; exact p
theorem mt_cmp {op : CmpOp} {r : R2} {g : D → D → AH → ER} (ho : OpR C.X (compareOp op) r) (hs : OpS C r g) (ha : ME C a ma) (hb : ME C b mb) (hm : behindInMarks op b = false) : MT C (.Compare a [op] [b] pos) (eOp g ma mb) := by
  obtain ⟨ta, pa, sa⟩ := ha
  obtain ⟨tb, pb, sb⟩ := hb
  exact ⟨_, pt_cmpR ho pa pb hm, (sa.op sb hs).test⟩
/-- a op b op' c -/
def eChain (g g' : D → D → AH → ER) (a b c : EM) : EM := fun env h => (a env h).then fun d1 h1 => (b env h1).then fun d2 h2 => (g d1 d2 h2).then fun z h3 => match z with
  | .bl true => (c env h3).then fun d3 h4 => g' d2 d3 h4
  | .bl false => .ok (.bl false) h3
  | _ => .stuck
/-- r, then f -/
theorem OpS.then {r : R2} {g : D → D → AH → ER} (hs : OpS C r g) {ι : Nat → Addr} {h : AH} {H : Hp} {σ : List (Option V)} {x y : V} {d1 d2 : D} {f : D → AH → ER} {Q Q' : VK} {env : AE} (R : Rel C.X.K ι h H) (V : RV C ι h.length H env σ) (r1 : RD C.X.K ι h.length H d1 x) (r2 : RD C.X.K ι h.length H d2 y)
    (p : PostE C ι h.length H σ ((g d1 d2 h).then f) Q)
    (k : ∀ d h' ι' H' v, Ext ι h.length H ι' h'.length H' → Rel C.X.K ι' h' H' → RV C ι' h'.length H' env σ → RD C.X.K ι' h'.length H' d v → PostE C ι' h'.length H' σ (f d h') Q → Q' v H') : r x y H Q' := by
  refine hs ι h H σ x y d1 d2 Q' R r1 r2 ?_
  cases hm : g d1 d2 h with
  | ok d h1 =>
    rw [hm] at p
    exact fun ι' H' v x R' r => k d h1 ι' H' v x R' (V.ext R x) r (PostE.shift p x)
  | exc c fs h1 => rw [hm] at p; exact p
  | stuck => rw [hm] at p; exact p
theorem SimE.chain {ta tb tc : TE} (sa : SimE C ta ma) (sb : SimE C tb mb) (sc : SimE C tc mc) {r r' : R2} {g g' : D → D → AH → ER} (hs : OpS C r g) (hs' : OpS C r' g') : SimE C (tChain r r' ta tb tc) (eChain g g' ma mb mc) := by
  refine ⟨fun env h σ H ι Q R V p => ?_⟩
  refine sa.then R V p fun d1 h1 ι1 H1 v1 x1 R1 V1 r1 p1 => ?_
  refine sb.then R1 V1 p1 fun d2 h2 ι2 H2 v2 x2 R2 V2 r2 p2 => ?_
  refine hs.then R2 V2 (r1.mono (x2.grow R1)) r2 p2 fun d3 h3 ι3 H3 v3 x3 R3 V3 r3 p3 => ?_
  cases d3 with
  | bl k =>
    refine ⟨k, RD.bl.mp r3, ?_⟩
    cases k with
    | true =>
      refine iteT ?_
      refine sc.then R3 V3 p3 fun d4 h4 ι4 H4 v4 x4 R4 V4 r4 p4 => ?_
      exact hs' ι4 h4 H4 σ v2 v4 d2 d4 Q R4 (r2.mono ((x3.trans x4).grow R2)) r4 p4
    | false => exact iteF (p3 ι3 H3 _ .refl R3 (RD.bl.mpr rfl))
  | _ => exact (show False from p3).elim
theorem me_chain {op op' : CmpOp} {r r' : R2} {g g' : D → D → AH → ER} (ho : OpR C.X (compareOp op) r) (hs : OpS C r g) (ho' : OpR C.X (compareOp op') r') (hs' : OpS C r' g') (ha : ME C a ma) (hb : ME C b mb) (hc : ME C c mc)
    (hm : lastMarks [op, op'] [b, c] = false := by with_unfolding_all rfl) : ME C (.Compare a [op, op'] [b, c] pos) (eChain g g' ma mb mc) := by
  obtain ⟨ta, pa, sa⟩ := ha
  obtain ⟨tb, pb, sb⟩ := hb
  obtain ⟨tc, pc, sc⟩ := hc
  exact ⟨_, pe_chain ho ho' pa pb pc hm, sa.chain sb sc hs hs'⟩
theorem mt_chain {op op' : CmpOp} {r r' : R2} {g g' : D → D → AH → ER} (ho : OpR C.X (compareOp op) r) (hs : OpS C r g) (ho' : OpR C.X (compareOp op') r') (hs' : OpS C r' g') (ha : ME C a ma) (hb : ME C b mb) (hc : ME C c mc)
    (hm : lastMarks [op, op'] [b, c] = false := by with_unfolding_all rfl) : MT C (.Compare a [op, op'] [b, c] pos) (eChain g g' ma mb mc) := by
  obtain ⟨ta, pa, sa⟩ := ha
  obtain ⟨tb, pb, sb⟩ := hb
  obtain ⟨tc, pc, sc⟩ := hc
  exact ⟨_, pt_chain ho ho' pa pb pc hm, (sa.chain sb sc hs hs').test⟩

/-! ### tests -/
theorem mt_truth {g : D → AH → ER} (hs : TruS C g) (ha : ME C a ma) (he : ∀ whole, isTrue a C.X.env whole = (do let v ← whole; standAt a.pos; holding [v] (truthy v)) := by intro _; rfl) : MT C a (eUn g ma) := by
  obtain ⟨ta, pa, sa⟩ := ha
  refine ⟨_, pt_truth pa he, ⟨fun env h σ H ι Q R V p => ?_⟩⟩
  refine sa.run env h σ H ι _ R V ?_
  unfold eUn at p
  cases hm : ma env h with
  | ok d h1 =>
    rw [hm] at p
    refine fun ι' H' v x R' r => hs ι' h1 H' σ v d Q R' r (PostT.shift p x)
  | exc c fs h1 => rw [hm] at p; exact p
  | stuck => rw [hm] at p; exact p
theorem mt_not (ha : MT C a ma) : MT C (.UnaryOp .Not a pos) (eNot ma) := by
  obtain ⟨ta, pa, sa⟩ := ha
  refine ⟨_, pt_not pa, ⟨fun env h σ H ι Q R V p => ?_⟩⟩
  refine sa.run env h σ H ι _ R V ?_
  unfold eNot at p
  cases hm : ma env h with
  | ok d h1 =>
    rw [hm] at p
    cases d with
    | bl b =>
      obtain ⟨b', e, p⟩ := p
      cases e
      exact ⟨b, rfl, p⟩
    | _ => exact (show False from p).elim
  | exc c fs h1 => rw [hm] at p; exact p
  | stuck => rw [hm] at p; exact p
theorem mw_and1 (ha : MT C a ma) : MW C (.BoolOp .And [a] pos) ma := by
  obtain ⟨ta, pa, sa⟩ := ha
  exact ⟨_, pw_and1 pa, sa⟩
theorem mw_or1 (ha : MT C a ma) : MW C (.BoolOp .Or [a] pos) ma := by
  obtain ⟨ta, pa, sa⟩ := ha
  exact ⟨_, pw_or1 pa, sa⟩
theorem SimT.and {ta tb : TT} (sa : SimT C ta ma) (sb : SimT C tb mb) : SimT C (tAnd ta tb) (eAnd ma mb) := by
  refine ⟨fun env h σ H ι Q R V p => ?_⟩
  refine sa.run env h σ H ι _ R V ?_
  unfold eAnd at p
  cases hm : ma env h with
  | ok d h1 =>
    rw [hm] at p
    cases d with
    | bl b =>
      refine ⟨b, rfl, fun ι' H' x R' => ?_⟩
      cases b with
      | true => exact iteT (sb.run env h1 σ H' ι' Q R' (V.ext R x) (PostT.shift p x))
      | false =>
        obtain ⟨b', e, p⟩ := p
        cases e
        exact iteF (p ι' H' x R')
    | _ => exact (show False from p).elim
  | exc c fs h1 => rw [hm] at p; exact p
  | stuck => rw [hm] at p; exact p
theorem SimT.or {ta tb : TT} (sa : SimT C ta ma) (sb : SimT C tb mb) : SimT C (tOr ta tb) (eOr ma mb) := by
  refine ⟨fun env h σ H ι Q R V p => ?_⟩
  refine sa.run env h σ H ι _ R V ?_
  unfold eOr at p
  cases hm : ma env h with
  | ok d h1 =>
    rw [hm] at p
    cases d with
    | bl b =>
      refine ⟨b, rfl, fun ι' H' x R' => ?_⟩
      cases b with
      | false => exact iteF (sb.run env h1 σ H' ι' Q R' (V.ext R x) (PostT.shift p x))
      | true =>
        obtain ⟨b', e, p⟩ := p
        cases e
        exact iteT (p ι' H' x R')
    | _ => exact (show False from p).elim
  | exc c fs h1 => rw [hm] at p; exact p
  | stuck => rw [hm] at p; exact p
theorem mw_and {rest : List Expr} (ha : MT C a ma) (hb : MW C (.BoolOp .And (b :: rest) pos) mb) : MW C (.BoolOp .And (a :: b :: rest) pos) (eAnd ma mb) := by
  obtain ⟨ta, pa, sa⟩ := ha
  obtain ⟨tb, pb, sb⟩ := hb
  exact ⟨_, pw_and pa pb, sa.and sb⟩
theorem mw_or {rest : List Expr} (ha : MT C a ma) (hb : MW C (.BoolOp .Or (b :: rest) pos) mb) : MW C (.BoolOp .Or (a :: b :: rest) pos) (eOr ma mb) := by
  obtain ⟨ta, pa, sa⟩ := ha
  obtain ⟨tb, pb, sb⟩ := hb
  exact ⟨_, pw_or pa pb, sa.or sb⟩
theorem MW.mt (h : MW C a ma) : MT C a ma := by
  obtain ⟨t, p, s⟩ := h
  exact ⟨t, p.pt, s⟩
/-- .. as values (bools, but the last) -/
theorem me_one {op} (h : ME C a ma) : ME C (.BoolOp op [a] pos) ma := by
  obtain ⟨t, p, s⟩ := h
  exact ⟨t, pe_one p, s⟩
theorem me_and {rest : List Expr} (ha : ME C a ma) (hb : ME C (.BoolOp .And (b :: rest) pos) mb) : ME C (.BoolOp .And (a :: b :: rest) pos) (eAnd ma mb) := by
  obtain ⟨ta, pa, sa⟩ := ha
  obtain ⟨tb, pb, sb⟩ := hb
  refine ⟨_, pe_and pa pb, ⟨fun env h σ H ι Q R V p => ?_⟩⟩
  refine sa.then R V p fun d1 h1 ι1 H1 v1 x1 R1 V1 r1 p1 => ?_
  cases d1 with
  | bl k =>
    refine ⟨k, RD.bl.mp r1, ?_⟩
    cases k with
    | true => exact iteT (sb.run env h1 σ H1 ι1 Q R1 V1 p1)
    | false => exact iteF (p1 ι1 H1 _ .refl R1 (RD.bl.mpr rfl))
  | _ => exact (show False from p1).elim
theorem me_or {rest : List Expr} (ha : ME C a ma) (hb : ME C (.BoolOp .Or (b :: rest) pos) mb) : ME C (.BoolOp .Or (a :: b :: rest) pos) (eOr ma mb) := by
  obtain ⟨ta, pa, sa⟩ := ha
  obtain ⟨tb, pb, sb⟩ := hb
  refine ⟨_, pe_or pa pb, ⟨fun env h σ H ι Q R V p => ?_⟩⟩
  refine sa.then R V p fun d1 h1 ι1 H1 v1 x1 R1 V1 r1 p1 => ?_
  cases d1 with
  | bl k =>
    refine ⟨k, RD.bl.mp r1, ?_⟩
    cases k with
    | false => exact iteF (sb.run env h1 σ H1 ι1 Q R1 V1 p1)
    | true => exact iteT (p1 ι1 H1 _ .refl R1 (RD.bl.mpr rfl))
  | _ => exact (show False from p1).elim
theorem me_not (ha : ME C a ma) : ME C (.UnaryOp .Not a pos) (eNot ma) := by
  obtain ⟨ta, pa, sa⟩ := ha
  refine ⟨_, pe_not pa, ⟨fun env h σ H ι Q R V p => ?_⟩⟩
  refine sa.then R V p fun d1 h1 ι1 H1 v1 x1 R1 V1 r1 p1 => ?_
  cases d1 with
  | bl k => exact ⟨k, RD.bl.mp r1, p1 ι1 H1 _ .refl R1 (RD.bl.mpr rfl)⟩
  | _ => exact (show False from p1).elim
/-- a if c else b -/
theorem me_if (hc : MT C c mc) (ha : ME C a ma) (hb : ME C b mb) : ME C (.IfExp c a b pos) (eIf mc ma mb) := by
  obtain ⟨tc, pc, sc⟩ := hc
  obtain ⟨ta, pa, sa⟩ := ha
  obtain ⟨tb, pb, sb⟩ := hb
  refine ⟨_, pe_ifExp pc pa pb, ⟨fun env h σ H ι Q R V p => ?_⟩⟩
  refine sc.run env h σ H ι _ R V ?_
  unfold eIf at p
  cases hm : mc env h with
  | ok d h1 =>
    rw [hm] at p
    cases d with
    | bl k =>
      refine ⟨k, rfl, fun ι' H' x R' => ?_⟩
      cases k with
      | true => exact iteT (sa.run env h1 σ H' ι' Q R' (V.ext R x) (PostE.shift p x))
      | false => exact iteF (sb.run env h1 σ H' ι' Q R' (V.ext R x) (PostE.shift p x))
    | _ => exact (show False from p).elim
  | exc c fs h1 => rw [hm] at p; exact p
  | stuck => rw [hm] at p; exact p

/-! ### argument lists, calls of built-ins -/
theorem ma_nil : MA C [] lNil := ⟨_, pa_nil, ⟨fun env h σ H ι Q R V p => p ι H [] .refl R RDs.nil'⟩⟩
theorem ma_cons {es : List Expr} {mr : LM} (ha : ME C e m) (hr : MA C es mr) (hs : starEach (e :: es) C.X.env = (false, eval e C.X.env) :: starEach es C.X.env := by rfl) : MA C (e :: es) (lCons m mr) := by
  obtain ⟨ta, pa, sa⟩ := ha
  obtain ⟨tr, pr, sr⟩ := hr
  refine ⟨_, pa_cons pa pr hs, ⟨fun env h σ H ι Q R V p => ?_⟩⟩
  refine sa.run env h σ H ι _ R V ?_
  unfold lCons at p
  cases hm : m env h with
  | ok d h1 =>
    rw [hm] at p
    dsimp only at p
    refine fun ι' H' v x R' r => ?_
    refine sr.run env h1 σ H' ι' _ R' (V.ext R x) ?_
    cases hm2 : mr env h1 with
    | ok ds h2 =>
      rw [hm2] at p
      exact fun ι2 H2 vs x2 R2 r2 => p ι2 H2 _ (x.trans x2) R2 (RDs.cons' (r.mono (x2.grow R')) r2)
    | exc c fs h2 =>
      rw [hm2] at p
      exact fun ι2 H2 Cl dd x2 => p ι2 H2 Cl dd (x.trans x2)
    | stuck => rw [hm2] at p; exact p
  | exc c fs h1 => rw [hm] at p; exact p
  | stuck => rw [hm] at p; exact p
theorem SimL.call {t : TA} {ml : LM} (s : SimL C t ml) {r : List V → Hp → VK → Prop} {g : List D → AH → ER} (hs : CallS C r g) : SimE C (fun σ H Q => t σ H fun vs H1 => r vs H1 Q) (eCall g ml) := by
  refine ⟨fun env h σ H ι Q R V p => ?_⟩
  refine s.run env h σ H ι _ R V ?_
  unfold eCall at p
  cases hm : ml env h with
  | ok ds h1 =>
    rw [hm] at p
    exact fun ι' H' vs x R' r' => hs ι' h1 H' σ vs ds Q R' r' (PostE.shift p x)
  | exc c fs h1 => rw [hm] at p; exact p
  | stuck => rw [hm] at p; exact p
theorem me_callB {x : Str} {p : Pos} {es : List Expr} {id : String} {r : List V → Hp → VK → Prop} {g : List D → AH → ER} {ml : LM} (hc : CallR C.X (.builtin id) r) (hs : CallS C r g) (hm : C.X.mg x = none) (ha : MA C (e :: es) ml) (hv : bootBuiltins x = some (.builtin id) := by decide +kernel) (hg : Gl C.X x := by rfl) (hn : x ≠ "__name__" := by decide) (hdb : (x == ("__debug__" : Str)) = false := by decide)
    (he : starEach (e :: es) C.X.env = (false, eval e C.X.env) :: starEach es C.X.env := by rfl) (hpl : (backTo pos (starEach es C.X.env)).any (·.1) = false := by rfl) : ME C (.Call (.Name x p) (e :: es) [] pos) (eCall g ml) := by
  obtain ⟨t, pa, s⟩ := ha
  exact ⟨_, pe_callB hc hg hm hv pa hn hdb he hpl, s.call hs⟩
theorem me_callTy {x : Str} {p : Pos} {es : List Expr} {T : String} {r : List V → Hp → VK → Prop} {g : List D → AH → ER} {ml : LM} (hc : CallR C.X (.type T) r) (hs : CallS C r g) (hm : C.X.mg x = none) (ha : MA C (e :: es) ml) (hv : bootBuiltins x = some (.type T) := by decide +kernel) (hg : Gl C.X x := by rfl) (hn : x ≠ "__name__" := by decide) (hdb : (x == ("__debug__" : Str)) = false := by decide)
    (he : starEach (e :: es) C.X.env = (false, eval e C.X.env) :: starEach es C.X.env := by rfl) (hpl : (backTo pos (starEach es C.X.env)).any (·.1) = false := by rfl) : ME C (.Call (.Name x p) (e :: es) [] pos) (eCall g ml) := by
  obtain ⟨t, pa, s⟩ := ha
  exact ⟨_, pe_callTy hc hg hm hv pa hn hdb he hpl, s.call hs⟩
end
end Rf

set_option maxHeartbeats 1000000
namespace Rf
open PySem PySem.Spec PyProof.Rows L2

/-! ### statements -/
def SR.then (o : SR) (f : SM) : SR := match o with
  | .nx e h => f e h
  | r => r
/-- an expression, then a statement's piece -/
def ER.thenS (o : ER) (env : AE) (f : D → AH → SR) : SR := match o with
  | .ok d h => f d h
  | .exc c fs h => .exc c fs env h
  | .stuck => .stuck
def sPass : SM := fun e h => .nx e h
def sSeq (a b : SM) : SM := fun e h => (a e h).then b
def sRet (m : EM) : SM := fun e h => (m e h).thenS e fun d h1 => .rt d h1
def sRetN : SM := fun _ h => .rt .non h
def sExpr (m : EM) : SM := fun e h => (m e h).thenS e fun _ h1 => .nx e h1
def sIf (c : EM) (a b : SM) : SM := fun e h => (c e h).thenS e fun d h1 => match d with
  | .bl true => a e h1
  | .bl false => b e h1
  | _ => .stuck
def sBreak : SM := fun e h => .bk e h
def sCont : SM := fun e h => .ct e h
def sStuck : SM := fun _ _ => .stuck
/-- a target takes a value -/
abbrev GM := D → AE → AH → SR
def gVar (i : Nat) : GM := fun d e h => .nx (e.set i (some d)) h
def sAsg (m : EM) (g : GM) : SM := fun e h => (m e h).thenS e fun d h1 => g d e h1
def sSet (i : Nat) (m : EM) : SM := sAsg m (gVar i)

section
variable {C : Ct} {e a b c : Expr} {s : Stmt} {st st' : List Stmt} {m ma mb mc : EM} {q q' : SM} {pos : Pos}
theorem SimE.thenS {t : TE} {ma : EM} (sa : SimE C t ma) {env : AE} {h : AH} {σ : List (Option V)} {H : Hp} {ι : Nat → Addr} {f : D → AH → SR} {D : Ends} {Q' : VK} (R : Rel C.X.K ι h H) (V : RV C ι h.length H env σ)
    (p : PostS C ι h.length H ((ma env h).thenS env f) D)
    (k : ∀ d h' ι' H' v, Ext ι h.length H ι' h'.length H' → Rel C.X.K ι' h' H' → RV C ι' h'.length H' env σ → RD C.X.K ι' h'.length H' d v → PostS C ι' h'.length H' (f d h') D → Q' v H') : t σ H Q' := by
  refine sa.run env h σ H ι Q' R V ?_
  cases hm : ma env h with
  | ok d h1 =>
    rw [hm] at p
    exact fun ι' H' v x R' r => k d h1 ι' H' v x R' (V.ext R x) r (PostS.shift p x)
  | exc c fs h1 => rw [hm] at p; exact fun ι' H' Cl dd x R' mc xd => p ι' H' σ Cl dd x R' (V.ext R x) mc xd
  | stuck => rw [hm] at p; exact p
theorem mb_nil : MB C [] sPass := ⟨_, pss_nil, ⟨fun env h σ H ι D R V p => p ι H σ .refl R V⟩⟩
theorem SimS.seq {t u : TS} (s1 : SimS C t q) (s2 : SimS C u q') : SimS C (tSeq t u) (sSeq q q') := by
  refine ⟨fun env h σ H ι D R V p => ?_⟩
  refine s1.run env h σ H ι _ R V ?_
  unfold sSeq at p
  cases hm : q env h with
  | nx e h1 =>
    rw [hm] at p
    exact fun ι' H' σ' x R' V' => s2.run e h1 σ' H' ι' D R' V' (PostS.shift p x)
  | rt d h1 => rw [hm] at p; exact p
  | bk d h1 => rw [hm] at p; exact p
  | ct d h1 => rw [hm] at p; exact p
  | exc c fs e h1 => rw [hm] at p; exact p
  | stuck => rw [hm] at p; exact p
theorem mb_cons (h1 : MS C s q) (h2 : MB C st q') : MB C (s :: st) (sSeq q q') := by
  obtain ⟨t, p, s1⟩ := h1
  obtain ⟨u, p', s2⟩ := h2
  exact ⟨_, pss_cons p p', s1.seq s2⟩
theorem mb_one (h1 : MS C s q) : MB C [s] q := by
  obtain ⟨t, p, s1⟩ := h1
  exact ⟨_, pss_one p, s1⟩
theorem ms_pass : MS C (.Pass pos) sPass := ⟨_, ps_pass, ⟨fun env h σ H ι D R V p => p ι H σ .refl R V⟩⟩
theorem ms_break : MS C (.Break pos) sBreak := ⟨_, ps_break, ⟨fun env h σ H ι D R V p => p ι H σ .refl R V⟩⟩
theorem ms_continue : MS C (.Continue pos) sCont := ⟨_, ps_continue, ⟨fun env h σ H ι D R V p => p ι H σ .refl R V⟩⟩
theorem ms_never : MS C s sStuck := ⟨_, ps_never, ⟨fun env h σ H ι D R V p => p⟩⟩
theorem ms_doc {x : Str} {j : Nat} {pos' : Pos} : MS C (.Expr (.Constant (.str x) j pos) pos') sPass := ⟨_, ps_doc, ⟨fun env h σ H ι D R V p => p ι H σ .refl R V⟩⟩
theorem ms_expr (ha : ME C e m) (hs : swapsWith e none pos.line C.X.env = pure false := by rfl) : MS C (.Expr e pos) (sExpr m) := by
  obtain ⟨t, p, s1⟩ := ha
  refine ⟨_, ps_expr p hs, ⟨fun env h σ H ι D R V p => ?_⟩⟩
  exact s1.thenS R V p fun d h1 ι1 H1 v1 x1 R1 V1 r1 p1 => p1 ι1 H1 σ .refl R1 V1
theorem ms_ret (ha : ME C e m) : MS C (.Return (some e) pos) (sRet m) := by
  obtain ⟨t, p, s1⟩ := ha
  refine ⟨_, ps_ret p, ⟨fun env h σ H ι D R V p => ?_⟩⟩
  exact s1.thenS R V p fun d h1 ι1 H1 v1 x1 R1 V1 r1 p1 => p1 ι1 H1 v1 .refl R1 r1
theorem ms_retN : MS C (.Return none pos) sRetN := ⟨_, ps_retN, ⟨fun env h σ H ι D R V p => p ι H .non .refl R (RD.non.mpr rfl)⟩⟩
theorem ms_if (hc : MT C c mc) (ha : MB C st q) (hb : MB C st' q') : MS C (.If c st st' pos) (sIf mc q q') := by
  obtain ⟨tc, pc, sc⟩ := hc
  obtain ⟨ta, pa, sa⟩ := ha
  obtain ⟨tb, pb, sb⟩ := hb
  refine ⟨_, ps_if pc pa pb, ⟨fun env h σ H ι D R V p => ?_⟩⟩
  refine sc.run env h σ H ι _ R V ?_
  unfold sIf at p
  cases hm : mc env h with
  | ok d h1 =>
    rw [hm] at p
    cases d with
    | bl k =>
      refine ⟨k, rfl, fun ι' H' x R' => ?_⟩
      cases k with
      | true => exact iteT (sa.run env h1 σ H' ι' D R' (V.ext R x) (PostS.shift p x))
      | false => exact iteF (sb.run env h1 σ H' ι' D R' (V.ext R x) (PostS.shift p x))
    | _ => exact (show False from p).elim
  | exc c fs h1 => rw [hm] at p; exact fun ι' H' Cl dd x R' mc xd => p ι' H' σ Cl dd x R' (V.ext R x) mc xd
  | stuck => rw [hm] at p; exact p
theorem ms_set {i : Nat} {x : Str} {pos' : Pos} (hN : C.X.N.Nodup) (hi : C.X.N[i]? = some x) (hx : Loc C.X.env.scope x) (ha : ME C e m) (hne : ∀ y, C.ea = some y → y.i ≠ i := by exact fun _ z => nomatch z)
    (hs : swapsWith e (some (.Name x pos')) pos.line C.X.env = pure false := by rfl) (hf : C.X.fn x = true ∨ C.X.env.scope.names.lookup x = some .local := by first | exact .inl rfl | exact .inr rfl | assumption) : MS C (.Assign [.Name x pos'] e pos) (sSet i m) := by
  obtain ⟨t, p, s1⟩ := ha
  refine ⟨_, ps_set hN hi hx p hs hf, ⟨fun env h σ H ι D R V p => ?_⟩⟩
  exact s1.thenS R V p fun d h1 ι1 H1 v1 x1 R1 V1 r1 p1 => p1 ι1 H1 _ .refl R1 (V1.set i r1 hne)

/-! ### targets -/
structure SimG (C : Ct) (t : TG) (g : GM) : Prop where
  run : ∀ (d : D) (v : V) (env : AE) (h : AH) (σ : List (Option V)) (H : Hp) (ι : Nat → Addr) (Q : List (Option V) → Hp → Prop), Rel C.X.K ι h H → RV C ι h.length H env σ → RD C.X.K ι h.length H d v →
    PostS C ι h.length H (g d env h) { nx := Q, rt := fun _ _ => False } → t v σ H Q
def MG (C : Ct) (tg : Expr) (g : GM) : Prop := ∃ t, PG C.X tg t ∧ SimG C t g
structure SimGs (C : Ct) (t : TGs) (g : List D → AE → AH → SR) : Prop where
  run : ∀ (ds : List D) (vs : List V) (env : AE) (h : AH) (σ : List (Option V)) (H : Hp) (ι : Nat → Addr) (Q : List (Option V) → Hp → Prop), Rel C.X.K ι h H → RV C ι h.length H env σ → RDs C.X.K ι h.length H ds vs →
    PostS C ι h.length H (g ds env h) { nx := Q, rt := fun _ _ => False } → t vs σ H Q
def MGs (C : Ct) (tg : List Expr) (g : List D → AE → AH → SR) : Prop := ∃ t, PGs C.X tg t ∧ SimGs C t g
/-- a target lets no exception out, ends in next -/
def onlyNx (o : SR) : SR := match o with
  | .nx e h => .nx e h
  | _ => .stuck
def gNils : List D → AE → AH → SR := fun ds e h => match ds with
  | [] => .nx e h
  | _ => .stuck
def gCons (g : GM) (r : List D → AE → AH → SR) : List D → AE → AH → SR := fun ds e h => match ds with
  | d :: ds => (onlyNx (g d e h)).then fun e1 h1 => r ds e1 h1
  | _ => .stuck
def gTup (k : Nat) (r : List D → AE → AH → SR) : GM := fun d e h => match d with
  | .tup ds => if ds.length = k then r ds e h else .stuck
  | _ => .stuck
theorem mg_var {i : Nat} {x : Str} (hN : C.X.N.Nodup) (hi : C.X.N[i]? = some x) (hx : Loc C.X.env.scope x) (hne : ∀ y, C.ea = some y → y.i ≠ i := by exact fun _ z => nomatch z) (hf : C.X.fn x = true ∨ C.X.env.scope.names.lookup x = some .local := by first | exact .inl rfl | exact .inr rfl | assumption) : MG C (.Name x pos) (gVar i) :=
  ⟨_, pg_name hN hi hx hf, ⟨fun d v env h σ H ι Q R V r p => p ι H _ .refl R (V.set i r hne)⟩⟩
theorem mgs_nil : MGs C [] gNils := by
  refine ⟨_, pgs_nil, ⟨fun ds vs env h σ H ι Q R V r p => ?_⟩⟩
  cases ds with
  | nil => exact ⟨RDs.nil.mp r, p ι H σ .refl R V⟩
  | cons _ _ => exact (show False from p).elim
theorem PostS.only {ι : Nat → Addr} {n : Nat} {H : Hp} {o : SR} {D D' : Ends} (p : PostS C ι n H (onlyNx o) D) (eD : D.nx = D'.nx) : PostS C ι n H o D' := by
  cases o with
  | nx e h => exact fun ι' H' σ' x R V => by rw [← eD]; exact p ι' H' σ' x R V
  | _ => exact (show False from p).elim
theorem SR.then_only {o : SR} {f : SM} {ι : Nat → Addr} {n : Nat} {H : Hp} {D : Ends} (p : PostS C ι n H ((onlyNx o).then f) D) : ∃ e h, o = .nx e h ∧ PostS C ι n H (f e h) D := by
  cases o with
  | nx e h => exact ⟨e, h, rfl, p⟩
  | _ => exact (show False from p).elim
theorem mgs_cons {es : List Expr} {g : GM} {r : List D → AE → AH → SR} (h1 : MG C e g) (h2 : MGs C es r) (hs : (assignEach (e :: es) C.X.env).map (·.2) = assign e C.X.env :: (assignEach es C.X.env).map (·.2) := by rfl) : MGs C (e :: es) (gCons g r) := by
  obtain ⟨t, p, s1⟩ := h1
  obtain ⟨u, p', s2⟩ := h2
  refine ⟨_, pgs_cons p p' hs, ⟨fun ds vs env h σ H ι Q R V rr pp => ?_⟩⟩
  cases ds with
  | nil => exact (show False from pp).elim
  | cons d ds =>
    obtain ⟨v, vr, rfl, r1, r2⟩ := RDs.cons.mp rr
    refine ⟨v, vr, rfl, ?_⟩
    obtain ⟨e1, h1, eg, pq⟩ := SR.then_only pp
    refine s1.run d v env h σ H ι _ R V r1 ?_
    rw [eg]
    exact fun ι' H' σ' x R' V' => s2.run ds vr e1 h1 σ' H' ι' Q R' V' (r2.mono (x.grow R)) (PostS.shift pq x)
theorem mg_tup {es : List Expr} {kk k : Nat} {r : List D → AE → AH → SR} (hc : C.X.calm = true) (h : MGs C es r) (hn : (assignEach es C.X.env).length = k := by rfl) (hst : (assignEach es C.X.env).findIdx? (·.1) = none := by rfl) : MG C (.Tuple es kk pos) (gTup k r) := by
  obtain ⟨t, p, s1⟩ := h
  refine ⟨_, pg_tup hc p hn hst, ⟨fun d v env h σ H ι Q R V rr pp => ?_⟩⟩
  cases d with
  | tup ds =>
    obtain ⟨a, vs, rfl, q, r2⟩ := RD.tup.mp rr
    unfold gTup at pp
    dsimp only at pp
    by_cases hk : ds.length = k
    · rw [if_pos hk] at pp
      exact ⟨a, vs, rfl, q, by rw [← r2.length]; exact hk, s1.run ds vs env h σ H ι Q R V r2 pp⟩
    · rw [if_neg hk] at pp; exact (show False from pp).elim
  | _ => exact (show False from pp).elim
/-- a store a[i] = v, by values -/
def SetS (C : Ct) (t : TSet) (g : D → D → D → AH → Option AH) : Prop := ∀ (ι : Nat → Addr) (h : AH) (H : Hp) (x y z : V) (d1 d2 d3 : D) (h' : AH) (Q : Hp → Prop), Rel C.X.K ι h H → RD C.X.K ι h.length H d1 x → RD C.X.K ι h.length H d2 y → RD C.X.K ι h.length H d3 z →
  g d1 d2 d3 h = some h' → (∀ ι' H', Ext ι h.length H ι' h'.length H' → Rel C.X.K ι' h' H' → Q H') → t x y z H Q
def gSub (g : D → D → D → AH → Option AH) (o i : EM) : GM := fun d env h => (o env h).thenS env fun d1 h1 => (i env h1).thenS env fun d2 h2 => match g d1 d2 d h2 with
  | some h3 => .nx env h3
  | none => .stuck
theorem mg_sub {o i : Expr} {mo mi : EM} {t : TSet} {g : D → D → D → AH → Option AH} (hs : PSet C.X t) (ss : SetS C t g) (ho : ME C o mo) (hi : ME C i mi)
    (ha : ∀ v, assign (.Subscript o i pos) C.X.env v = (do
      let ov ← holding [v] (eval o C.X.env)
      let iv ← holding [v, ov] (eval i C.X.env)
      standAt pos
      holding [v, ov, iv] (setItem ov iv v)
      release [v, ov, iv] []) := by intro _; rfl) : MG C (.Subscript o i pos) (gSub g mo mi) := by
  obtain ⟨ta, pa, sa⟩ := ho
  obtain ⟨tb, pb, sb⟩ := hi
  refine ⟨_, pg_sub pa pb hs ha, ⟨fun d v env h σ H ι Q R V r p => ?_⟩⟩
  refine sa.thenS R V p fun d1 h1 ι1 H1 v1 x1 R1 V1 r1 p1 => ?_
  refine sb.thenS R1 V1 p1 fun d2 h2 ι2 H2 v2 x2 R2 V2 r2 p2 => ?_
  cases hg : g d1 d2 d h2 with
  | none => rw [hg] at p2; exact (show False from p2).elim
  | some h3 =>
    rw [hg] at p2
    exact ss ι2 h2 H2 v1 v2 v d1 d2 d h3 _ R2 (r1.mono (x2.grow R1)) r2 (r.mono ((x1.trans x2).grow R)) hg fun ι3 H3 x3 R3 => p2 ι3 H3 σ x3 R3 (V2.ext R2 x3)
theorem ms_asg {tg : Expr} {g : GM} (ha : ME C e m) (hg : MG C tg g) (hs : swapsWithSole [tg] e pos.line C.X.env = pure false := by rfl) (hw : swappedStores [tg] e C.X.env = pure none := by rfl)
    (h1 : (assignEach [tg] C.X.env).map (·.2) = [assign tg C.X.env] := by rfl) : MS C (.Assign [tg] e pos) (sAsg m (fun d e h => onlyNx (g d e h))) := by
  obtain ⟨t, p, s1⟩ := ha
  obtain ⟨u, p', s2⟩ := hg
  refine ⟨_, ps_asg p p' hs hw h1, ⟨fun env h σ H ι D R V p => ?_⟩⟩
  exact s1.thenS R V p fun d h1 ι1 H1 v1 x1 R1 V1 r1 p1 => s2.run d v1 env h1 σ H1 ι1 _ R1 V1 r1 (PostS.only p1 rfl)
/-- a, b = x, y with local names -/
def sPar (i j : Nat) (l : LM) : SM := fun e h => match l e h with
  | .ok [d1, d2] h1 => .nx ((e.set i (some d1)).set j (some d2)) h1
  | .exc c fs h1 => .exc c fs e h1
  | _ => .stuck
theorem ms_par {i j : Nat} {x y : Str} {ml : LM} {px py pt : Pos} {kt k2 : Nat} {pt2 : Pos} (hc : C.X.calm = true) (hN : C.X.N.Nodup) (hi : C.X.N[i]? = some x) (hj : C.X.N[j]? = some y) (hij : i ≠ j)
    (hx : C.X.env.scope.names.lookup x = some .local) (hy : C.X.env.scope.names.lookup y = some .local) (ha : MA C [a, b] ml)
    (hw : swappedStores [.Tuple [.Name x px, .Name y py] kt pt] (.Tuple [a, b] k2 pt2) C.X.env = pure (some [x, y])) (hne : C.ea = none := by rfl)
    (hs : swapsWithSole [.Tuple [.Name x px, .Name y py] kt pt] (.Tuple [a, b] k2 pt2) pos.line C.X.env = pure false := by rfl) :
    MS C (.Assign [.Tuple [.Name x px, .Name y py] kt pt] (.Tuple [a, b] k2 pt2) pos) (sPar i j ml) := by
  obtain ⟨t, p, s1⟩ := ha
  refine ⟨_, ps_par hc hN hi hj hij hx hy p hw hs, ⟨fun env h σ H ι D R V p => ?_⟩⟩
  refine s1.run env h σ H ι _ R V ?_
  unfold sPar at p
  have nea : ∀ y, C.ea = some y → ∀ k, y.i ≠ k := fun y z => by rw [hne] at z; cases z
  cases hm : ml env h with
  | ok ds h1 =>
    rw [hm] at p
    match ds, p with
    | [d1, d2], p =>
      refine fun ι' H' vs x R' r => ?_
      obtain ⟨v1, r1, rfl, q1, q2⟩ := RDs.cons.mp r
      obtain ⟨v2, r2, rfl, q3, q4⟩ := RDs.cons.mp q2
      cases RDs.nil.mp q4
      exact ⟨v1, v2, rfl, p ι' H' _ x R' (((V.ext R x).set i q1 fun y z => nea y z i).set j q3 fun y z => nea y z j)⟩
    | [], p => exact (show False from p).elim
    | [_], p => exact (show False from p).elim
    | _ :: _ :: _ :: _, p => exact (show False from p).elim
  | exc c fs h1 => rw [hm] at p; exact fun ι' H' Cl dd x R' mc xd => p ι' H' σ Cl dd x R' (V.ext R x) mc xd
  | stuck => rw [hm] at p; exact p
/-- name op= e -/
def sAug (i : Nat) (g : D → D → AH → ER) (m : EM) : SM := fun e h => match e[i]? with
  | some (some d) => (m e h).thenS e fun d2 h1 => (g d d2 h1).thenS e fun d3 h2 => .nx (e.set i (some d3)) h2
  | _ => .stuck
theorem ms_aug {i : Nat} {x : Str} {op : Operator} {r : R2} {g : D → D → AH → ER} {pos' : Pos} (ho : OpR C.X (inplaceOp op) r) (hs : OpS C r g) (hN : C.X.N.Nodup) (hi : C.X.N[i]? = some x) (hx : Loc C.X.env.scope x) (ha : ME C e m)
    (hne : ∀ y, C.ea = some y → y.i ≠ i := by exact fun _ z => nomatch z) (hf : C.X.fn x = true ∨ C.X.env.scope.names.lookup x = some .local := by first | exact .inl rfl | exact .inr rfl | assumption) : MS C (.AugAssign (.Name x pos') op e pos) (sAug i g m) := by
  obtain ⟨t, p, s1⟩ := ha
  have hp : PIp C.X op r := fun pins s σ H x y v u Q I rx ry hh => ho pins s σ H x y v u Q I rx ry hh
  refine ⟨_, ps_aug hN hi hx p hp hf, ⟨fun env h σ H ι D R V p => ?_⟩⟩
  unfold sAug at p
  split at p
  · rename_i d0 e0
    obtain ⟨v0, e1, r0⟩ := V.re.at_ i d0 e0
    refine ⟨v0, e1, ?_⟩
    refine s1.thenS R V p fun d h1 ι1 H1 v1 x1 R1 V1 r1 p1 => ?_
    refine hs ι1 h1 H1 σ v0 v1 d0 d _ R1 (r0.mono (x1.grow R)) r1 ?_
    cases hm : g d0 d h1 with
    | ok d3 h2 =>
      rw [hm] at p1
      exact fun ι2 H2 v2 x2 R2 r2 => p1 ι2 H2 _ x2 R2 ((V1.ext R1 x2).set i r2 hne)
    | exc c fs h2 => rw [hm] at p1; exact fun ι' H' Cl dd x R' mc xd => p1 ι' H' σ Cl dd x R' (V1.ext R1 x) mc xd
    | stuck => rw [hm] at p1; exact p1
  · exact p.elim
end

/-! ### while -/
/-- behind a turn's body: once more, or out -/
def again (r : SR) (k : SM) : SR := match r with
  | .nx e h => k e h
  | .ct e h => k e h
  | .bk e h => .nx e h
  | .rt d h => .rt d h
  | .exc c fs e h => .exc c fs e h
  | .stuck => .stuck
def whileN (c : EM) (b : SM) : Nat → SM
  | 0 => fun _ _ => .stuck
  | k + 1 => fun e h => (c e h).thenS e fun d h1 => match d with
    | .bl true => again (b e h1) (whileN c b k)
    | .bl false => .nx e h1
    | _ => .stuck
open Classical in
noncomputable def sWhile (c : EM) (b : SM) : SM := fun e h => if hk : ∃ k, whileN c b k e h ≠ .stuck then whileN c b hk.choose e h else .stuck
section
variable {C : Ct} {c : Expr} {st : List Stmt} {mc : EM} {q : SM} {pos : Pos}
/-- a body of a loop: k is what the next turns do -/
theorem PostS.again {ι : Nat → Addr} {n : Nat} {H : Hp} {r : SR} {k : SM} {D : Ends} {N : List (Option V) → Hp → Prop} (p : PostS C ι n H (again r k) D)
    (hN : ∀ env h ι' H' σ, Ext ι n H ι' h.length H' → Rel C.X.K ι' h H' → RV C ι' h.length H' env σ → PostS C ι' h.length H' (k env h) D → N σ H') : PostS C ι n H r { D with nx := N, ct := N, bk := D.nx } := by
  cases r with
  | nx e h => exact fun ι' H' σ x R V => hN e h ι' H' σ x R V (PostS.shift p x)
  | ct e h => exact fun ι' H' σ x R V => hN e h ι' H' σ x R V (PostS.shift p x)
  | bk e h => exact p
  | rt e h => exact p
  | exc c fs e h => exact p
  | stuck => exact p
theorem ms_while (hp : PassesOwn (model C.X.prog C.X.w) C.X.A C.X.env C.X.xe) (hc : MT C c mc) (hb : MB C st q) : MS C (.While c st [] pos) (sWhile mc q) := by
  obtain ⟨tc, pc, sc⟩ := hc
  obtain ⟨tb, pb, sb⟩ := hb
  refine ⟨_, ps_while hp pc pb, ⟨fun env h σ H ι D R V p => ?_⟩⟩
  unfold sWhile at p
  split at p
  · rename_i hk
    generalize hk.choose = k at p
    refine ⟨fun k σ H => ∃ env h ι, Rel C.X.K ι h H ∧ RV C ι h.length H env σ ∧ PostS C ι h.length H (whileN mc q k env h) D, ⟨k, env, h, ι, R, V, p⟩, ?_⟩
    rintro k σ H ⟨env, h, ι, R, V, p⟩
    cases k with
    | zero => exact (show False from p).elim
    | succ k =>
      refine sc.run env h σ H ι _ R V ?_
      unfold whileN at p
      cases hm : mc env h with
      | ok d h1 =>
        rw [hm] at p
        cases d with
        | bl b =>
          refine ⟨b, rfl, fun ι' H' x R' => ?_⟩
          cases b with
          | true =>
            refine iteT ⟨fun σ H => ∃ env h ι, Rel C.X.K ι h H ∧ RV C ι h.length H env σ ∧ PostS C ι h.length H (whileN mc q k env h) D, fun σ' H' hq => ⟨k, Nat.lt_succ_self k, hq⟩, ?_⟩
            refine sb.run env h1 σ H' ι' _ R' (V.ext R x) ?_
            exact PostS.again (PostS.shift (o := again (q env h1) (whileN mc q k)) p x) fun e2 h2 ι2 H2 σ2 x2 R2 V2 p2 => ⟨e2, h2, ι2, R2, V2, p2⟩
          | false => exact iteF (p ι' H' σ x R' (V.ext R x))
        | _ => exact (show False from p).elim
      | exc c fs h1 => rw [hm] at p; exact fun ι' H' Cl dd x R' mc xd => p ι' H' σ Cl dd x R' (V.ext R x) mc xd
      | stuck => rw [hm] at p; exact p
  · exact p.elim
end
/-- once it ends within k turns, it ends so -/
theorem whileN_mono {c : EM} {b : SM} : ∀ {k j : Nat} {e : AE} {h : AH}, k ≤ j → whileN c b k e h ≠ .stuck → whileN c b j e h = whileN c b k e h
  | 0, j, e, h, _, hn => absurd rfl hn
  | k + 1, 0, e, h, hj, _ => absurd hj (Nat.not_succ_le_zero k)
  | k + 1, j + 1, e, h, hj, hn => by
    unfold whileN at hn ⊢
    cases hc : c e h with
    | ok d h1 =>
      rw [hc] at hn
      cases d with
      | bl v =>
        cases v with
        | true =>
          show again (b e h1) (whileN c b j) = again (b e h1) (whileN c b k)
          have hn : again (b e h1) (whileN c b k) ≠ .stuck := hn
          cases hb : b e h1 with
          | nx e2 h2 => rw [hb] at hn; exact whileN_mono (Nat.le_of_succ_le_succ hj) hn
          | ct e2 h2 => rw [hb] at hn; exact whileN_mono (Nat.le_of_succ_le_succ hj) hn
          | bk e2 h2 => rfl
          | rt e2 h2 => rfl
          | exc c2 f2 e2 h2 => rfl
          | stuck => rfl
        | false => rfl
      | _ => rfl
    | exc c2 fs h1 => rfl
    | stuck => rfl
theorem sWhile_eq {c : EM} {b : SM} {k : Nat} {e : AE} {h : AH} {r : SR} (hr : whileN c b k e h = r) (hn : r ≠ .stuck) : sWhile c b e h = r := by
  have hk : ∃ k, whileN c b k e h ≠ .stuck := ⟨k, by rw [hr]; exact hn⟩
  unfold sWhile
  rw [dif_pos hk]
  have h1 := hk.choose_spec
  rcases Nat.le_total k hk.choose with l | l
  · rw [whileN_mono l (by rw [hr]; exact hn)]; exact hr
  · rw [← whileN_mono l h1]; exact hr
end Rf

set_option maxHeartbeats 1000000
namespace Rf
open PySem PySem.Spec PyProof.Rows L2

/-! ### what is walked -/
/-- n: at most so many turns; nxt: at a turn, in a heap: the item, or none at the end -/
structure AIt where
  n : Nat
  nxt : Nat → AH → Option (Option D)
inductive IR where
  | ok (it : AIt) (h : AH)
  | exc (c : Str) (fs : List (Str × D)) (h : AH)
  | stuck
abbrev IM := AE → AH → IR
def forN (it : AIt) (g : GM) (b : SM) : Nat → Nat → SM
  | 0, _ => fun _ _ => .stuck
  | k + 1, i => fun e h => match it.nxt i h with
    | some none => .nx e h
    | some (some d) => again ((onlyNx (g d e h)).then b) (forN it g b k (i + 1))
    | none => .stuck
def sFor (mi : IM) (g : GM) (b : SM) : SM := fun e h => match mi e h with
  | .ok it h1 => forN it g b (it.n + 1) 0 e h1
  | .exc c fs h1 => .exc c fs e h1
  | .stuck => .stuck
/-- J does what it tells, from this heap on -/
def ItR (K : PySem.W.Frag) (J : It) (it : AIt) (ι : Nat → Addr) (n : Nat) (H : Hp) : Prop := ∀ i ι' h' H', Ext ι n H ι' h'.length H' → Rel K ι' h' H' →
  (it.nxt i h' = some none → J.stop i H') ∧
  ∀ d, it.nxt i h' = some (some d) → J.go i H' ∧ ∀ x H2, J.yld i H' x H2 → ∃ ι2, Ext ι' h'.length H' ι2 h'.length H2 ∧ Rel K ι2 h' H2 ∧ RD K ι2 h'.length H2 d x
def PostI (C : Ct) (ι : Nat → Addr) (n : Nat) (H : Hp) (σ : List (Option V)) (o : IR) (Q : It → Hp → Prop) : Prop := match o with
  | .ok it h' => ∀ ι' H' J, Ext ι n H ι' h'.length H' → Rel C.X.K ι' h' H' → ItR C.X.K J it ι' h'.length H' → Q J H'
  | .exc c fs h' => ∀ ι' H' Cl dd, Ext ι n H ι' h'.length H' → Rel C.X.K ι' h' H' → C.X.mg c = some (.ref Cl) → XD C.X.K ι' h'.length H' dd fs → C.W (.ref Cl) dd σ H'
  | .stuck => False
structure SimI (C : Ct) (t : TI) (m : IM) : Prop where
  run : ∀ (env : AE) (h : AH) (σ : List (Option V)) (H : Hp) (ι : Nat → Addr) (Q : It → Hp → Prop), Rel C.X.K ι h H → RV C ι h.length H env σ → PostI C ι h.length H σ (m env h) Q → t σ H Q
def MI (C : Ct) (tg e : Expr) (m : IM) : Prop := ∃ t, PI C.X tg e t ∧ SimI C t m

section
variable {C : Ct} {e tg iter : Expr} {st : List Stmt} {m : EM} {mi : IM} {g : GM} {q : SM} {pos : Pos}
theorem ms_for (hp : PassesOwn (model C.X.prog C.X.w) C.X.A C.X.env C.X.xe) (hc : C.X.calm = true) (hi : MI C tg iter mi) (hg : MG C tg g) (hb : MB C st q) (hs : ∀ x, foldedSetIterable iter C.X.env x = pure x := by intro _; rfl) :
    MS C (.For tg iter st [] pos) (sFor mi g q) := by
  obtain ⟨ti, pi, si⟩ := hi
  obtain ⟨tg', pg, sg⟩ := hg
  obtain ⟨tb, pb, sb⟩ := hb
  refine ⟨_, ps_for hp hc pi pg pb hs, ⟨fun env h σ H ι D R V p => ?_⟩⟩
  refine si.run env h σ H ι _ R V ?_
  unfold sFor at p
  cases hm : mi env h with
  | ok it h1 =>
    rw [hm] at p
    refine fun ι0 H0 J x0 R0 J0 => ?_
    refine ⟨fun i m σ H => ∃ env h ι, Ext ι0 h1.length H0 ι h.length H ∧ Rel C.X.K ι h H ∧ RV C ι h.length H env σ ∧ PostS C ι h.length H (forN it g q m i env h) D,
      ⟨it.n + 1, env, h1, ι0, .refl, R0, V.ext R x0, PostS.shift p x0⟩, ?_⟩
    rintro i m σ H ⟨env, h, ι, x, R, V, p⟩
    cases m with
    | zero => exact (show False from p).elim
    | succ m =>
      unfold forN at p
      obtain ⟨j1, j2⟩ := J0 i ι h H x R
      cases hn : it.nxt i h with
      | none => rw [hn] at p; exact (show False from p).elim
      | some od =>
        rw [hn] at p
        cases od with
        | none => exact .inl ⟨j1 hn, p ι H σ .refl R V⟩
        | some d =>
          obtain ⟨go, y⟩ := j2 d hn
          refine .inr ⟨go, fun σ H => ∃ env h ι, Ext ι0 h1.length H0 ι h.length H ∧ Rel C.X.K ι h H ∧ RV C ι h.length H env σ ∧ PostS C ι h.length H (forN it g q m (i + 1) env h) D,
            fun σ' H' hq => ⟨m, Nat.lt_succ_self m, hq⟩, fun xv H2 hy => ?_⟩
          obtain ⟨ι2, x2, R2, r2⟩ := y xv H2 hy
          have p : PostS C ι h.length H (again ((onlyNx (g d env h)).then q) (forN it g q m (i + 1))) D := p
          have p2 := PostS.shift p x2
          refine sg.run d xv env h σ H2 ι2 _ R2 (V.ext R x2) r2 ?_
          cases hgd : g d env h with
          | nx e3 h3 =>
            rw [hgd] at p2
            refine fun ι3 H3 σ3 x3 R3 V3 => ?_
            refine sb.run e3 h3 σ3 H3 ι3 _ R3 V3 ?_
            exact PostS.again (PostS.shift p2 x3) fun e4 h4 ι4 H4 σ4 x4 R4 V4 p4 => ⟨e4, h4, ι4, x.trans (x2.trans (x3.trans x4)), R4, V4, p4⟩
          | _ => rw [hgd] at p2; exact (show False from p2).elim
  | exc c fs h1 => rw [hm] at p; exact fun ι' H' Cl dd x R' mc xd => p ι' H' σ Cl dd x R' (V.ext R x) mc xd
  | stuck => rw [hm] at p; exact p
end

/-! ### the weakest reading of a plain function -/
def canE (C : Ct) (m : EM) : TE := fun σ H Q => ∃ env h ι, Rel C.X.K ι h H ∧ RV C ι h.length H env σ ∧ PostE C ι h.length H σ (m env h) Q
def canT (C : Ct) (m : EM) : TT := fun σ H Q => ∃ env h ι, Rel C.X.K ι h H ∧ RV C ι h.length H env σ ∧ PostT C ι h.length H σ (m env h) Q
theorem ME.can {C : Ct} {e : Expr} {m : EM} (h : ME C e m) : PE C.X e (canE C m) := by
  obtain ⟨t, p, s⟩ := h
  exact ⟨fun pins st σ H Q I ⟨env, h, ι, R, V, q⟩ => p.run pins st σ H Q I (s.run env h σ H ι Q R V q)⟩
theorem MT.can {C : Ct} {e : Expr} {m : EM} (h : MT C e m) : PT C.X e (canT C m) := by
  obtain ⟨t, p, s⟩ := h
  exact ⟨fun pins st σ H Q I ⟨env, h, ι, R, V, q⟩ => p.run pins st σ H Q I (s.run env h σ H ι Q R V q)⟩

/-! ### comprehensions -/
/-- the context of a comprehension's block -/
abbrev Ct.blk (C : Ct) (s : Shared) (H : Hp) (scope : Scope) (Cc : Addr) (cl : List (Str × Addr)) (fp : List Addr) : Ct := ⟨C.X.blk s H scope (compEnvC scope cl Cc C.X.env) fp, fun _ _ _ _ => False, none⟩
/-- what the readings of a block's parts lean on -/
abbrev Ct.flat (C : Ct) : Ct := ⟨C.X, fun _ _ _ _ => False, none⟩
/-- of a length that a list, a tuple, a text may have -/
def Fits (n : Nat) : Prop := n ≤ sizeLine
def FitsL (n : Nat) : Prop := n < sizeLine
noncomputable instance {n : Nat} : Decidable (Fits n) := Classical.propDecidable _
noncomputable instance {n : Nat} : Decidable (FitsL n) := Classical.propDecidable _
def wipeE (e : AE) : List Nat → AE
  | [] => e
  | v :: vs => (wipeE e vs).set v none
/-- the tests and the element at the items from i on -/
noncomputable def lcN (it : AIt) (g : GM) (tt : EM) (te : EM) (e0 : AE) : Nat → Nat → List D → AH → ER ⊕ (List D × AH)
  | 0, _ => fun _ _ => .inl .stuck
  | k + 1, i => fun acc h => match it.nxt i h with
    | some none => .inr (acc, h)
    | some (some d) => (match g d e0 h with
      | .nx e1 h1 => (match tt e1 h1 with
        | .ok (.bl true) h2 => (match te e1 h2 with
          | .ok d2 h3 => if FitsL acc.length then lcN it g tt te e0 k (i + 1) (acc ++ [d2]) h3 else .inl .stuck
          | _ => .inl .stuck)
        | .ok (.bl false) h2 => lcN it g tt te e0 k (i + 1) acc h2
        | _ => .inl .stuck)
      | _ => .inl .stuck)
    | none => .inl .stuck
noncomputable def eLc (mi : IM) (g : GM) (tt : EM) (te : EM) (vs : List Nat) : EM := fun e h => match mi e h with
  | .ok it h1 => (match lcN it g tt te (wipeE e vs) (it.n + 1) 0 [] h1 with
    | .inr (acc, h2) => .ok (.ref h2.length) (h2 ++ [.lst acc])
    | .inl _ => .stuck)
  | .exc c fs h1 => .exc c fs h1
  | .stuck => .stuck
section
variable {K : PySem.W.Frag} {C : Ct} {ι ι' : Nat → Addr} {n n' : Nat} {H H' : Hp} {h h' : AH} {env : AE} {σ : List (Option V)} {d : D} {ds : List D} {v : V} {xs : List V} {a p : Addr} {i : Nat} {o : AO} {ho : HO}
theorem RE.wipe (r : RE K ι n H env σ) : ∀ vs : List Nat, RE K ι n H (wipeE env vs) (L2.wipe σ vs)
  | [] => r
  | v :: vs => (RE.wipe r vs).forget v none
/-- a fresh number -/
def ιset (ι : Nat → Addr) (n : Nat) (p : Addr) : Nat → Addr := fun i => if i = n then p else ι i
theorem ιset_same : ιset ι n p n = p := if_pos rfl
theorem ιset_ne (hi : i ≠ n) : ιset ι n p i = ι i := if_neg hi
theorem ιset_lt (hi : i < n) : ιset ι n p i = ι i := if_neg (Nat.ne_of_lt hi)
theorem Ext.tup (hp : H p = none) : Ext ι n H ι n (upd H p ho) := by
  refine ⟨Nat.le_refl _, fun _ _ => rfl, fun i h1 h2 => absurd h2 (Nat.not_lt.mpr h1), fun b o e _ => ?_, fun b e => ?_⟩
  · rw [upd_ne (ne_of_none e hp)]; exact e
  · unfold upd at e
    split at e
    · cases e
    · exact e
theorem Rel.at_ne (R : Rel K ι h H) (hi : i < h.length) (hp : H p = none) : ι i ≠ p := fun e => by
  have q := R.mut hi
  rw [e, hp] at q
  exact q
theorem Rel.tup (R : Rel K ι h H) (hp : H p = none) (x : Ext ι h.length H ι h.length (upd H p ho)) : Rel K ι h (upd H p ho) := by
  refine ⟨R.inj, fun i o e => ?_⟩
  have hi : i < h.length := (List.getElem?_eq_some_iff.mp e).1
  exact RO.mono (H0 := H) (x.grow R) (upd_ne (R.at_ne hi hp)) (R.ob i o e)
/-- a new thing of the abstract heap -/
theorem Ext.new (hp : H p = none) : Ext ι n H (ιset ι n p) (n + 1) (upd H p ho) := by
  refine ⟨Nat.le_succ _, fun i hi => ιset_lt hi, fun i h1 h2 => ?_, fun b o e _ => ?_, fun b e => ?_⟩
  · have e : i = n := by omega
    rw [e, ιset_same]; exact hp
  · rw [upd_ne (ne_of_none e hp)]; exact e
  · unfold upd at e
    split at e
    · cases e
    · exact e
theorem Rel.new (R : Rel K ι h H) (hp : H p = none) (hn : Ext ι h.length H (ιset ι h.length p) (h.length + 1) (upd H p ho) → RO K (ιset ι h.length p) (h.length + 1) (upd H p ho) o p) : Rel K (ιset ι h.length p) (h ++ [o]) (upd H p ho) := by
  have x : Ext ι h.length H (ιset ι h.length p) (h.length + 1) (upd H p ho) := Ext.new hp
  refine ⟨fun i j hi hj e => ?_, fun i o' e => ?_⟩
  · simp only [List.length_append, List.length_cons, List.length_nil] at hi hj
    by_cases h1 : i = h.length
    · by_cases h2 : j = h.length
      · rw [h1, h2]
      · rw [h1, ιset_same, ιset_ne h2] at e
        exact absurd e.symm (R.at_ne (by omega) hp)
    · by_cases h2 : j = h.length
      · rw [h2, ιset_same, ιset_ne h1] at e
        exact absurd e (R.at_ne (by omega) hp)
      · rw [ιset_ne h1, ιset_ne h2] at e
        exact R.inj i j (by omega) (by omega) e
  · simp only [List.length_append, List.length_cons, List.length_nil]
    by_cases h1 : i < h.length
    · rw [List.getElem?_append_left h1] at e
      have q := R.ob i o' e
      rw [ιset_lt h1]
      exact RO.mono (H0 := H) (x.grow R) (upd_ne (R.at_ne h1 hp)) q
    · have hi : i = h.length := by
        have := (List.getElem?_eq_some_iff.mp e).1
        simp only [List.length_append, List.length_cons, List.length_nil] at this
        omega
      subst hi
      rw [List.getElem?_append_right (Nat.le_refl _)] at e
      simp only [Nat.sub_self, List.getElem?_cons_zero, Option.some.injEq] at e
      subst e
      rw [ιset_same]
      exact hn x
/-- a thing changed -/
theorem Ext.put (R : Rel K ι h H) (hi : i < h.length) : Ext ι h.length H ι h.length (upd H (ι i) ho) := by
  refine ⟨Nat.le_refl _, fun _ _ => rfl, fun j h1 h2 => absurd h2 (Nat.not_lt.mpr h1), fun b o e hb => ?_, fun b e => ?_⟩
  · rw [upd_ne (Ne.symm (hb i hi))]; exact e
  · unfold upd at e
    split at e
    · cases e
    · exact e
theorem Rel.put (R : Rel K ι h H) (hi : i < h.length) (hn : Ext ι h.length H ι h.length (upd H (ι i) ho) → RO K ι h.length (upd H (ι i) ho) o (ι i)) : Rel K ι (h.set i o) (upd H (ι i) ho) := by
  have x : Ext ι h.length H ι h.length (upd H (ι i) ho) := Ext.put R hi
  refine ⟨fun a b ha hb => R.inj a b (by simpa using ha) (by simpa using hb), fun j o' e => ?_⟩
  rw [List.length_set]
  by_cases hj : i = j
  · subst hj
    rw [List.getElem?_set_self hi] at e
    simp only [Option.some.injEq] at e
    subst e
    exact hn x
  · rw [List.getElem?_set_ne hj] at e
    have hjl : j < h.length := (List.getElem?_eq_some_iff.mp e).1
    have q := R.ob j o' e
    exact RO.mono (H0 := H) (x.grow R) (upd_ne fun z => hj (R.inj i j hi hjl z.symm)) q
/-- a list that the abstract heap does not know is laid there -/
theorem Rel.take (R : Rel K ι h H) (hD : H p = some (.lst xs)) (hne : ∀ i, i < h.length → ι i ≠ p) (r : RDs K ι h.length H ds xs) : Rel K (ιset ι h.length p) (h ++ [.lst ds]) H := by
  have g : Grow K ι h.length H (ιset ι h.length p) (h.length + 1) H := ⟨Nat.le_succ _, fun i hi => ιset_lt hi, fun _ _ q => q, fun _ _ q => q⟩
  refine ⟨fun i j hi hj e => ?_, fun i o' e => ?_⟩
  · simp only [List.length_append, List.length_cons, List.length_nil] at hi hj
    by_cases h1 : i = h.length
    · by_cases h2 : j = h.length
      · rw [h1, h2]
      · rw [h1, ιset_same, ιset_ne h2] at e
        exact absurd e.symm (hne j (by omega))
    · by_cases h2 : j = h.length
      · rw [h2, ιset_same, ιset_ne h1] at e
        exact absurd e (hne i (by omega))
      · rw [ιset_ne h1, ιset_ne h2] at e
        exact R.inj i j (by omega) (by omega) e
  · simp only [List.length_append, List.length_cons, List.length_nil]
    by_cases h1 : i < h.length
    · rw [List.getElem?_append_left h1] at e
      rw [ιset_lt h1]
      exact RO.mono (H0 := H) g rfl (R.ob i o' e)
    · have hi : i = h.length := by
        have := (List.getElem?_eq_some_iff.mp e).1
        simp only [List.length_append, List.length_cons, List.length_nil] at this
        omega
      subst hi
      rw [List.getElem?_append_right (Nat.le_refl _)] at e
      simp only [Nat.sub_self, List.getElem?_cons_zero, Option.some.injEq] at e
      subst e
      rw [ιset_same]
      exact ⟨xs, hD, r.mono g⟩
end
/-- a target that stores to the slots vs alone -/
def OnlyAt (t : TG) (vs : List Nat) : Prop := ∀ v σ H Q, t v σ H Q → t v σ H fun σ' H' => L2.wipe σ' vs = L2.wipe σ vs ∧ Q σ' H'
theorem wipe_set {σ : L2.St} {i : Nat} {x : Option V} : ∀ {vs : List Nat}, i ∈ vs → L2.wipe (σ.set i x) vs = L2.wipe σ vs
  | v :: vs, h => by
    unfold L2.wipe
    by_cases hv : i = v
    · subst hv
      by_cases hm : i ∈ vs
      · rw [wipe_set hm]
      · have : ∀ vs : List Nat, L2.wipe (List.set σ i x) vs = List.set (L2.wipe σ vs) i (if i ∈ vs then none else x) ∨ True := fun _ => .inr trivial
        have key : ∀ vs : List Nat, i ∉ vs → L2.wipe (List.set σ i x) vs = List.set (L2.wipe σ vs) i x := by
          intro vs
          induction vs with
          | nil => intro _; rfl
          | cons w ws ih =>
            intro hn
            have h1 : i ≠ w := fun e => hn (by rw [e]; exact List.mem_cons_self)
            have h2 : i ∉ ws := fun e => hn (List.mem_cons_of_mem _ e)
            unfold L2.wipe
            rw [ih h2, List.set_comm _ _ h1]
        rw [key vs hm, List.set_set]
    · have hm : i ∈ vs := by
        rcases List.mem_cons.mp h with e | e
        · exact absurd e hv
        · exact e
      rw [wipe_set hm]
theorem wipe_wipe {σ : L2.St} {vs : List Nat} : ∀ {ws : List Nat}, (∀ i ∈ ws, i ∈ vs) → L2.wipe (L2.wipe σ ws) vs = L2.wipe σ vs
  | [], _ => rfl
  | w :: ws, h => by
    show L2.wipe (List.set (L2.wipe σ ws) w none) vs = _
    rw [wipe_set (h w List.mem_cons_self)]
    exact wipe_wipe fun i hi => h i (List.mem_cons_of_mem _ hi)
theorem OnlyAt.at_ {t : TG} {vs : List Nat} (o : OnlyAt t vs) {v : V} {σ W : L2.St} {H : Hp} {Q : L2.St → Hp → Prop} (h : L2.wipe σ vs = W) (q : t v σ H Q) : t v σ H fun σ' H' => L2.wipe σ' vs = W ∧ Q σ' H' := by
  subst h
  exact o v σ H Q q
def MGc (C : Ct) (tg : Expr) (g : GM) (t : TG) (vs : List Nat) : Prop := PG C.X tg t ∧ SimG C t g ∧ OnlyAt t vs
def MGcs (C : Ct) (tg : List Expr) (g : List D → AE → AH → SR) (t : TGs) (vs : List Nat) : Prop := PGs C.X tg t ∧ SimGs C t g ∧ ∀ v σ H Q, t v σ H Q → t v σ H fun σ' H' => L2.wipe σ' vs = L2.wipe σ vs ∧ Q σ' H'
section
variable {C : Ct} {pos : Pos} {vs : List Nat}
theorem mgc_var {i : Nat} {x : Str} (hN : C.X.N.Nodup) (hi : C.X.N[i]? = some x) (hx : Loc C.X.env.scope x) (hv : i ∈ vs) (hne : ∀ y, C.ea = some y → y.i ≠ i := by exact fun _ z => nomatch z) (hf : C.X.fn x = true ∨ C.X.env.scope.names.lookup x = some .local := by first | exact .inl rfl | exact .inr rfl | assumption) : MGc C (.Name x pos) (gVar i) (gName i) vs :=
  ⟨pg_name hN hi hx hf, ⟨fun d v env h σ H ι Q R V r p => p ι H _ .refl R (V.set i r hne)⟩, fun v σ H Q q => ⟨wipe_set hv, q⟩⟩
theorem mgcs_nil : MGcs C [] gNils L2.gNil vs := by
  refine ⟨pgs_nil, ⟨fun ds vs env h σ H ι Q R V r p => ?_⟩, fun v σ H Q q => ⟨q.1, rfl, q.2⟩⟩
  cases ds with
  | nil => exact ⟨RDs.nil.mp r, p ι H σ .refl R V⟩
  | cons _ _ => exact (show False from p).elim
theorem mgcs_cons {e : Expr} {es : List Expr} {g : GM} {r : List D → AE → AH → SR} {t : TG} {u : TGs} (h1 : MGc C e g t vs) (h2 : MGcs C es r u vs) (hs : (assignEach (e :: es) C.X.env).map (·.2) = assign e C.X.env :: (assignEach es C.X.env).map (·.2) := by rfl)
    (mono : ∀ v σ H (Q Q' : List (Option V) → Hp → Prop), (∀ a b, Q a b → Q' a b) → t v σ H Q → t v σ H Q') : MGcs C (e :: es) (gCons g r) (L2.gCons t u) vs := by
  obtain ⟨p, s1, o1⟩ := h1
  obtain ⟨p', s2, o2⟩ := h2
  refine ⟨pgs_cons p p' hs, ⟨fun ds vs env h σ H ι Q R V rr pp => ?_⟩, fun v σ H Q q => ?_⟩
  · cases ds with
    | nil => exact (show False from pp).elim
    | cons d ds =>
      obtain ⟨v, vr, rfl, r1, r2⟩ := RDs.cons.mp rr
      refine ⟨v, vr, rfl, ?_⟩
      obtain ⟨e1, h1, eg, pq⟩ := SR.then_only pp
      refine s1.run d v env h σ H ι _ R V r1 ?_
      rw [eg]
      exact fun ι' H' σ' x R' V' => s2.run ds vr e1 h1 σ' H' ι' Q R' V' (r2.mono (x.grow R)) (PostS.shift pq x)
  · obtain ⟨x, r, rfl, q⟩ := q
    refine ⟨x, r, rfl, ?_⟩
    refine mono _ _ _ _ _ (fun a b hq => ?_) (o1 _ _ _ _ q)
    obtain ⟨e1, q1⟩ := hq
    have := o2 r a b Q q1
    rw [e1] at this
    exact this
theorem mono_name {i : Nat} : ∀ v σ H (Q Q' : List (Option V) → Hp → Prop), (∀ a b, Q a b → Q' a b) → gName i v σ H Q → gName i v σ H Q' := fun _ _ _ _ _ f q => f _ _ q
theorem mgc_tup {es : List Expr} {kk k : Nat} {r : List D → AE → AH → SR} {u : TGs} (hc : C.X.calm = true) (h : MGcs C es r u vs) (hn : (assignEach es C.X.env).length = k := by rfl) (hst : (assignEach es C.X.env).findIdx? (·.1) = none := by rfl) : MGc C (.Tuple es kk pos) (gTup k r) (L2.gTup C.X.K k u) vs := by
  obtain ⟨p, s1, o1⟩ := h
  refine ⟨pg_tup hc p hn hst, ⟨fun d v env h σ H ι Q R V rr pp => ?_⟩, fun v σ H Q q => ?_⟩
  · cases d with
    | tup ds =>
      obtain ⟨a, vs, rfl, q, r2⟩ := RD.tup.mp rr
      unfold gTup at pp
      dsimp only at pp
      by_cases hk : ds.length = k
      · rw [if_pos hk] at pp
        exact ⟨a, vs, rfl, q, by rw [← r2.length]; exact hk, s1.run ds vs env h σ H ι Q R V r2 pp⟩
      · rw [if_neg hk] at pp; exact (show False from pp).elim
    | _ => exact (show False from pp).elim
  · obtain ⟨a, xs, e, hq, l, q⟩ := q
    exact ⟨a, xs, e, hq, l, o1 _ _ _ _ q⟩
end
/-- a comprehension's tests -/
def MTs (C : Ct) (es : List Expr) (m : EM) : Prop := ∃ t, PTs C.X es t ∧ SimT C t m
theorem mts_nil {C : Ct} : MTs C [] (eC (.bl true)) := ⟨_, pts_nil, ⟨fun env h σ H ι Q R V p => by
  obtain ⟨b, e, p⟩ := p
  cases e
  exact p ι H .refl R⟩⟩
theorem mts_one {C : Ct} {c : Expr} {m : EM} (h : MT C c m) : MTs C [c] m := by
  obtain ⟨t, p, s⟩ := h
  exact ⟨t, pts_one p, s⟩
theorem MTs.can {C : Ct} {e : List Expr} {m : EM} (h : MTs C e m) : PTs C.X e (canT C m) := by
  obtain ⟨t, p, s⟩ := h
  exact ⟨fun pins st σ H Q I ⟨env, h, ι, R, V, q⟩ => p.run pins st σ H Q I (s.run env h σ H ι Q R V q)⟩
section
variable {C : Ct} {elt tg iter : Expr} {ifs : List Expr} {scope : Scope} {own : List (Str × Nat)} {pos : Pos} {mi : IM} {g : GM} {t : TG} {mt me : EM}
theorem SimE.lc {ti : TI} (si : SimI C ti mi) (sg : ∀ s H Cc cl fp, SimG (C.blk s H scope Cc cl fp) t g ∧ OnlyAt t (own.map (·.2))) : SimE C (tLc ti t (canT C.flat mt) (canE C.flat me) (own.map (·.2))) (eLc mi g mt me (own.map (·.2))) := by
  refine ⟨fun env h σ H ι Q R V p => ?_⟩
  refine si.run env h σ H ι _ R V ?_
  unfold eLc at p
  cases hm : mi env h with
  | ok it h1 =>
    rw [hm] at p
    dsimp only at p
    refine fun ι0 H0 J x0 R0 J0 Dp hD => ?_
    have V0 := V.ext R x0
    cases hl : lcN it g mt me (wipeE env (own.map (·.2))) (it.n + 1) 0 [] h1 with
    | inl o => rw [hl] at p; exact (show False from p).elim
    | inr pr =>
      obtain ⟨accF, h2⟩ := pr
      rw [hl] at p
      dsimp only at p
      refine ⟨fun i m H => ∃ h ι acc xs, Ext ι0 h1.length H0 ι h.length H ∧ Rel C.X.K ι h H ∧ RE C.X.K ι h.length H (wipeE env (own.map (·.2))) (L2.wipe σ (own.map (·.2))) ∧ H Dp = some (.lst xs) ∧ RDs C.X.K ι h.length H acc xs ∧ (∀ i, i < h.length → ι i ≠ Dp) ∧
        lcN it g mt me (wipeE env (own.map (·.2))) m i acc h = .inr (accF, h2), ⟨it.n + 1, h1, ι0, [], [], Ext.tup hD, Rel.tup R0 hD (Ext.tup hD), (V0.re.wipe _).mono ((Ext.tup hD).grow R0), upd_same, RDs.nil', fun i hi => R0.at_ne hi hD, hl⟩, ?_⟩
      rintro i m H ⟨h, ι', acc, xs, x, R, E, hDl, ra, hne, hq⟩
      cases m with
      | zero => cases hq
      | succ m =>
        obtain ⟨j1, j2⟩ := J0 i ι' h H x R
        unfold lcN at hq
        cases hn : it.nxt i h with
        | none => rw [hn] at hq; cases hq
        | some od =>
          rw [hn] at hq
          cases od with
          | none =>
            refine .inl ⟨j1 hn, ?_⟩
            dsimp only at hq
            cases hq
            have e1 : ((h2 ++ [AO.lst accF]).length) = h2.length + 1 := by simp
            refine p (ιset ι' h2.length Dp) H (.ref Dp) ?_ (R.take hDl hne ra) ?_
            · have hle := x.le
              have hle0 := x0.le
              rw [e1]
              refine ⟨by omega, fun j hj => ?_, fun j j1 j2 => ?_, fun b o e hb => ?_, fun b e => x0.st b (x.st b e)⟩
              · rw [ιset_lt (by omega), x.ag j (by omega), x0.ag j hj]
              · by_cases hj : j = h2.length
                · rw [hj, ιset_same]; exact x0.st _ hD
                · rw [ιset_ne hj]; exact (x0.trans x).nw j j1 (by omega)
              · exact (x0.trans x).fr b o e hb
            · rw [e1]
              exact RD.ref.mpr ⟨Nat.lt_succ_self _, by rw [ιset_same]⟩
          | some d =>
            dsimp only at hq
            obtain ⟨go, y⟩ := j2 d hn
            refine .inr ⟨go, _, fun H' hN => ⟨m, Nat.lt_succ_self m, hN⟩, fun xv H2 hy => ?_⟩
            obtain ⟨ι2, x2, R2, r2⟩ := y xv H2 hy
            have hD2 : H2 Dp = some (.lst xs) := x2.fr Dp _ hDl hne
            have hne2 : ∀ i, i < h.length → ι2 i ≠ Dp := fun i hi => by rw [x2.ag i hi]; exact hne i hi
            have E2 := E.mono (x2.grow R)
            have sgo := sg C.X.s_0 H2 0 [] []
            cases hgd : g d (wipeE env (own.map (·.2))) h with
            | nx e3 h3 =>
              rw [hgd] at hq
              dsimp only at hq
              refine sgo.2.at_ (wipe_wipe fun _ h => h) (sgo.1.run d xv _ h _ H2 ι2 _ R2 ⟨E2, trivial⟩ r2 ?_)
              rw [hgd]
              refine fun ι3 H3 σ3 x3 R3 V3 => ?_
              have hD3 : H3 Dp = some (.lst xs) := x3.fr Dp _ hD2 hne2
              have hne3 : ∀ i, i < h3.length → ι3 i ≠ Dp := fun i hi => by
                by_cases hlt : i < h.length
                · rw [x3.ag i hlt]; exact hne2 i hlt
                · intro e
                  have := x3.nw i (Nat.not_lt.mp hlt) hi
                  rw [e, hD2] at this; cases this
              have V3' : RV C.flat ι3 h3.length H3 e3 σ3 := ⟨V3.re, trivial⟩
              refine ⟨e3, h3, ι3, R3, V3', ?_⟩
              cases htt : mt e3 h3 with
              | ok db h4 =>
                rw [htt] at hq
                cases db with
                | bl b =>
                  refine ⟨b, rfl, fun ι4 H4 x4 R4 => ?_⟩
                  have hD4 : H4 Dp = some (.lst xs) := x4.fr Dp _ hD3 hne3
                  have hne4 : ∀ i, i < h4.length → ι4 i ≠ Dp := fun i hi => by
                    by_cases hlt : i < h3.length
                    · rw [x4.ag i hlt]; exact hne3 i hlt
                    · intro e
                      have := x4.nw i (Nat.not_lt.mp hlt) hi
                      rw [e, hD3] at this; cases this
                  have xx := x2.trans (x3.trans x4)
                  cases b with
                  | true =>
                    dsimp only at hq
                    refine iteT ?_
                    refine ⟨e3, h4, ι4, R4, V3'.ext R3 x4, ?_⟩
                    cases hte : me e3 h4 with
                    | ok d5 h5 =>
                      rw [hte] at hq
                      dsimp only at hq
                      by_cases hz : FitsL acc.length
                      · rw [if_pos hz] at hq
                        refine fun ι5 H5 v5 x5 R5 r5 => ?_
                        have hD5 : H5 Dp = some (.lst xs) := x5.fr Dp _ hD4 hne4
                        have hne5 : ∀ i, i < h5.length → ι5 i ≠ Dp := fun i hi => by
                          by_cases hlt : i < h4.length
                          · rw [x5.ag i hlt]; exact hne4 i hlt
                          · intro e
                            have := x5.nw i (Nat.not_lt.mp hlt) hi
                            rw [e, hD4] at this; cases this
                        have x25 := xx.trans x5
                        refine ⟨xs, hD5, by rw [← ra.length]; exact hz, h5, ι5, acc ++ [d5], xs ++ [v5], ?_, ?_, ?_, upd_same, ?_, hne5, hq⟩
                        · have xa := x.trans x25
                          refine ⟨xa.le, xa.ag, xa.nw, fun b o e hb => ?_, fun b e => ?_⟩
                          · have hbD : b ≠ Dp := ne_of_none e hD
                            rw [upd_ne hbD]; exact xa.fr b o e hb
                          · by_cases hb : b = Dp
                            · subst hb; rw [upd_same] at e; cases e
                            · rw [upd_ne hb] at e; exact xa.st b e
                        all_goals
                          have gg : Grow C.X.K ι5 h5.length H5 ι5 h5.length (upd H5 Dp (.lst (xs ++ [v5]))) := ⟨Nat.le_refl _, fun _ _ => rfl, fun a vs q => by
                              rcases q with (q | ⟨o, q⟩) | q
                              · exact .inl (.inl (by rw [upd_ne (ne_of q hD5 (by intro z; cases z))]; exact q))
                              · exact .inl (.inr ⟨o, by rw [upd_ne (ne_of q hD5 (by intro z; cases z))]; exact q⟩)
                              · exact .inr q, fun a vs q => by
                              rcases q with ⟨o, q⟩ | q
                              · exact .inl ⟨o, by rw [upd_ne (ne_of q hD5 (by intro z; cases z))]; exact q⟩
                              · exact .inr q⟩
                        · refine ⟨R5.inj, fun i o e => ?_⟩
                          have hi : i < h5.length := (List.getElem?_eq_some_iff.mp e).1
                          exact RO.mono (H0 := H5) gg (upd_ne (hne5 i hi)) (R5.ob i o e)
                        · exact ((E2.mono (x3.grow R2)).mono ((x4.trans x5).grow R3)).mono gg
                        · exact RDs.append ((ra.mono (x25.grow R)).mono gg) (RDs.cons' (r5.mono gg) RDs.nil')
                      · rw [if_neg hz] at hq; cases hq
                    | exc c fs h5 => rw [hte] at hq; cases hq
                    | stuck => rw [hte] at hq; cases hq
                  | false =>
                    dsimp only at hq
                    refine iteF ?_
                    exact ⟨h4, ι4, acc, xs, x.trans xx, R4, (E2.mono (x3.grow R2)).mono (x4.grow R3), hD4, ra.mono (xx.grow R), hne4, hq⟩
                | _ => cases hq
              | exc c fs h4 => rw [htt] at hq; cases hq
              | stuck => rw [htt] at hq; cases hq
            | _ => rw [hgd] at hq; cases hq
  | exc c fs h1 => rw [hm] at p; exact p
  | stuck => rw [hm] at p; exact p
end
end Rf

set_option maxHeartbeats 1000000
namespace Rf
open PySem PySem.Spec PyProof.Rows L2

section
variable {C : Ct} {elt tg iter : Expr} {ifs : List Expr} {scope : Scope} {own : List (Str × Nat)} {pos : Pos} {mi : IM} {g : GM} {t : TG} {mt me : EM}
theorem me_lc (hc : C.X.calm = true) (hN : C.X.N.Nodup) (hi : MI C tg iter mi) (ok : BlkOk C.X.N C.X.env.scope scope own)
    (hg : ∀ s H Cc cl fp, MGc (C.blk s H scope Cc cl fp) tg g t (own.map (·.2)))
    (ht : ∀ s H Cc cl fp, MTs (C.blk s H scope Cc cl fp) ifs mt) (he : ∀ s H Cc cl fp, ME (C.blk s H scope Cc cl fp) elt me) (hs : ∀ x, foldedSetIterable iter C.X.env x = pure x := by intro _; rfl) :
    ME C (.ListComp elt [⟨tg, iter, ifs, 0⟩] scope pos) (eLc mi g mt me (own.map (·.2))) := by
  obtain ⟨ti, pi, si⟩ := hi
  exact ⟨_, pe_lc hc hN pi ok (fun s H Cc cl fp => (hg s H Cc cl fp).1) (fun s H Cc cl fp => (ht s H Cc cl fp).can) (fun s H Cc cl fp => (he s H Cc cl fp).can) hs, SimE.lc si fun s H Cc cl fp => (hg s H Cc cl fp).2⟩
theorem ms_setLc {i : Nat} {y : Str} {py spos : Pos} (hc : C.X.calm = true) (hN : C.X.N.Nodup) (hy : C.X.N[i]? = some y) (hyl : C.X.env.scope.names.lookup y = some .local)
    (hsw : swapsWith (.ListComp elt [⟨tg, iter, ifs, 0⟩] scope pos) (some (.Name y py)) spos.line C.X.env = pure true) (hi : MI C tg iter mi) (ok : BlkOk C.X.N C.X.env.scope scope own)
    (hg : ∀ s H Cc cl fp, MGc (C.blk s H scope Cc cl fp) tg g t (own.map (·.2)))
    (ht : ∀ s H Cc cl fp, MTs (C.blk s H scope Cc cl fp) ifs mt) (he : ∀ s H Cc cl fp, ME (C.blk s H scope Cc cl fp) elt me) (hne : ∀ y, C.ea = some y → y.i ≠ i := by exact fun _ z => nomatch z) (hs : ∀ x, foldedSetIterable iter C.X.env x = pure x := by intro _; rfl) :
    MS C (.Assign [.Name y py] (.ListComp elt [⟨tg, iter, ifs, 0⟩] scope pos) spos) (sSet i (eLc mi g mt me (own.map (·.2)))) := by
  obtain ⟨ti, pi, si⟩ := hi
  refine ⟨_, ps_setLc (te := canE C.flat me) (tt := canT C.flat mt) hc hN hy hyl hsw pi ok (fun s H Cc cl fp => (hg s H Cc cl fp).1) (fun s H Cc cl fp => (ht s H Cc cl fp).can) (fun s H Cc cl fp => (he s H Cc cl fp).can) hs, ⟨fun env h σ H ι D R V p => ?_⟩⟩
  have s1 : SimE C _ (eLc mi g mt me (own.map (·.2))) := SimE.lc si fun s H Cc cl fp => (hg s H Cc cl fp).2
  exact s1.thenS R V p fun d h1 ι1 H1 v1 x1 R1 V1 r1 p1 => p1 ι1 H1 _ .refl R1 (V1.set i r1 hne)
end

/-! ### no numbers within -/
mutual
def D.pure : D → Bool
  | .ref _ => false
  | .tup ds => pures ds
  | .rol ds => pures ds
  | .non => true
  | .bl _ => true
  | .int _ => true
  | .str _ => true
  | .ty _ => true
def pures : List D → Bool
  | [] => true
  | d :: ds => d.pure && pures ds
end
def AO.flat : AO → Bool
  | .lst ds => pures ds
  | .dK kvs => pures (kvs.map (·.2))
  | .dT kvs => pures (kvs.map (·.2))
theorem pures_iff : ∀ {ds : List D}, pures ds = true ↔ ∀ d ∈ ds, d.pure = true
  | [] => by simp [pures]
  | d :: ds => by simp [pures, pures_iff (ds := ds)]
mutual
def D.lt_ (n : Nat) : D → Prop
  | .ref i => i < n
  | .tup ds => lts_ n ds
  | .rol ds => lts_ n ds
  | .non => True
  | .bl _ => True
  | .int _ => True
  | .str _ => True
  | .ty _ => True
def lts_ (n : Nat) : List D → Prop
  | [] => True
  | d :: ds => d.lt_ n ∧ lts_ n ds
end
section
variable {K : PySem.W.Frag} {ι ι' : Nat → Addr} {n n' : Nat} {H H' : Hp} {h h' : AH} {d : D} {ds : List D} {v : V} {vs : List V}
mutual
theorem RD.lt_ : ∀ {d : D} {v : V}, RD K ι n H d v → d.lt_ n
  | .ref i, v, r => (RD.ref.mp r).1
  | .tup ds, v, r => by obtain ⟨_, _, _, _, r⟩ := RD.tup.mp r; exact RDs.below r
  | .rol ds, v, r => by obtain ⟨_, _, _, _, r⟩ := RD.rol.mp r; exact RDs.below r
  | .non, _, _ => trivial
  | .bl _, _, _ => trivial
  | .int _, _, _ => trivial
  | .str _, _, _ => trivial
  | .ty _, _, _ => trivial
theorem RDs.below : ∀ {ds : List D} {vs : List V}, RDs K ι n H ds vs → lts_ n ds
  | [], _, _ => trivial
  | d :: ds, vs, r => by
    obtain ⟨v, r', _, h1, h2⟩ := RDs.cons.mp r
    exact ⟨RD.lt_ h1, RDs.below h2⟩
end
mutual
theorem D.pure_lt : ∀ {d : D}, d.pure = true → d.lt_ n
  | .ref i, r => by cases r
  | .tup ds, r => pures_lt (by unfold D.pure at r; exact r)
  | .rol ds, r => pures_lt (by unfold D.pure at r; exact r)
  | .non, _ => trivial
  | .bl _, _ => trivial
  | .int _, _ => trivial
  | .str _, _ => trivial
  | .ty _, _ => trivial
theorem pures_lt : ∀ {ds : List D}, pures ds = true → lts_ n ds
  | [], _ => trivial
  | d :: ds, r => by
    unfold pures at r
    simp only [Bool.and_eq_true] at r
    exact ⟨D.pure_lt r.1, pures_lt r.2⟩
end
mutual
/-- numbers below n alone matter -/
theorem RD.cut (ag : ∀ i, i < n → ι' i = ι i) : ∀ {d : D} {v : V}, RD K ι n' H d v → d.lt_ n → RD K ι' n H d v
  | .ref i, v, r, b => RD.ref.mpr ⟨b, by rw [ag i b]; exact (RD.ref.mp r).2⟩
  | .tup ds, v, r, b => by
    obtain ⟨a, vs, e, q, r⟩ := RD.tup.mp r
    exact RD.tup.mpr ⟨a, vs, e, q, RDs.cut ag r (by unfold D.lt_ at b; exact b)⟩
  | .rol ds, v, r, b => by
    obtain ⟨a, vs, e, q, r⟩ := RD.rol.mp r
    exact RD.rol.mpr ⟨a, vs, e, q, RDs.cut ag r (by unfold D.lt_ at b; exact b)⟩
  | .non, _, r, _ => by unfold RD at r ⊢; exact r
  | .bl _, _, r, _ => by unfold RD at r ⊢; exact r
  | .int _, _, r, _ => by unfold RD at r ⊢; exact r
  | .str _, _, r, _ => by unfold RD at r ⊢; exact r
  | .ty _, _, r, _ => by unfold RD at r ⊢; exact r
theorem RDs.cut (ag : ∀ i, i < n → ι' i = ι i) : ∀ {ds : List D} {vs : List V}, RDs K ι n' H ds vs → lts_ n ds → RDs K ι' n H ds vs
  | [], _, r, _ => by unfold RDs at r ⊢; exact r
  | d :: ds, vs, r, b => by
    obtain ⟨v, r', e, h1, h2⟩ := RDs.cons.mp r
    exact RDs.cons.mpr ⟨v, r', e, RD.cut ag h1 b.1, RDs.cut ag h2 b.2⟩
end
def AO.lt_ (n : Nat) : AO → Prop
  | .lst ds => lts_ n ds
  | .dK kvs => lts_ n (kvs.map (·.2))
  | .dT kvs => lts_ n (kvs.map (·.2))
theorem AO.flat_lt {o : AO} (f : o.flat = true) : o.lt_ n := by
  cases o <;> exact pures_lt f
theorem RO.below {o : AO} {a : Addr} (r : RO K ι n H o a) : o.lt_ n := by
  cases o with
  | lst ds => obtain ⟨_, _, r⟩ := r; exact r.below
  | dK ds => obtain ⟨_, _, _, r⟩ := r; exact r.below
  | dT ds => obtain ⟨_, _, _, r⟩ := r; exact r.below
theorem RO.cut (ag : ∀ i, i < n → ι' i = ι i) {o : AO} {a : Addr} (r : RO K ι n' H o a) (b : o.lt_ n) : RO K ι' n H o a := by
  cases o with
  | lst ds => obtain ⟨vs, e, r⟩ := r; exact ⟨vs, e, r.cut ag b⟩
  | dK ds => obtain ⟨vs, e, k, r⟩ := r; exact ⟨vs, e, k, r.cut ag b⟩
  | dT ds => obtain ⟨vs, e, k, r⟩ := r; exact ⟨vs, e, k, r.cut ag b⟩
end

/-! ### what a def leaves: its own things are dropped where nothing leads to them -/
/-- the things of h stand as they stood, or are flat -/
def Keep (h h' : AH) : Prop := h.length ≤ h'.length ∧ ∀ i o, i < h.length → h'[i]? = some o → h[i]? = some o ∨ o.flat = true
open Classical in
noncomputable def gc (h : AH) (o : ER) : ER := match o with
  | .ok d h' => if Keep h h' then (if d.pure = true then .ok d (h'.take h.length) else match d with
      | .ref i => if h.length ≤ i ∧ ∃ o, h'[i]? = some o ∧ o.flat = true then .ok (.ref h.length) (h'.take h.length ++ (h'[i]?).toList) else .ok d h'
      | _ => .ok d h') else .ok d h'
  | r => r
theorem gc_pure {h h' : AH} {d : D} (k : Keep h h') (p : d.pure = true) : gc h (.ok d h') = .ok d (h'.take h.length) := by
  unfold gc
  simp only [if_pos k, if_pos p]
theorem gc_list {h h' : AH} {i : Nat} {o : AO} (k : Keep h h') (hi : h.length ≤ i) (e : h'[i]? = some o) (f : o.flat = true) : gc h (.ok (.ref i) h') = .ok (.ref h.length) (h'.take h.length ++ [o]) := by
  unfold gc
  simp only [if_pos k]
  rw [if_neg (by unfold D.pure; exact Bool.false_ne_true), if_pos ⟨hi, o, e, f⟩, e]
  rfl
/-- the end of a def's body as the end of its call -/
def outS (r : SR) : ER := match r with
  | .rt d h => .ok d h
  | .nx _ h => .ok .non h
  | .exc c fs _ h => .exc c fs h
  | _ => .stuck
/-- a def of N slots, by its body -/
noncomputable def fsem (N : Nat) (m : SM) : List D → AH → ER := fun ds h => gc h (outS (m (ds.map some ++ List.replicate (N - ds.length) none) h))

def PostF (K : PySem.W.Frag) (mg : Str → Option Value) (ι : Nat → Addr) (n : Nat) (H : Hp) (o : ER) (Q : VK) (E : XK) : Prop := match o with
  | .ok d h' => ∀ ι' H' v, Ext ι n H ι' h'.length H' → Rel K ι' h' H' → RD K ι' h'.length H' d v → Q v H'
  | .exc c fs h' => ∀ ι' H' Cl dd, Ext ι n H ι' h'.length H' → Rel K ι' h' H' → mg c = some (.ref Cl) → XD K ι' h'.length H' dd fs → E (.ref Cl) dd H'
  | .stuck => False
/-- the promise of a def that does F -/
def spF (K : PySem.W.Frag) (mg : Str → Option Value) (pl : Nat) (F : List D → AH → ER) : Sp := fun vs H Q E => vs.length = pl ∧ ∃ ι h ds, Rel K ι h H ∧ RDs K ι h.length H ds vs ∧ PostF K mg ι h.length H (F ds h) Q E
section
variable {K : PySem.W.Frag} {mg : Str → Option Value} {ι ι' : Nat → Addr} {H H' : Hp} {h h' : AH} {Q : VK} {E : XK} {o : ER}
theorem PostF.gc (R0 : Rel K ι h H) (p : PostF K mg ι h.length H (Rf.gc h o) Q E) : PostF K mg ι h.length H o Q E := by
  cases o with
  | exc c fs h' => exact p
  | stuck => exact p
  | ok d h' =>
    by_cases k : Keep h h'
    · obtain ⟨kl, kk⟩ := k
      have lt : (h'.take h.length).length = h.length := by rw [List.length_take]; omega
      -- the first things alone
      have cutR : ∀ {ι' : Nat → Addr} {H' : Hp}, Ext ι h.length H ι' h'.length H' → Rel K ι' h' H' → Rel K ι' (h'.take h.length) H' := fun {ι' H'} x R => by
        refine ⟨fun i j hi hj => R.inj i j (by omega) (by omega), fun i o e => ?_⟩
        rw [lt]
        have hi : i < h.length := by have := (List.getElem?_eq_some_iff.mp e).1; omega
        rw [List.getElem?_take_of_lt hi] at e
        refine (R.ob i o e).cut (fun _ _ => rfl) ?_
        rcases kk i o hi e with e0 | f
        · exact (R0.ob i o e0).below
        · exact AO.flat_lt f
      have cutX : ∀ {ι' : Nat → Addr} {H' : Hp}, Ext ι h.length H ι' h'.length H' → Ext ι h.length H ι' h.length H' := fun {ι' H'} x =>
        ⟨Nat.le_refl _, x.ag, fun i h1 h2 => absurd h2 (Nat.not_lt.mpr h1), x.fr, x.st⟩
      by_cases hp : d.pure = true
      · rw [gc_pure ⟨kl, kk⟩ hp] at p
        refine fun ι' H' v x R r => p ι' H' v (by rw [lt]; exact cutX x) (cutR x R) ?_
        rw [lt]
        exact r.cut (fun _ _ => rfl) (D.pure_lt hp)
      · unfold Rf.gc at p
        simp only [if_pos (show Keep h h' from ⟨kl, kk⟩), if_neg hp] at p
        cases d with
        | ref i =>
          dsimp only at p
          by_cases hc : h.length ≤ i ∧ ∃ o, h'[i]? = some o ∧ o.flat = true
          · rw [if_pos hc] at p
            obtain ⟨hi, o, e, f⟩ := hc
            rw [e] at p
            refine fun ι' H' v x R r => ?_
            obtain ⟨hil, rfl⟩ := RD.ref.mp r
            have le : (h'.take h.length ++ [o]).length = h.length + 1 := by rw [List.length_append, lt]; rfl
            have ag : ∀ j, j < h.length → ιset ι' h.length (ι' i) j = ι' j := fun j hj => ιset_lt hj
            refine p (ιset ι' h.length (ι' i)) H' (.ref (ι' i)) ?_ ?_ ?_
            · rw [show (List.take (List.length h) h' ++ (some o).toList) = h'.take h.length ++ [o] from rfl, le]
              refine ⟨Nat.le_succ _, fun j hj => by rw [ag j hj]; exact x.ag j hj, fun j h1 h2 => ?_, x.fr, x.st⟩
              have ej : j = h.length := by omega
              rw [ej, ιset_same]
              exact x.nw i hi hil
            · show Rel K _ (h'.take h.length ++ [o]) H'
              have RT := cutR x R
              refine ⟨fun a b ha hb eab => ?_, fun j o' e' => ?_⟩
              · rw [le] at ha hb
                by_cases h1 : a = h.length
                · by_cases h2 : b = h.length
                  · rw [h1, h2]
                  · rw [h1, ιset_same, ιset_ne h2] at eab
                    have := R.inj i b hil (by omega) eab
                    omega
                · by_cases h2 : b = h.length
                  · rw [h2, ιset_same, ιset_ne h1] at eab
                    have := R.inj a i (by omega) hil eab
                    omega
                  · rw [ιset_ne h1, ιset_ne h2] at eab
                    exact R.inj a b (by omega) (by omega) eab
              · rw [le]
                by_cases h1 : j < h.length
                · rw [List.getElem?_append_left (by omega)] at e'
                  have q := RT.ob j o' e'
                  rw [lt] at q
                  rw [ag j h1]
                  exact RO.mono (H0 := H') ⟨Nat.le_succ _, ag, fun _ _ q => q, fun _ _ q => q⟩ rfl q
                · have ej : j = h.length := by have := (List.getElem?_eq_some_iff.mp e').1; omega
                  subst ej
                  rw [List.getElem?_append_right (by omega), lt] at e'
                  simp only [Nat.sub_self, List.getElem?_cons_zero, Option.some.injEq] at e'
                  subst e'
                  rw [ιset_same]
                  have q := R.ob i o e
                  refine RO.mono (H0 := H') (ι := ι') (n := h.length) ⟨Nat.le_succ _, ag, fun _ _ q => q, fun _ _ q => q⟩ rfl (q.cut (fun _ _ => rfl) (AO.flat_lt f))
            · show RD K _ (h'.take h.length ++ [o]).length H' _ _
              rw [le]
              exact RD.ref.mpr ⟨Nat.lt_succ_self _, by rw [ιset_same]⟩
          · rw [if_neg hc] at p; exact p
        | _ => exact p
    · unfold Rf.gc at p
      simp only [if_neg k] at p
      exact p
end

/-! ### a def -/
/-- the context of a def's body -/
abbrev ctOf (P : Program) (w : World) (K : PySem.W.Frag) (mg : Str → Option Value) (base : Heap) (N : List Str) (qual : Str) (scope : Scope) (f : Addr) (cdv : Value) (A : Around) (outer : List Env) (s : Shared) (H : Hp) (E : XK) : Ct :=
  ⟨cxOf (L2.CX P w) P w K mg base N qual scope f cdv A outer s H E, fun cls d _ H => E cls d H, none⟩
theorem start_re {K : PySem.W.Frag} {ι : Nat → Addr} {n : Nat} {H : Hp} {ds : List D} {vs : List V} (N : Nat) (r : RDs K ι n H ds vs) : RE K ι n H (ds.map some ++ List.replicate (N - ds.length) none) (vs.map some ++ List.replicate (N - vs.length) none) := by
  have hl := r.length
  refine ⟨by simp [hl], fun i d e => ?_⟩
  by_cases hi : i < ds.length
  · rw [List.getElem?_append_left (by simpa using hi), List.getElem?_map] at e
    cases q : ds[i]? with
    | none => rw [q] at e; cases e
    | some d' =>
      rw [q] at e
      have e' : d' = d := by simpa using e
      subst e'
      obtain ⟨v, e2, r2⟩ := r.get q
      exact ⟨v, by rw [List.getElem?_append_left (by simp; omega), List.getElem?_map, e2]; rfl, r2⟩
  · rw [List.getElem?_append_right (by simpa using hi)] at e
    have := List.mem_of_getElem? e
    rw [List.mem_replicate] at this
    cases this.2
theorem fn_ok {P : Program} {w : World} {K : PySem.W.Frag} {mg : Str → Option Value} {base : Heap} {x qual : Str} {st : Stmt} {f : Addr} {fd : FuncData} {N ps : List Str} {k n pl : Nat} {m : SM} (F : Fun K x qual st f fd) (S : FnScope N ps (defScope st)) (hN : N.length = n) (hp : ps.length = pl)
    (hm : ∀ cdv A outer s H E, Room k (A.deeper (envOfC qual (defScope st) s.heap.objs.size f cdv)) → MB (ctOf P w K mg base N qual (defScope st) f cdv A outer s H E) (defBody st) m) :
    FnOk P w K mg base (L2.CX P w) (k + 1) f fd ps (spF K mg pl (fsem n m)) := by
  subst hN hp
  refine F.okX S (fun vs H Q E h => h.1) (fun cdv A outer s H vs Q E hr h => ?_)
  obtain ⟨hl, ι, h, ds, R, r, p⟩ := h
  obtain ⟨t, pt, s1⟩ := hm cdv A outer s H E hr
  refine ⟨t, pt, ?_⟩
  have V : RV (ctOf P w K mg base N qual (defScope st) f cdv A outer s H E) ι h.length H (ds.map some ++ List.replicate (N.length - ds.length) none) (L2.start N vs) := ⟨start_re N.length r, trivial⟩
  refine s1.run _ h _ H ι _ R V ?_
  have q := PostF.gc R p
  cases hq : m (ds.map some ++ List.replicate (N.length - ds.length) none) h with
  | nx e h1 =>
    rw [hq] at q
    exact fun ι' H' σ' x R' V' => q ι' H' .non x R' (RD.non.mpr rfl)
  | rt d h1 => rw [hq] at q; exact q
  | exc c fs e h1 => rw [hq] at q; exact fun ι' H' σ' Cl dd x R' V' mc xd => q ι' H' Cl dd x R' mc xd
  | bk e h1 => rw [hq] at q; exact q.elim
  | ct e h1 => rw [hq] at q; exact q.elim
  | stuck => rw [hq] at q; exact q.elim

/-! ### calls of defs -/
/-- called with n arguments -/
def argn (n : Nat) (F : List D → AH → ER) : List D → AH → ER := fun ds h => if ds.length = n then F ds h else .stuck
section
variable {C : Ct} {k pl : Nat} {f : Addr} {fd : FuncData} {ps : List Str} {F : List D → AH → ER} {x : Str} {p pos : Pos} {e : Expr} {es : List Expr} {ml : LM}
theorem spF.of {ι : Nat → Addr} {h : AH} {H : Hp} {σ : List (Option V)} {ds : List D} {vs : List V} {Q : VK} (R : Rel C.X.K ι h H) (r : RDs C.X.K ι h.length H ds vs) (hl : vs.length = pl) (q : PostE C ι h.length H σ (F ds h) Q) : spF C.X.K C.X.mg pl F vs H Q (WE C.W σ) := by
  refine ⟨hl, ι, h, ds, R, r, ?_⟩
  cases hf : F ds h with
  | ok d h' => rw [hf] at q; exact q
  | exc c fs h' => rw [hf] at q; exact q
  | stuck => rw [hf] at q; exact q
theorem me_call (F0 : FnOk C.X.prog C.X.w C.X.K C.X.mg C.X.base (L2.CX C.X.prog C.X.w) k f fd ps (spF C.X.K C.X.mg pl F)) (hr : Room k C.X.A) (hm : C.X.mg x = some (.ref f)) (hk : PySem.W.keepIn C.X.K (.ref f) = true) (hb : Binds C.X.K fd ps []) (tk : Takes C.X C.W)
    (ha : MA C (e :: es) ml) (hlen : (e :: es).length = pl := by rfl) (hg : Gl C.X x := by rfl) (hdb : (x == ("__debug__" : Str)) = false := by decide) (he : starEach (e :: es) C.X.env = (false, eval e C.X.env) :: starEach es C.X.env := by rfl) (hpl : (backTo pos (starEach es C.X.env)).any (·.1) = false := by rfl) :
    ME C (.Call (.Name x p) (e :: es) [] pos) (eCall (argn pl F) ml) := by
  obtain ⟨t, pa, s⟩ := ha
  refine ⟨_, pe_callSD F0 hr hg hm hk hb (dvs := []) .nil (fun σ => passAt tk σ) pa hdb he hpl, ⟨fun env h σ H ι Q R V q => ?_⟩⟩
  refine s.run env h σ H ι _ R V ?_
  unfold eCall at q
  cases hm : ml env h with
  | ok ds h1 =>
    rw [hm] at q
    refine fun ι' H' vs x R' r => ?_
    show spF C.X.K C.X.mg pl F (vs ++ []) H' Q (WE C.W σ)
    rw [List.append_nil]
    have q2 : PostE C ι h.length H σ (if ds.length = pl then F ds h1 else .stuck) Q := q
    by_cases hd : ds.length = pl
    · rw [if_pos hd] at q2
      exact spF.of R' r (by rw [← r.length]; exact hd) (PostE.shift q2 x)
    · rw [if_neg hd] at q2; exact q2.elim
  | exc c fs h1 => rw [hm] at q; exact q
  | stuck => rw [hm] at q; exact q
end
end Rf

set_option maxHeartbeats 1000000
namespace Rf
open PySem PySem.Spec PyProof.Rows L2

/-! ### values made -/
section
variable {C : Ct} {ι : Nat → Addr} {h : AH} {H : Hp} {σ : List (Option V)} {Q : VK} {ds : List D} {vs : List V} {d : D} {v : V}
theorem PostE.here (p : PostE C ι h.length H σ (.ok d h) Q) (R : Rel C.X.K ι h H) (r : RD C.X.K ι h.length H d v) : Q v H := p ι H v .refl R r
theorem PostE.tup (p : PostE C ι h.length H σ (.ok (.tup ds) h) Q) (R : Rel C.X.K ι h H) (r : RDs C.X.K ι h.length H ds vs) {a : Addr} (ha : H a = none) : Q (.ref a) (upd H a (.tup vs)) := by
  have x : Ext ι h.length H ι h.length (upd H a (.tup vs)) := Ext.tup ha
  exact p ι _ (.ref a) x (R.tup ha x) (RD.tup.mpr ⟨a, vs, rfl, .inl (.inl upd_same), r.mono (x.grow R)⟩)
theorem PostE.lst (p : PostE C ι h.length H σ (.ok (.ref h.length) (h ++ [.lst ds])) Q) (R : Rel C.X.K ι h H) (r : RDs C.X.K ι h.length H ds vs) {a : Addr} (ha : H a = none) : Q (.ref a) (upd H a (.lst vs)) := by
  have el : (h ++ [AO.lst ds]).length = h.length + 1 := by simp
  have x : Ext ι h.length H (ιset ι h.length a) (h.length + 1) (upd H a (.lst vs)) := Ext.new ha
  refine p (ιset ι h.length a) _ (.ref a) (by rw [el]; exact x) (R.new ha fun x => ⟨vs, upd_same, r.mono (x.grow R)⟩) ?_
  rw [el]
  exact RD.ref.mpr ⟨Nat.lt_succ_self _, by rw [ιset_same]⟩
theorem RD.list {K : PySem.W.Frag} (R : Rel K ι h H) {i : Nat} (r : RD K ι h.length H (.ref i) v) (e : h[i]? = some (.lst ds)) : ∃ vs, v = .ref (ι i) ∧ H (ι i) = some (.lst vs) ∧ RDs K ι h.length H ds vs := by
  obtain ⟨_, e2⟩ := RD.ref.mp r
  obtain ⟨vs, e3, r3⟩ := R.ob i _ e
  exact ⟨vs, e2, e3, r3⟩
end
/-- what a value holds as a row that may be read -/
def seqOf (h : AH) : D → Option (List D)
  | .tup ds => some ds
  | .rol ds => some ds
  | .ref i => match h[i]? with
    | some (.lst ds) => some ds
    | _ => none
  | _ => none
/-- .. a list alone -/
def listOf (h : AH) : D → Option (List D)
  | .rol ds => some ds
  | .ref i => match h[i]? with
    | some (.lst ds) => some ds
    | _ => none
  | _ => none
section
variable {K : PySem.W.Frag} {ι : Nat → Addr} {h : AH} {H : Hp} {ds : List D} {d : D} {v : V}
theorem listOf_sq (R : Rel K ι h H) (r : RD K ι h.length H d v) (e : listOf h d = some ds) : ∃ a vs, v = .ref a ∧ SqL K H a vs ∧ RDs K ι h.length H ds vs := by
  cases d with
  | rol es =>
    cases e
    obtain ⟨a, vs, e, q, r⟩ := RD.rol.mp r
    exact ⟨a, vs, e, q.sq, r⟩
  | ref i =>
    simp only [listOf] at e
    cases he : h[i]? with
    | none => rw [he] at e; cases e
    | some o =>
      rw [he] at e
      cases o with
      | lst es =>
        cases e
        obtain ⟨vs, e1, e2, r2⟩ := r.list R he
        exact ⟨_, vs, e1, SqL.of e2, r2⟩
      | _ => cases e
  | _ => cases e
theorem seqOf_sq (R : Rel K ι h H) (r : RD K ι h.length H d v) (e : seqOf h d = some ds) : ∃ a vs, v = .ref a ∧ (SqL K H a vs ∨ SqT K H a vs) ∧ RDs K ι h.length H ds vs := by
  cases d with
  | tup es =>
    cases e
    obtain ⟨a, vs, e, q, r⟩ := RD.tup.mp r
    exact ⟨a, vs, e, .inr q, r⟩
  | rol es =>
    cases e
    obtain ⟨a, vs, e, q, r⟩ := RD.rol.mp r
    exact ⟨a, vs, e, .inl q.sq, r⟩
  | ref i =>
    have e' : listOf h (.ref i) = some ds := e
    obtain ⟨a, vs, e1, q, r⟩ := listOf_sq R r e'
    exact ⟨a, vs, e1, .inl q, r⟩
  | _ => cases e
theorem RDs.ints : ∀ {ns : List Int} {vs : List V} {n : Nat}, RDs K ι n H (ns.map D.int) vs → vs = ns.map V.int
  | [], vs, n, r => RDs.nil.mp r
  | k :: ns, vs, n, r => by
    obtain ⟨v, r', rfl, h1, h2⟩ := RDs.cons.mp r
    rw [RD.int.mp h1, RDs.ints h2]; rfl
theorem RDs.of_ints : ∀ {ns : List Int} {n : Nat}, RDs K ι n H (ns.map D.int) (ns.map V.int)
  | [], n => RDs.nil'
  | k :: ns, n => RDs.cons' (RD.int.mpr rfl) RDs.of_ints
theorem RDs.bls : ∀ {ns : List Bool} {vs : List V} {n : Nat}, RDs K ι n H (ns.map D.bl) vs → vs = ns.map V.bl
  | [], vs, n, r => RDs.nil.mp r
  | k :: ns, vs, n, r => by
    obtain ⟨v, r', rfl, h1, h2⟩ := RDs.cons.mp r
    rw [RD.bl.mp h1, RDs.bls h2]; rfl
theorem RDs.strs : ∀ {ns : List Str} {vs : List V} {n : Nat}, RDs K ι n H (ns.map D.str) vs → vs = ns.map V.str
  | [], vs, n, r => RDs.nil.mp r
  | k :: ns, vs, n, r => by
    obtain ⟨v, r', rfl, h1, h2⟩ := RDs.cons.mp r
    rw [RD.str.mp h1, RDs.strs h2]; rfl
theorem RDs.of_strs : ∀ {ns : List Str} {n : Nat}, RDs K ι n H (ns.map D.str) (ns.map V.str)
  | [], n => RDs.nil'
  | k :: ns, n => RDs.cons' (RD.str.mpr rfl) RDs.of_strs
theorem RDs.atI {n : Nat} {vs : List V} (r : RDs K ι n H ds vs) {i : Int} {d : D} (e : L2.atI ds i = some d) : ∃ v, L2.atI vs i = some v ∧ RD K ι n H d v := by
  unfold L2.atI at e ⊢
  rw [← r.length]
  cases q : L2.ixN ds.length i with
  | none => rw [q] at e; cases e
  | some j =>
    rw [q] at e
    exact r.get e
theorem RDs.cut_ {n : Nat} {vs : List V} (r : RDs K ι n H ds vs) (lo hi : Option Int) : RDs K ι n H ((ds.drop (HT.sIx ds.length 0 lo)).take (HT.sIx ds.length ds.length hi - HT.sIx ds.length 0 lo)) (cutV vs lo hi) := by
  unfold cutV
  rw [← r.length]
  exact (r.drop _).take _
end
/-- the ints of a row -/
def intsOf : List D → Option (List Int)
  | [] => some []
  | .int i :: r => (intsOf r).map (i :: ·)
  | _ => none
theorem intsOf_eq : ∀ {ds : List D} {ns : List Int}, intsOf ds = some ns → ds = ns.map D.int
  | [], ns, e => by cases e; rfl
  | .int i :: r, ns, e => by
    unfold intsOf at e
    cases q : intsOf r with
    | none => rw [q] at e; cases e
    | some ms =>
      rw [q] at e
      cases e
      rw [intsOf_eq q]; rfl
  | .non :: _, _, e => by cases e
  | .bl _ :: _, _, e => by cases e
  | .str _ :: _, _, e => by cases e
  | .ty _ :: _, _, e => by cases e
  | .tup _ :: _, _, e => by cases e
  | .rol _ :: _, _, e => by cases e
  | .ref _ :: _, _, e => by cases e
@[simp] theorem intsOf_map : ∀ ns : List Int, intsOf (ns.map D.int) = some ns
  | [] => rfl
  | k :: ns => by
    show (intsOf (ns.map D.int)).map (k :: ·) = _
    rw [intsOf_map ns]; rfl
def blsOf : List D → Option (List Bool)
  | [] => some []
  | .bl i :: r => (blsOf r).map (i :: ·)
  | _ => none
theorem blsOf_eq : ∀ {ds : List D} {ns : List Bool}, blsOf ds = some ns → ds = ns.map D.bl
  | [], ns, e => by cases e; rfl
  | .bl i :: r, ns, e => by
    unfold blsOf at e
    cases q : blsOf r with
    | none => rw [q] at e; cases e
    | some ms =>
      rw [q] at e
      cases e
      rw [blsOf_eq q]; rfl
  | .non :: _, _, e => by cases e
  | .int _ :: _, _, e => by cases e
  | .str _ :: _, _, e => by cases e
  | .ty _ :: _, _, e => by cases e
  | .tup _ :: _, _, e => by cases e
  | .rol _ :: _, _, e => by cases e
  | .ref _ :: _, _, e => by cases e
@[simp] theorem blsOf_map : ∀ ns : List Bool, blsOf (ns.map D.bl) = some ns
  | [] => rfl
  | k :: ns => by
    show (blsOf (ns.map D.bl)).map (k :: ·) = _
    rw [blsOf_map ns]; rfl
def strsOf : List D → Option (List Str)
  | [] => some []
  | .str i :: r => (strsOf r).map (i :: ·)
  | _ => none
theorem strsOf_eq : ∀ {ds : List D} {ns : List Str}, strsOf ds = some ns → ds = ns.map D.str
  | [], ns, e => by cases e; rfl
  | .str i :: r, ns, e => by
    unfold strsOf at e
    cases q : strsOf r with
    | none => rw [q] at e; cases e
    | some ms =>
      rw [q] at e
      cases e
      rw [strsOf_eq q]; rfl
  | .non :: _, _, e => by cases e
  | .int _ :: _, _, e => by cases e
  | .bl _ :: _, _, e => by cases e
  | .ty _ :: _, _, e => by cases e
  | .tup _ :: _, _, e => by cases e
  | .rol _ :: _, _, e => by cases e
  | .ref _ :: _, _, e => by cases e
@[simp] theorem strsOf_map : ∀ ns : List Str, strsOf (ns.map D.str) = some ns
  | [] => rfl
  | k :: ns => by
    show (strsOf (ns.map D.str)).map (k :: ·) = _
    rw [strsOf_map ns]; rfl

/-! ### + - * // % ** -/
def RepOk (n : Nat) (k : Int) : Prop := -(2 ^ 63) ≤ k ∧ k < 2 ^ 63 ∧ n * k.toNat ≤ sizeLine
noncomputable instance {n : Nat} {k : Int} : Decidable (RepOk n k) := Classical.propDecidable _
def DivOk (j : Int) : Prop := 0 < j ∧ j.natAbs.log2 < 9000
noncomputable instance {j : Int} : Decidable (DivOk j) := Classical.propDecidable _
def PowOk (i j : Int) : Prop := 0 ≤ j ∧ j ≤ 1000000 ∧ i.natAbs < 2 ^ 64
noncomputable instance {i j : Int} : Decidable (PowOk i j) := Classical.propDecidable _
noncomputable def oAdd (a b : D) (h : AH) : ER := match a, b with
  | .int i, .int j => .ok (.int (i + j)) h
  | .str x, .str y => if Fits (x.length + y.length) then .ok (.str (x ++ y)) h else .stuck
  | .tup xs, .tup ys => if Fits (xs.length + ys.length) then .ok (.tup (xs ++ ys)) h else .stuck
  | .ref i, .ref j => (match h[i]?, h[j]? with
    | some (.lst xs), some (.lst ys) => if Fits (xs.length + ys.length) then .ok (.ref h.length) (h ++ [.lst (xs ++ ys)]) else .stuck
    | _, _ => .stuck)
  | _, _ => .stuck
def oSub (a b : D) (h : AH) : ER := match a, b with
  | .int i, .int j => .ok (.int (i - j)) h
  | _, _ => .stuck
noncomputable instance {i j : Int} : Decidable (CMulX i j) := Classical.propDecidable _
noncomputable def oMul (a b : D) (h : AH) : ER := match a, b with
  | .int i, .int j => if CMulX i j then .ok (.int (i * j)) h else .stuck
  | .ref i, .int k => (match h[i]? with
    | some (.lst xs) => if RepOk xs.length k then .ok (.ref h.length) (h ++ [.lst (List.replicate k.toNat xs).flatten]) else .stuck
    | _ => .stuck)
  | _, _ => .stuck
noncomputable def oDiv (a b : D) (h : AH) : ER := match a, b with
  | .int i, .int j => if DivOk j then .ok (.int (i / j)) h else .stuck
  | _, _ => .stuck
def oMod (a b : D) (h : AH) : ER := match a, b with
  | .int i, .int j => if 0 < j then .ok (.int (i % j)) h else .stuck
  | _, _ => .stuck
noncomputable def oPow (a b : D) (h : AH) : ER := match a, b with
  | .int i, .int j => if PowOk i j then .ok (.int (i ^ j.toNat)) h else .stuck
  | _, _ => .stuck
def oNeg (a : D) (h : AH) : ER := match a with
  | .int i => .ok (.int (-i)) h
  | _ => .stuck
section
variable {C : Ct}
abbrev rAddAll (X : Cx) : R2 := fun x y H Q => (rI0 fun i j => V.int (i + j)) x y H Q ∨ (fun (x y : V) (H : Hp) (Q : VK) => ∃ i j, x = .str i ∧ y = .str j ∧ i.length + j.length ≤ sizeLine ∧ Q (.str (i ++ j)) H) x y H Q ∨ rCatA X.K x y H Q ∨ rCat x y H Q
theorem op_addAll {X : Cx} : OpR X (binaryOp .Add) (rAddAll X) := op_add.or (op_add_str.or (op_catA.or op_cat))
theorem os_add : OpS C (rAddAll C.X) oAdd := by
  intro ι h H σ x y d1 d2 Q R r1 r2 p
  unfold oAdd at p
  split at p
  · rename_i i j
    exact .inl ⟨i, j, RD.int.mp r1, RD.int.mp r2, p.here R (RD.int.mpr rfl)⟩
  · rename_i i j
    split at p
    · rename_i hl
      exact .inr (.inl ⟨i, j, RD.str.mp r1, RD.str.mp r2, hl, p.here R (RD.str.mpr rfl)⟩)
    · exact p.elim
  · rename_i xs ys
    split at p
    · rename_i hl
      change _ ≤ sizeLine at hl
      obtain ⟨a, us, rfl, s1, q1⟩ := RD.tup.mp r1
      obtain ⟨b, ws, rfl, s2, q2⟩ := RD.tup.mp r2
      have l1 := q1.length
      have l2 := q2.length
      refine .inr (.inr (.inl ⟨a, b, us, ws, rfl, rfl, s1, s2, by omega, fun e => ?_, fun _ e => ?_, fun _ _ a' ha => p.tup R (q1.append q2) ha⟩))
      · have e1 : xs = [] := List.eq_nil_of_length_eq_zero (by rw [l1, e]; rfl)
        subst e1
        exact p.here R r2
      · have e1 : ys = [] := List.eq_nil_of_length_eq_zero (by rw [l2, e]; rfl)
        subst e1
        rw [List.append_nil] at p
        exact p.here R r1
    · exact p.elim
  · rename_i i j
    split at p
    · rename_i xs ys e1 e2
      split at p
      · rename_i hl
        change _ ≤ sizeLine at hl
        obtain ⟨us, rfl, h1, q1⟩ := r1.list R e1
        obtain ⟨ws, rfl, h2, q2⟩ := r2.list R e2
        have l1 := q1.length
        have l2 := q2.length
        exact .inr (.inr (.inr ⟨_, _, us, ws, rfl, rfl, h1, h2, by omega, fun a ha => p.lst R (q1.append q2) ha⟩))
      · exact p.elim
    · exact p.elim
  · exact p.elim
theorem os_sub : OpS C (rI0 fun i j => .int (i - j)) oSub := by
  intro ι h H σ x y d1 d2 Q R r1 r2 p
  unfold oSub at p
  split at p
  · rename_i i j
    exact ⟨i, j, RD.int.mp r1, RD.int.mp r2, p.here R (RD.int.mpr rfl)⟩
  · exact p.elim
abbrev rMulAll : R2 := fun x y H Q => (rI CMulX fun i j => V.int (i * j)) x y H Q ∨ rRep x y H Q
theorem op_mulAll {X : Cx} : OpR X (binaryOp .Mult) rMulAll := op_mulX.or op_rep
theorem os_mul : OpS C rMulAll oMul := by
  intro ι h H σ x y d1 d2 Q R r1 r2 p
  unfold oMul at p
  split at p
  · rename_i i j
    split at p
    · rename_i hc
      exact .inl ⟨i, j, RD.int.mp r1, RD.int.mp r2, hc, p.here R (RD.int.mpr rfl)⟩
    · exact p.elim
  · rename_i i k
    split at p
    · rename_i xs e1
      split at p
      · rename_i hl
        obtain ⟨us, rfl, h1, q1⟩ := r1.list R e1
        have l1 := q1.length
        exact .inr ⟨_, k, us, rfl, RD.int.mp r2, h1, hl.1, hl.2.1, by rw [← l1]; exact hl.2.2, fun a ha => p.lst R (q1.rep _) ha⟩
      · exact p.elim
    · exact p.elim
  · exact p.elim
theorem os_div : OpS C (rI CDivW fun i j => .int (i / j)) oDiv := by
  intro ι h H σ x y d1 d2 Q R r1 r2 p
  unfold oDiv at p
  split at p
  · rename_i i j
    split at p
    · rename_i hc
      exact ⟨i, j, RD.int.mp r1, RD.int.mp r2, hc, p.here R (RD.int.mpr rfl)⟩
    · exact p.elim
  · exact p.elim
theorem os_mod : OpS C (rI (fun _ j => 0 < j) fun i j => .int (i % j)) oMod := by
  intro ι h H σ x y d1 d2 Q R r1 r2 p
  unfold oMod at p
  split at p
  · rename_i i j
    split at p
    · rename_i hc
      exact ⟨i, j, RD.int.mp r1, RD.int.mp r2, hc, p.here R (RD.int.mpr rfl)⟩
    · exact p.elim
  · exact p.elim
theorem os_pow : OpS C (rI CPow fun i j => .int (i ^ j.toNat)) oPow := by
  intro ι h H σ x y d1 d2 Q R r1 r2 p
  unfold oPow at p
  split at p
  · rename_i i j
    split at p
    · rename_i hc
      exact ⟨i, j, RD.int.mp r1, RD.int.mp r2, hc, p.here R (RD.int.mpr rfl)⟩
    · exact p.elim
  · exact p.elim
theorem us_neg : UnS C (rU fun i => .int (-i)) oNeg := by
  intro ι h H σ x d Q R r p
  unfold oNeg at p
  split at p
  · rename_i i
    exact ⟨i, RD.int.mp r, p.here R (RD.int.mpr rfl)⟩
  · exact p.elim

/-! ### truth -/
noncomputable def oTruth (d : D) (h : AH) : ER := match d with
  | .non => .ok (.bl false) h
  | .bl b => .ok (.bl b) h
  | .int i => .ok (.bl (i != 0)) h
  | .str x => if Fits (x.length) then .ok (.bl ((x.length : Int) != 0)) h else .stuck
  | .tup ds => .ok (.bl (!ds.isEmpty)) h
  | .rol ds => .ok (.bl (!ds.isEmpty)) h
  | .ref i => (match h[i]? with
    | some (.lst ds) => .ok (.bl (!ds.isEmpty)) h
    | some (.dK kvs) => .ok (.bl (!kvs.isEmpty)) h
    | _ => .stuck)
  | _ => .stuck
theorem isEmpty_len {α β : Type} {xs : List α} {ys : List β} (e : xs.length = ys.length) : xs.isEmpty = ys.isEmpty := by
  cases xs <;> cases ys <;> first | rfl | (simp at e)
theorem ts_truth : TruS C oTruth := by
  intro ι h H σ x d Q R r p
  have fin : ∀ {b : Bool}, PostT C ι h.length H σ (.ok (.bl b) h) Q → Q b H := fun {b} p => by
    obtain ⟨b', e, q⟩ := p
    cases e
    exact q ι H .refl R
  unfold oTruth at p
  split at p
  · exact ⟨_, by rw [RD.non.mp r]; exact rfl, fin p⟩
  · exact ⟨_, by rw [RD.bl.mp r]; exact rfl, fin p⟩
  · exact ⟨_, by rw [RD.int.mp r]; exact rfl, fin p⟩
  · split at p
    · rename_i hl
      exact ⟨_, by rw [RD.str.mp r]; exact ⟨hl, rfl⟩, fin p⟩
    · exact p.elim
  · obtain ⟨a, vs, rfl, q, rr⟩ := RD.tup.mp r
    exact ⟨_, .inr (.inl ⟨vs, q, by rw [isEmpty_len rr.length]⟩), fin p⟩
  · obtain ⟨a, vs, rfl, q, rr⟩ := RD.rol.mp r
    exact ⟨_, .inl ⟨vs, q.sq, by rw [isEmpty_len rr.length]⟩, fin p⟩
  · rename_i i
    split at p
    · rename_i ds e
      obtain ⟨vs, rfl, e1, rr⟩ := r.list R e
      exact ⟨_, .inl ⟨vs, SqL.of e1, by rw [isEmpty_len rr.length]⟩, fin p⟩
    · rename_i kvs e
      obtain ⟨_, rfl⟩ := RD.ref.mp r
      obtain ⟨ws, e1, k, rr⟩ := R.ob i _ e
      have : kvs.length = ws.length := by simpa using congrArg List.length k
      exact ⟨_, .inr (.inr ⟨ws, e1, by rw [isEmpty_len this]⟩), fin p⟩
    · exact p.elim
  · exact p.elim
end

/-! ### == -/
/-- data as the library's data, lists within looked up -/
def D.toP (h : AH) : Nat → D → Option PyData
  | _, .non => some .none
  | _, .bl b => some (.bool b)
  | _, .int i => some (.int i)
  | _, .str x => if PyData.strOk x then some (.str x) else none
  | k + 1, .tup ds => (ds.mapM (D.toP h k)).map .tuple
  | k + 1, .rol ds => (ds.mapM (D.toP h k)).map .list
  | k + 1, .ref i => (match h[i]? with
    | some (.lst ds) => (ds.mapM (D.toP h k)).map .list
    | _ => none)
  | _, _ => none
theorem mapM_cons {α β : Type} {f : α → Option β} {a : α} {l : List α} {r : List β} (e : (a :: l).mapM f = some r) : ∃ b r', f a = some b ∧ l.mapM f = some r' ∧ r = b :: r' := by
  rw [List.mapM_cons] at e
  cases h1 : f a with
  | none => rw [h1] at e; cases e
  | some b =>
    rw [h1] at e
    cases h2 : l.mapM f with
    | none => rw [h2] at e; cases e
    | some r' => rw [h2] at e; cases e; exact ⟨b, r', rfl, rfl, rfl⟩
section
variable {K : PySem.W.Frag} {ι : Nat → Addr} {h : AH} {H : Hp}
theorem toP_dp (R : Rel K ι h H) : ∀ (k : Nat) (d : D) (v : V) (p : PyData), RD K ι h.length H d v → d.toP h k = some p → Dp K H v p ∧ p.canLay0 = true ∧ p.depth ≤ k := by
  have many : ∀ (k : Nat), (∀ (d : D) (v : V) (p : PyData), RD K ι h.length H d v → d.toP h k = some p → Dp K H v p ∧ p.canLay0 = true ∧ p.depth ≤ k) →
      ∀ (ds : List D) (vs : List V) (ps : List PyData), RDs K ι h.length H ds vs → ds.mapM (D.toP h k) = some ps → DpAll K H vs ps ∧ PyData.canLayAll0 ps = true ∧ PyData.depthAll ps ≤ k := by
    intro k ih ds
    induction ds with
    | nil =>
      intro vs ps r e
      rw [RDs.nil.mp r]
      rw [List.mapM_nil] at e
      cases e
      exact ⟨.nil, by simp [PyData.canLayAll0], by simp [PyData.depthAll]⟩
    | cons d ds ihd =>
      intro vs ps r e
      obtain ⟨v, r', rfl, h1, h2⟩ := RDs.cons.mp r
      obtain ⟨p, ps', e1, e2, rfl⟩ := mapM_cons e
      obtain ⟨a1, a2, a3⟩ := ih d v p h1 e1
      obtain ⟨b1, b2, b3⟩ := ihd r' ps' h2 e2
      exact ⟨.cons a1 b1, by simp [PyData.canLayAll0, a2, b2], by simp only [PyData.depthAll]; omega⟩
  intro k
  induction k with
  | zero =>
    intro d v p r e
    cases d with
    | non => cases e; rw [RD.non.mp r]; exact ⟨.non, by simp [PyData.canLay0], by simp [PyData.depth]⟩
    | bl b => cases e; rw [RD.bl.mp r]; exact ⟨.bl b, by simp [PyData.canLay0], by simp [PyData.depth]⟩
    | int b => cases e; rw [RD.int.mp r]; exact ⟨.int b, by simp [PyData.canLay0], by simp [PyData.depth]⟩
    | str b =>
      unfold D.toP at e
      split at e
      · rename_i ok
        cases e; rw [RD.str.mp r]; exact ⟨.str b, by simp [PyData.canLay0, ok], by simp [PyData.depth]⟩
      · cases e
    | _ => cases e
  | succ k ih =>
    intro d v p r e
    cases d with
    | non => cases e; rw [RD.non.mp r]; exact ⟨.non, by simp [PyData.canLay0], by simp [PyData.depth]⟩
    | bl b => cases e; rw [RD.bl.mp r]; exact ⟨.bl b, by simp [PyData.canLay0], by simp [PyData.depth]⟩
    | int b => cases e; rw [RD.int.mp r]; exact ⟨.int b, by simp [PyData.canLay0], by simp [PyData.depth]⟩
    | str b =>
      unfold D.toP at e
      split at e
      · rename_i ok
        cases e; rw [RD.str.mp r]; exact ⟨.str b, by simp [PyData.canLay0, ok], by simp [PyData.depth]⟩
      · cases e
    | ty n => cases e
    | tup ds =>
      unfold D.toP at e
      cases q : ds.mapM (D.toP h k) with
      | none => rw [q] at e; cases e
      | some ps =>
        rw [q] at e
        cases e
        obtain ⟨a, vs, rfl, s, rr⟩ := RD.tup.mp r
        obtain ⟨b1, b2, b3⟩ := many k ih ds vs ps rr q
        exact ⟨.tup s b1, by simpa [PyData.canLay0] using b2, by simp only [PyData.depth]; omega⟩
    | rol ds =>
      unfold D.toP at e
      cases q : ds.mapM (D.toP h k) with
      | none => rw [q] at e; cases e
      | some ps =>
        rw [q] at e
        cases e
        obtain ⟨a, vs, rfl, s, rr⟩ := RD.rol.mp r
        obtain ⟨b1, b2, b3⟩ := many k ih ds vs ps rr q
        exact ⟨.lst s.sq b1, by simpa [PyData.canLay0] using b2, by simp only [PyData.depth]; omega⟩
    | ref i =>
      unfold D.toP at e
      cases qi : h[i]? with
      | none => rw [qi] at e; cases e
      | some o =>
        rw [qi] at e
        cases o with
        | lst ds =>
          dsimp only at e
          cases q : ds.mapM (D.toP h k) with
          | none => rw [q] at e; cases e
          | some ps =>
            rw [q] at e
            cases e
            obtain ⟨vs, rfl, s, rr⟩ := r.list R qi
            obtain ⟨b1, b2, b3⟩ := many k ih ds vs ps rr q
            exact ⟨.lst (SqL.of s) b1, by simpa [PyData.canLay0] using b2, by simp only [PyData.depth]; omega⟩
        | _ => cases e
theorem toP_shaped {p : PyData} (h1 : p.canLay0 = true) (h2 : p.depth ≤ 20) : SeqAt.shaped p = true := by
  unfold SeqAt.shaped
  rw [h1, decide_eq_true (by omega : p.depth ≤ 64)]; rfl
end
def oEq (a b : D) (h : AH) : ER := match a.toP h 20, b.toP h 20 with
  | some p, some q => .ok (.bl (PyData.eqv p q)) h
  | _, _ => .stuck
def oNe (a b : D) (h : AH) : ER := match a.toP h 20, b.toP h 20 with
  | some p, some q => .ok (.bl (!PyData.eqv p q)) h
  | _, _ => .stuck
section
variable {C : Ct}
theorem os_eq : OpS C (rEqD C.X.K) oEq := by
  intro ι h H σ x y d1 d2 Q R r1 r2 p
  unfold oEq at p
  split at p
  · rename_i a b e1 e2
    obtain ⟨a1, a2, a3⟩ := toP_dp R _ _ _ _ r1 e1
    obtain ⟨b1, b2, b3⟩ := toP_dp R _ _ _ _ r2 e2
    exact ⟨a, b, a1, b1, toP_shaped a2 a3, toP_shaped b2 b3, p.here R (RD.bl.mpr rfl)⟩
  · exact p.elim
theorem os_ne : OpS C (rNeD C.X.K) oNe := by
  intro ι h H σ x y d1 d2 Q R r1 r2 p
  unfold oNe at p
  split at p
  · rename_i a b e1 e2
    obtain ⟨a1, a2, a3⟩ := toP_dp R _ _ _ _ r1 e1
    obtain ⟨b1, b2, b3⟩ := toP_dp R _ _ _ _ r2 e2
    exact ⟨a, b, a1, b1, toP_shaped a2 a3, toP_shaped b2 b3, p.here R (RD.bl.mpr rfl)⟩
  · exact p.elim
/-- x in l -/
def oIn (a b : D) (h : AH) : ER := match a.toP h 20, listOf h b, b.toP h 20 with
  | some p, some _, some (.list qs) => .ok (.bl (qs.any fun z => PyData.eqv z p)) h
  | _, _, _ => .stuck
def oNotIn (a b : D) (h : AH) : ER := match a.toP h 20, listOf h b, b.toP h 20 with
  | some p, some _, some (.list qs) => .ok (.bl (!qs.any fun z => PyData.eqv z p)) h
  | _, _, _ => .stuck
theorem os_in : OpS C (rInD C.X.K) oIn := by
  intro ι h H σ x y d1 d2 Q R r1 r2 p
  unfold oIn at p
  split at p
  · rename_i a l b e1 e3 e2
    obtain ⟨a1, a2, a3⟩ := toP_dp R _ _ _ _ r1 e1
    obtain ⟨b1, b2, b3⟩ := toP_dp R _ _ _ _ r2 e2
    exact ⟨a, b, a1, b1, toP_shaped a2 a3, toP_shaped b2 b3, p.here R (RD.bl.mpr rfl)⟩
  · exact p.elim
theorem os_notIn : OpS C (rNotInD C.X.K) oNotIn := by
  intro ι h H σ x y d1 d2 Q R r1 r2 p
  unfold oNotIn at p
  split at p
  · rename_i a l b e1 e3 e2
    obtain ⟨a1, a2, a3⟩ := toP_dp R _ _ _ _ r1 e1
    obtain ⟨b1, b2, b3⟩ := toP_dp R _ _ _ _ r2 e2
    exact ⟨a, b, a1, b1, toP_shaped a2 a3, toP_shaped b2 b3, p.here R (RD.bl.mpr rfl)⟩
  · exact p.elim

/-! ### < <= > >=, is None -/
def oLt (a b : D) (h : AH) : ER := match a, b with
  | .int i, .int j => .ok (.bl (decide (i < j))) h
  | .str x, .str y => .ok (.bl (decide (x.cps.toList < y.cps.toList))) h
  | .tup xs, .tup ys => (match intsOf xs, intsOf ys with
    | some ns, some ms => .ok (.bl (HT.lexLt ns ms)) h
    | _, _ => .stuck)
  | _, _ => .stuck
def oLe (a b : D) (h : AH) : ER := match a, b with
  | .int i, .int j => .ok (.bl (decide (i ≤ j))) h
  | .str x, .str y => .ok (.bl (!decide (y.cps.toList < x.cps.toList))) h
  | _, _ => .stuck
def oGt (a b : D) (h : AH) : ER := match a, b with
  | .int i, .int j => .ok (.bl (decide (j < i))) h
  | _, _ => .stuck
def oGe (a b : D) (h : AH) : ER := match a, b with
  | .int i, .int j => .ok (.bl (decide (j ≤ i))) h
  | _, _ => .stuck
abbrev rLtAll (X : Cx) : R2 := fun x y H Q => (rI0 fun i j => V.bl (decide (i < j))) x y H Q ∨ (fun (x y : V) (H : Hp) (Q : VK) => ∃ i j, x = .str i ∧ y = .str j ∧ Q (.bl (decide (i.cps.toList < j.cps.toList))) H) x y H Q ∨ rLtT X.K x y H Q
theorem op_ltAll {X : Cx} (hu : X.A.units < cLine) : OpR X (compareOp .Lt) (rLtAll X) := op_lt.or (op_lt_str.or (op_ltT hu))
theorem os_lt : OpS C (rLtAll C.X) oLt := by
  intro ι h H σ x y d1 d2 Q R r1 r2 p
  unfold oLt at p
  split at p
  · rename_i i j
    exact .inl ⟨i, j, RD.int.mp r1, RD.int.mp r2, p.here R (RD.bl.mpr rfl)⟩
  · rename_i i j
    exact .inr (.inl ⟨i, j, RD.str.mp r1, RD.str.mp r2, p.here R (RD.bl.mpr rfl)⟩)
  · rename_i xs ys
    split at p
    · rename_i ns ms e1 e2
      obtain ⟨a, us, rfl, s1, q1⟩ := RD.tup.mp r1
      obtain ⟨b, ws, rfl, s2, q2⟩ := RD.tup.mp r2
      rw [intsOf_eq e1] at q1
      rw [intsOf_eq e2] at q2
      rw [q1.ints] at s1
      rw [q2.ints] at s2
      exact .inr (.inr ⟨a, b, ns, ms, rfl, rfl, s1, s2, p.here R (RD.bl.mpr rfl)⟩)
    · exact p.elim
  · exact p.elim
abbrev rLeAll : R2 := fun x y H Q => (rI0 fun i j => V.bl (decide (i ≤ j))) x y H Q ∨ (fun (x y : V) (H : Hp) (Q : VK) => ∃ i j, x = .str i ∧ y = .str j ∧ Q (.bl (!decide (j.cps.toList < i.cps.toList))) H) x y H Q
theorem op_leAll {X : Cx} : OpR X (compareOp .LtE) rLeAll := op_le.or op_le_str
theorem os_le : OpS C rLeAll oLe := by
  intro ι h H σ x y d1 d2 Q R r1 r2 p
  unfold oLe at p
  split at p
  · rename_i i j
    exact .inl ⟨i, j, RD.int.mp r1, RD.int.mp r2, p.here R (RD.bl.mpr rfl)⟩
  · rename_i i j
    exact .inr ⟨i, j, RD.str.mp r1, RD.str.mp r2, p.here R (RD.bl.mpr rfl)⟩
  · exact p.elim
theorem os_gt : OpS C (rI0 fun i j => .bl (decide (j < i))) oGt := by
  intro ι h H σ x y d1 d2 Q R r1 r2 p
  unfold oGt at p
  split at p
  · rename_i i j
    exact ⟨i, j, RD.int.mp r1, RD.int.mp r2, p.here R (RD.bl.mpr rfl)⟩
  · exact p.elim
theorem os_ge : OpS C (rI0 fun i j => .bl (decide (j ≤ i))) oGe := by
  intro ι h H σ x y d1 d2 Q R r1 r2 p
  unfold oGe at p
  split at p
  · rename_i i j
    exact ⟨i, j, RD.int.mp r1, RD.int.mp r2, p.here R (RD.bl.mpr rfl)⟩
  · exact p.elim
def D.isNon : D → Bool
  | .non => true
  | _ => false
theorem RD.isNon {K : PySem.W.Frag} {ι : Nat → Addr} {n : Nat} {H : Hp} {d : D} {v : V} (r : RD K ι n H d v) : decide (v = .non) = d.isNon := by
  cases d with
  | non => rw [RD.non.mp r]; rfl
  | bl b => rw [RD.bl.mp r]; rfl
  | int b => rw [RD.int.mp r]; rfl
  | str b => rw [RD.str.mp r]; rfl
  | ty b => rw [RD.ty.mp r]; rfl
  | tup b => obtain ⟨a, vs, rfl, _⟩ := RD.tup.mp r; rfl
  | rol b => obtain ⟨a, vs, rfl, _⟩ := RD.rol.mp r; rfl
  | ref b => obtain ⟨_, rfl⟩ := RD.ref.mp r; rfl
def oIs (a b : D) (h : AH) : ER := match b with
  | .non => .ok (.bl a.isNon) h
  | _ => .stuck
def oIsNot (a b : D) (h : AH) : ER := match b with
  | .non => .ok (.bl (!a.isNon)) h
  | _ => .stuck
theorem os_is : OpS C (fun x y H Q => y = .non ∧ Q (.bl (decide (x = .non))) H) oIs := by
  intro ι h H σ x y d1 d2 Q R r1 r2 p
  unfold oIs at p
  split at p
  · exact ⟨RD.non.mp r2, p.here R (RD.bl.mpr (by rw [r1.isNon]))⟩
  · exact p.elim
theorem os_isNot : OpS C (fun x y H Q => y = .non ∧ Q (.bl (!decide (x = .non))) H) oIsNot := by
  intro ι h H σ x y d1 d2 Q R r1 r2 p
  unfold oIsNot at p
  split at p
  · exact ⟨RD.non.mp r2, p.here R (RD.bl.mpr (by rw [r1.isNon]))⟩
  · exact p.elim

/-! ### items, slices -/
noncomputable def oIx (a b : D) (h : AH) : ER := match b with
  | .int i => (match a with
    | .str z => if Fits (z.length) then (match L2.atI z.cps.toList i with
      | some c => .ok (.str ⟨#[c]⟩) h
      | none => .stuck) else .stuck
    | a => (match seqOf h a with
      | some ds => (match L2.atI ds i with
        | some d => .ok d h
        | none => .stuck)
      | none => .stuck))
  | _ => .stuck
theorem os_ix : OpS C (rIx C.X.K) oIx := by
  intro ι h H σ x y d1 d2 Q R r1 r2 p
  unfold oIx at p
  split at p
  · rename_i i
    cases RD.int.mp r2
    split at p
    · rename_i z
      cases RD.str.mp r1
      split at p
      · rename_i hl
        split at p
        · rename_i c e
          exact .inr (.inr ⟨z, i, c, rfl, rfl, hl, e, p.here R (RD.str.mpr rfl)⟩)
        · exact p.elim
      · exact p.elim
    · split at p
      · rename_i ds e
        split at p
        · rename_i d e2
          obtain ⟨a, vs, rfl, s, rr⟩ := seqOf_sq R r1 e
          obtain ⟨v, e3, r3⟩ := rr.atI e2
          have q := p.here R r3
          rcases s with s | s
          · exact .inl ⟨a, vs, i, v, rfl, rfl, s, e3, q⟩
          · exact .inr (.inl ⟨a, vs, i, v, rfl, rfl, s, e3, q⟩)
        · exact p.elim
      · exact p.elim
  · exact p.elim
theorem me_ix {a b : Expr} {ma mb : EM} {pos : Pos} {r : R2} {g : D → D → AH → ER} (hr : IxR C.X r) (hs : OpS C r g) (ha : ME C a ma) (hb : ME C b mb) (hp : PlainIx b := by exact fun _ _ => rfl) : ME C (.Subscript a b pos) (eOp g ma mb) := by
  obtain ⟨ta, pa, sa⟩ := ha
  obtain ⟨tb, pb, sb⟩ := hb
  exact ⟨_, pe_ix hr pa pb hp, sa.op sb hs⟩
/-- a part of a slice -/
def MO (C : Ct) (e : Option Expr) (m : Option EM) : Prop := match m with
  | none => e = none
  | some m => ∃ a, e = some a ∧ ME C a m
def cutD (ds : List D) (lo hi : Option Int) : List D := (ds.drop (HT.sIx ds.length 0 lo)).take (HT.sIx ds.length ds.length hi - HT.sIx ds.length 0 lo)
noncomputable def oSl (a : D) (lo hi : Option Int) (h : AH) : ER := match a with
  | .str z => if Fits (z.length) then .ok (.str (cutS z lo hi)) h else .stuck
  | .tup ds => .ok (.tup (cutD ds lo hi)) h
  | a => (match listOf h a with
    | some ds => .ok (.ref h.length) (h ++ [.lst (cutD ds lo hi)])
    | none => .stuck)
def ePart (m : Option EM) (env : AE) (h : AH) (f : Option Int → AH → ER) : ER := match m with
  | none => f none h
  | some m => (m env h).then fun d h1 => match d with
    | .int i => f (some i) h1
    | _ => .stuck
noncomputable def eSl (a : EM) (lo hi : Option EM) : EM := fun env h => (a env h).then fun d h1 => ePart lo env h1 fun l h2 => ePart hi env h2 fun u h3 => oSl d l u h3
theorem MO.po {e : Option Expr} {m : Option EM} (hm : MO C e m) : ∃ t, PO C.X e t ∧ ∀ (env : AE) (h : AH) (σ : List (Option V)) (H : Hp) (ι : Nat → Addr) (f : Option Int → AH → ER) (Q : VK) (Q' : Option Int → Hp → Prop), Rel C.X.K ι h H → RV C ι h.length H env σ → PostE C ι h.length H σ (ePart m env h f) Q →
    (∀ i h' ι' H', Ext ι h.length H ι' h'.length H' → Rel C.X.K ι' h' H' → RV C ι' h'.length H' env σ → PostE C ι' h'.length H' σ (f i h') Q → Q' i H') → t σ H Q' := by
  cases m with
  | none =>
    have e' : e = none := hm
    subst e'
    exact ⟨_, po_none, fun env h σ H ι f Q Q' R V p k => k none h ι H .refl R V p⟩
  | some m =>
    obtain ⟨a, rfl, ta, pa, sa⟩ := hm
    refine ⟨_, po_some pa, fun env h σ H ι f Q Q' R V p k => ?_⟩
    refine sa.then R V p fun d h1 ι1 H1 v x1 R1 V1 r1 p1 => ?_
    cases d with
    | int i => exact ⟨i, RD.int.mp r1, k (some i) h1 ι1 H1 x1 R1 V1 p1⟩
    | _ => exact (show False from p1).elim
theorem me_slice {a : Expr} {lo hi : Option Expr} {ma : EM} {ml mh : Option EM} {p2 pos : Pos} (ha : ME C a ma) (hl : MO C lo ml) (hh : MO C hi mh) : ME C (.Subscript a (.Slice lo hi none p2) pos) (eSl ma ml mh) := by
  obtain ⟨ta, pa, sa⟩ := ha
  obtain ⟨tl, pl, sl⟩ := hl.po
  obtain ⟨th, ph, sh⟩ := hh.po
  refine ⟨_, pe_slice (sl_list.or (sl_tupA.or sl_str)) pa pl ph, ⟨fun env h σ H ι Q R V p => ?_⟩⟩
  refine sa.then R V p fun d h1 ι1 H1 v x1 R1 V1 r1 p1 => ?_
  refine sl env h1 σ H1 ι1 _ Q _ R1 V1 p1 fun l h2 ι2 H2 x2 R2 V2 p2 => ?_
  refine sh env h2 σ H2 ι2 _ Q _ R2 V2 p2 fun u h3 ι3 H3 x3 R3 V3 p3 => ?_
  have r3 := r1.mono ((x2.trans x3).grow R1)
  unfold oSl at p3
  split at p3
  · rename_i z
    split at p3
    · rename_i hz
      exact .inr (.inr ⟨z, RD.str.mp r3, hz, p3.here R3 (RD.str.mpr rfl)⟩)
    · exact p3.elim
  · rename_i ds
    obtain ⟨b, vs, rfl, s, rr⟩ := RD.tup.mp r3
    refine .inr (.inl ⟨b, vs, rfl, s, fun e => ?_, fun _ a' ha => p3.tup R3 (rr.cut_ l u) ha⟩)
    have e1 : cutD ds l u = ds := by
      unfold cutD
      rw [rr.length, e.1, e.2]
      simp only [List.drop_zero, Nat.sub_zero]
      rw [← rr.length]
      exact List.take_length
    rw [e1] at p3
    exact p3.here R3 r3
  · split at p3
    · rename_i ds e
      obtain ⟨b, vs, rfl, s, rr⟩ := listOf_sq R3 r3 e
      exact .inl ⟨b, vs, rfl, s, fun a' ha => p3.lst R3 (rr.cut_ l u) ha⟩
    · exact p3.elim
end
end Rf

set_option maxHeartbeats 1000000
namespace Rf
open PySem PySem.Spec PyProof.Rows L2

/-! ### what is walked -/
def RgB (j : Int) : Prop := -(2 ^ 62) ≤ j ∧ j < 2 ^ 62
noncomputable instance {j : Int} : Decidable (RgB j) := Classical.propDecidable _
def RgB2 (i j : Int) : Prop := -(2 ^ 62) ≤ i ∧ i < 2 ^ 62 ∧ -(2 ^ 62) ≤ j ∧ j < 2 ^ 62
noncomputable instance {i j : Int} : Decidable (RgB2 i j) := Classical.propDecidable _
/-- a row that stands still -/
def stat (ds : List D) : AIt := ⟨ds.length, fun i _ => some ds[i]?⟩
/-- the list number r, as it stands -/
def live (r n : Nat) : AIt := ⟨n, fun i h => match h[r]? with
  | some (.lst ds) => some ds[i]?
  | _ => none⟩
def signs (x : Str) : List D := x.cps.toList.map fun c => .str ⟨#[c]⟩
def iVal (m : EM) : IM := fun e h => match m e h with
  | .ok (.tup ds) h1 => .ok (stat ds) h1
  | .ok (.rol ds) h1 => .ok (stat ds) h1
  | .ok (.str x) h1 => .ok (stat (signs x)) h1
  | .ok (.ref r) h1 => (match h1[r]? with
    | some (.lst ds) => .ok (live r ds.length) h1
    | _ => .stuck)
  | .ok _ _ => .stuck
  | .exc c fs h1 => .exc c fs h1
  | .stuck => .stuck
/-- lo, lo + 1, .. (n of them) -/
def rg (lo : Int) (n : Nat) : List D := (List.range n).map fun i => .int (lo + (i : Nat))
noncomputable def iRange1 (l : LM) : IM := fun e h => match l e h with
  | .ok [.int j] h1 => if RgB j then .ok (stat (rg 0 j.toNat)) h1 else .stuck
  | .ok _ _ => .stuck
  | .exc c fs h1 => .exc c fs h1
  | .stuck => .stuck
noncomputable def iRange2 (l : LM) : IM := fun e h => match l e h with
  | .ok [.int i, .int j] h1 => if RgB2 i j then .ok (stat (rg i (j - i).toNat)) h1 else .stuck
  | .ok _ _ => .stuck
  | .exc c fs h1 => .exc c fs h1
  | .stuck => .stuck
/-- reversed(range(..)) -/
noncomputable def iRevRange1 (l : LM) : IM := fun e h => match l e h with
  | .ok [.int j] h1 => if RgB j then .ok (stat (rg 0 j.toNat).reverse) h1 else .stuck
  | .ok _ _ => .stuck
  | .exc c fs h1 => .exc c fs h1
  | .stuck => .stuck
section
variable {K : PySem.W.Frag} {ι : Nat → Addr} {n : Nat} {h : AH} {H : Hp} {ds : List D} {vs : List V} {a : Addr}
theorem itr_stat {J : It} (k : ∀ i ι' h' H', Ext ι n H ι' h'.length H' → Rel K ι' h' H' → (ds[i]? = none → J.stop i H') ∧ ∀ d, ds[i]? = some d → J.go i H' ∧ ∀ x H2, J.yld i H' x H2 → ∃ ι2, Ext ι' h'.length H' ι2 h'.length H2 ∧ Rel K ι2 h' H2 ∧ RD K ι2 h'.length H2 d x) : ItR K J (stat ds) ι n H := by
  intro i ι' h' H' x R
  obtain ⟨k1, k2⟩ := k i ι' h' H' x R
  exact ⟨fun e => k1 (by simpa [stat] using e), fun d e => k2 d (by simpa [stat] using e)⟩
theorem itr_tup (R0 : Rel K ι h H) (q : SqT K H a vs) (r : RDs K ι h.length H ds vs) : ItR K (Itt K a) (stat ds) ι h.length H := by
  refine itr_stat fun i ι' h' H' x R => ⟨fun e => ⟨vs, R0.sqT x q, by rw [← r.length]; exact List.getElem?_eq_none_iff.mp e⟩, fun d e => ?_⟩
  obtain ⟨v, ev, rv⟩ := r.get e
  refine ⟨⟨vs, v, R0.sqT x q, ev⟩, fun y H2 hy => ?_⟩
  obtain ⟨rfl, hy⟩ := hy
  have e2 := hy vs (R0.sqT x q)
  rw [ev] at e2; cases e2
  exact ⟨ι', .refl, R, rv.mono (x.grow R0)⟩
theorem itr_rol (R0 : Rel K ι h H) (q : RoL K H a vs) (r : RDs K ι h.length H ds vs) : ItR K (Itl K a) (stat ds) ι h.length H := by
  refine itr_stat fun i ι' h' H' x R => ⟨fun e => ⟨vs, (R0.roL x q).sq, by rw [← r.length]; exact List.getElem?_eq_none_iff.mp e⟩, fun d e => ?_⟩
  obtain ⟨v, ev, rv⟩ := r.get e
  refine ⟨⟨vs, v, (R0.roL x q).sq, ev⟩, fun y H2 hy => ?_⟩
  obtain ⟨rfl, hy⟩ := hy
  have e2 := hy vs (R0.roL x q).sq
  rw [ev] at e2; cases e2
  exact ⟨ι', .refl, R, rv.mono (x.grow R0)⟩
theorem itr_live {r m : Nat} (hr : r < n) : ItR K (Itl K (ι r)) (live r m) ι n H := by
  intro i ι' h' H' x R
  have eι := x.ag r hr
  unfold live
  dsimp only
  cases q : h'[r]? with
  | none => exact ⟨(fun z => nomatch z), (fun d z => nomatch z)⟩
  | some o =>
    cases o with
    | lst ds =>
      obtain ⟨vs, e1, rr⟩ := R.ob r _ q
      rw [eι] at e1
      refine ⟨fun e => ⟨vs, SqL.of e1, by rw [← rr.length]; exact List.getElem?_eq_none_iff.mp (Option.some.inj e)⟩, fun d e => ?_⟩
      obtain ⟨v, ev, rv⟩ := rr.get (Option.some.inj e)
      refine ⟨⟨vs, v, SqL.of e1, ev⟩, fun y H2 hy => ?_⟩
      obtain ⟨rfl, hy⟩ := hy
      have e2 := hy vs (SqL.of e1)
      rw [ev] at e2; cases e2
      exact ⟨ι', .refl, R, rv⟩
    | dK _ => exact ⟨(fun z => nomatch z), (fun d z => nomatch z)⟩
    | dT _ => exact ⟨(fun z => nomatch z), (fun d z => nomatch z)⟩
theorem itr_str {x : Str} : ItR K (Its x) (stat (signs x)) ι n H := by
  refine itr_stat fun i ι' h' H' y R => ?_
  unfold signs
  rw [List.getElem?_map, Array.getElem?_toList]
  refine ⟨fun e => ?_, fun d e => ?_⟩
  · cases q : x.cps[i]? with
    | none => exact Array.getElem?_eq_none_iff.mp q
    | some c => rw [q] at e; cases e
  · cases q : x.cps[i]? with
    | none => rw [q] at e; cases e
    | some c =>
      rw [q] at e
      cases e
      refine ⟨(Array.getElem?_eq_some_iff.mp q).1, fun z H2 hz => ?_⟩
      obtain ⟨rfl, c', ec, rfl⟩ := hz
      rw [q] at ec; cases ec
      exact ⟨ι', .refl, R, RD.str.mpr rfl⟩
theorem rg_get {lo : Int} {n i : Nat} : (rg lo n)[i]? = if i < n then some (.int (lo + (i : Nat))) else none := by
  unfold rg
  rw [List.getElem?_map]
  by_cases hi : i < n
  · rw [if_pos hi, List.getElem?_range hi]; rfl
  · rw [if_neg hi, List.getElem?_eq_none (by simpa using hi)]; rfl
theorem itr_range {lo : Int} {m : Nat} : ItR K (Itr lo m) (stat (rg lo m)) ι n H := by
  refine itr_stat fun i ι' h' H' y R => ?_
  rw [rg_get]
  by_cases hi : i < m
  · rw [if_pos hi]
    refine ⟨(fun z => nomatch z), fun d e => ?_⟩
    cases e
    refine ⟨hi, fun z H2 hz => ?_⟩
    obtain ⟨rfl, rfl⟩ := hz
    exact ⟨ι', .refl, R, RD.int.mpr rfl⟩
  · rw [if_neg hi]
    exact ⟨fun _ => Nat.not_lt.mp hi, (fun d z => nomatch z)⟩
theorem rg_length {lo : Int} {n : Nat} : (rg lo n).length = n := by unfold rg; simp
theorem itr_revRange {m : Nat} : ItR K (Itc ((m : Int) - 1) (-1) m) (stat (rg 0 m).reverse) ι n H := by
  refine itr_stat fun i ι' h' H' y R => ?_
  by_cases hi : i < m
  · rw [List.getElem?_reverse (by rw [rg_length]; exact hi), rg_length, rg_get, if_pos (by omega)]
    refine ⟨(fun z => nomatch z), fun d e => ?_⟩
    cases e
    refine ⟨hi, fun z H2 hz => ?_⟩
    obtain ⟨rfl, rfl⟩ := hz
    exact ⟨ι', .refl, R, RD.int.mpr (by congr 1; omega)⟩
  · rw [List.getElem?_eq_none (by rw [List.length_reverse, rg_length]; exact Nat.not_lt.mp hi)]
    exact ⟨fun _ => Nat.not_lt.mp hi, (fun d z => nomatch z)⟩
end
theorem PI.or {X : Cx} {tg e : Expr} {t u : TI} (h1 : PI X tg e t) (h2 : PI X tg e u) : PI X tg e (fun σ H R => t σ H R ∨ u σ H R) :=
  ⟨fun pins s σ H R I q => q.elim (h1.run pins s σ H R I) (h2.run pins s σ H R I)⟩
section
variable {C : Ct} {tg a b : Expr} {m : EM} {ml : LM} {p pos : Pos}
theorem PostI.here {ι : Nat → Addr} {n : Nat} {h' : AH} {H H' : Hp} {σ : List (Option V)} {it : AIt} {Q : It → Hp → Prop} {J : It} {ι' : Nat → Addr} (p : PostI C ι n H σ (.ok it h') Q) (x : Ext ι n H ι' h'.length H') (R : Rel C.X.K ι' h' H') (j : ItR C.X.K J it ι' h'.length H') : Q J H' := p ι' H' J x R j
theorem mi_val (ha : ME C a m) : MI C tg a (iVal m) := by
  obtain ⟨t, pa, sa⟩ := ha
  refine ⟨_, PI.or (pi_list pa) (PI.or (pi_tup pa) (pi_str pa)), ⟨fun env h σ H ι Q R V p => ?_⟩⟩
  unfold iVal at p
  cases hm : m env h with
  | exc c fs h1 =>
    rw [hm] at p
    exact .inl (sa.run env h σ H ι _ R V (by rw [hm]; exact p))
  | stuck => rw [hm] at p; exact p.elim
  | ok d h1 =>
    rw [hm] at p
    have ru : ∀ {Q' : VK}, (∀ ι' H' v, Ext ι h.length H ι' h1.length H' → Rel C.X.K ι' h1 H' → RD C.X.K ι' h1.length H' d v → Q' v H') → t σ H Q' := fun {Q'} k => sa.run env h σ H ι _ R V (by rw [hm]; exact k)
    cases d with
    | tup ds =>
      refine .inr (.inl (ru fun ι' H' v x R' r => ?_))
      obtain ⟨a, vs, rfl, s, rr⟩ := RD.tup.mp r
      exact ⟨a, rfl, ⟨vs, s⟩, p.here x R' (itr_tup R' s rr)⟩
    | rol ds =>
      refine .inl (ru fun ι' H' v x R' r => ?_)
      obtain ⟨a, vs, rfl, s, rr⟩ := RD.rol.mp r
      exact ⟨a, rfl, ⟨vs, s.sq⟩, p.here x R' (itr_rol R' s rr)⟩
    | str z =>
      refine .inr (.inr (ru fun ι' H' v x R' r => ?_))
      exact ⟨z, RD.str.mp r, p.here x R' itr_str⟩
    | ref r0 =>
      dsimp only at p
      cases q : h1[r0]? with
      | none => rw [q] at p; exact p.elim
      | some o =>
        rw [q] at p
        cases o with
        | lst ds =>
          refine .inl (ru fun ι' H' v x R' r => ?_)
          obtain ⟨vs, rfl, e1, rr⟩ := r.list R' q
          exact ⟨_, rfl, ⟨vs, SqL.of e1⟩, p.here x R' (itr_live (RD.ref.mp r).1)⟩
        | _ => exact (show False from p).elim
    | _ => exact (show False from p).elim
theorem SimL.int1 {t : TA} (s : SimL C t ml) {env : AE} {h : AH} {σ : List (Option V)} {H : Hp} {ι : Nat → Addr} {f : Int → AH → IR} {Q : It → Hp → Prop} {Q' : List V → Hp → Prop} (R : Rel C.X.K ι h H) (V : RV C ι h.length H env σ)
    (p : PostI C ι h.length H σ (match ml env h with | .ok [.int j] h1 => f j h1 | .ok _ _ => .stuck | .exc c fs h1 => .exc c fs h1 | .stuck => .stuck) Q)
    (k : ∀ j h1 ι' H', ml env h = .ok [.int j] h1 → Ext ι h.length H ι' h1.length H' → Rel C.X.K ι' h1 H' → PostI C ι h.length H σ (f j h1) Q → Q' [.int j] H') : t σ H Q' := by
  refine s.run env h σ H ι _ R V ?_
  cases hm : ml env h with
  | exc c fs h1 => rw [hm] at p; exact p
  | stuck => rw [hm] at p; exact p
  | ok ds h1 =>
    rw [hm] at p
    match ds, p with
    | [.int j], p =>
      refine fun ι' H' vs x R' r => ?_
      obtain ⟨v, r', rfl, q1, q2⟩ := RDs.cons.mp r
      cases RDs.nil.mp q2
      cases RD.int.mp q1
      exact k j h1 ι' H' hm x R' p
    | [], p => exact (show False from p).elim
    | .non :: _, p => exact (show False from p).elim
    | .bl _ :: _, p => exact (show False from p).elim
    | .str _ :: _, p => exact (show False from p).elim
    | .ty _ :: _, p => exact (show False from p).elim
    | .tup _ :: _, p => exact (show False from p).elim
    | .rol _ :: _, p => exact (show False from p).elim
    | .ref _ :: _, p => exact (show False from p).elim
    | .int _ :: _ :: _, p => exact (show False from p).elim
theorem mi_range1 (hm : C.X.mg "range" = none) (ha : MA C [a] ml) (hg : Gl C.X "range" := by rfl) (hs : starEach [a] C.X.env = [(false, eval a C.X.env)] := by rfl) : MI C tg (.Call (.Name "range" p) [a] [] pos) (iRange1 ml) := by
  obtain ⟨t, pa, sa⟩ := ha
  refine ⟨_, pi_range1 hg hm pa hs, ⟨fun env h σ H ι Q R V p => ?_⟩⟩
  refine sa.int1 (f := fun j h1 => if RgB j then .ok (stat (rg 0 j.toNat)) h1 else .stuck) R V (by unfold iRange1 at p; exact p) fun j h1 ι' H' hm x R' p => ?_
  by_cases hj : RgB j
  · rw [if_pos hj] at p
    exact ⟨j, rfl, hj.1, hj.2, p.here x R' itr_range⟩
  · rw [if_neg hj] at p; exact p.elim
theorem mi_range2 (hm : C.X.mg "range" = none) (ha : MA C [a, b] ml) (hg : Gl C.X "range" := by rfl) (hs : starEach [a, b] C.X.env = [(false, eval a C.X.env), (false, eval b C.X.env)] := by rfl) (hs2 : starEach [b] C.X.env = [(false, eval b C.X.env)] := by rfl) : MI C tg (.Call (.Name "range" p) [a, b] [] pos) (iRange2 ml) := by
  obtain ⟨t, pa, sa⟩ := ha
  refine ⟨_, pi_range2 hg hm pa hs hs2, ⟨fun env h σ H ι Q R V p => ?_⟩⟩
  refine sa.run env h σ H ι _ R V ?_
  unfold iRange2 at p
  cases hm : ml env h with
  | exc c fs h1 => rw [hm] at p; exact p
  | stuck => rw [hm] at p; exact p
  | ok ds h1 =>
    rw [hm] at p
    split at p
    · rename_i i j h1' e
      injection e with e1 e2
      subst e1 e2
      by_cases hj : RgB2 i j
      · rw [if_pos hj] at p
        refine fun ι' H' vs x R' r => ?_
        obtain ⟨v, r', rfl, q1, q2⟩ := RDs.cons.mp r
        obtain ⟨v2, r2, rfl, q3, q4⟩ := RDs.cons.mp q2
        cases RDs.nil.mp q4
        cases RD.int.mp q1
        cases RD.int.mp q3
        exact ⟨i, j, rfl, hj, p.here x R' itr_range⟩
      · rw [if_neg hj] at p; exact p.elim
    · exact p.elim
    · rename_i e; cases e
    · rename_i e; cases e
theorem mi_revRange1 {p2 pos2 : Pos} {ma : EM} (hmr : C.X.mg "reversed" = none) (hm : C.X.mg "range" = none) (ha : ME C a ma) (hgr : Gl C.X "reversed" := by rfl) (hg : Gl C.X "range" := by rfl) (na : starEach [a] C.X.env = (false, eval a C.X.env) :: starEach [] C.X.env := by rfl)
    (hs : starEach [.Call (.Name "range" p) [a] [] pos] C.X.env = (false, eval (.Call (.Name "range" p) [a] [] pos) C.X.env) :: starEach [] C.X.env := by rfl) : MI C tg (.Call (.Name "reversed" p2) [.Call (.Name "range" p) [a] [] pos] [] pos2) (iRevRange1 (lCons ma lNil)) := by
  obtain ⟨t, pa, sa⟩ := ha
  refine ⟨_, pi_revR hgr hmr (prg_1 hg hm pa na) hs, ⟨fun env h σ H ι Q R V p => ?_⟩⟩
  refine sa.run env h σ H ι _ R V ?_
  unfold iRevRange1 lCons lNil at p
  cases hm : ma env h with
  | exc c fs h1 => rw [hm] at p; exact p
  | stuck => rw [hm] at p; exact p
  | ok d h1 =>
    rw [hm] at p
    dsimp only at p
    cases d with
    | int j =>
      dsimp only at p
      by_cases hj : RgB j
      · rw [if_pos hj] at p
        refine fun ι' H' v x R' r => ⟨j, RD.int.mp r, by omega, by omega, hj.1, hj.2, ?_⟩
        have e : (0 : Int) + (((j - 0).toNat : Nat) : Int) - 1 = ((j.toNat : Nat) : Int) - 1 := by rw [Int.sub_zero]; omega
        have e2 : (j - 0).toNat = j.toNat := by rw [Int.sub_zero]
        rw [e, e2]
        exact p.here x R' itr_revRange
      · rw [if_neg hj] at p; exact p.elim
    | _ => exact (show False from p).elim
end

/-! ### displays -/
noncomputable def eTup (l : LM) : EM := fun env h => (l env h).then fun ds h1 => if Fits (ds.length) then .ok (.tup ds) h1 else .stuck
noncomputable def eLst (l : LM) : EM := fun env h => (l env h).then fun ds h1 => if Fits (ds.length) then .ok (.ref h1.length) (h1 ++ [.lst ds]) else .stuck
section
variable {C : Ct} {es : List Expr} {ml : LM} {pos : Pos}
theorem SimL.then {t : TA} (s : SimL C t ml) {env : AE} {h : AH} {σ : List (Option V)} {H : Hp} {ι : Nat → Addr} {f : List D → AH → ER} {Q : VK} {Q' : List V → Hp → Prop} (R : Rel C.X.K ι h H) (V : RV C ι h.length H env σ)
    (p : PostE C ι h.length H σ ((ml env h).then f) Q)
    (k : ∀ ds h1 ι' H' vs, Ext ι h.length H ι' h1.length H' → Rel C.X.K ι' h1 H' → RV C ι' h1.length H' env σ → RDs C.X.K ι' h1.length H' ds vs → PostE C ι' h1.length H' σ (f ds h1) Q → Q' vs H') : t σ H Q' := by
  refine s.run env h σ H ι _ R V ?_
  cases hm : ml env h with
  | exc c fs h1 => rw [hm] at p; exact p
  | stuck => rw [hm] at p; exact p
  | ok ds h1 =>
    rw [hm] at p
    exact fun ι' H' vs x R' r => k ds h1 ι' H' vs x R' (V.ext R x) r (PostE.shift p x)
theorem me_tup {x1 : Nat} (ha : MA C es ml) : ME C (.Tuple es x1 pos) (eTup ml) := by
  obtain ⟨t, pa, sa⟩ := ha
  refine ⟨_, pe_tup pa, ⟨fun env h σ H ι Q R V p => ?_⟩⟩
  refine sa.then R V p fun ds h1 ι' H' vs x R' V' r p => ?_
  by_cases hl : Fits ds.length
  · rw [if_pos hl] at p
    exact ⟨by rw [← r.length]; exact hl, fun a ha => p.tup R' r ha⟩
  · rw [if_neg hl] at p; exact p.elim
theorem me_lst (ha : MA C es ml) : ME C (.List es pos) (eLst ml) := by
  obtain ⟨t, pa, sa⟩ := ha
  refine ⟨_, pe_lst pa, ⟨fun env h σ H ι Q R V p => ?_⟩⟩
  refine sa.then R V p fun ds h1 ι' H' vs x R' V' r p => ?_
  by_cases hl : Fits ds.length
  · rw [if_pos hl] at p
    exact ⟨by rw [← r.length]; exact hl, fun a ha => p.lst R' r ha⟩
  · rw [if_neg hl] at p; exact p.elim
end

/-! ### built-in functions, by values -/
noncomputable def cLen (ds : List D) (h : AH) : ER := match ds with
  | [.str x] => if Fits (x.length) then .ok (.int x.length) h else .stuck
  | [.ref i] => (match h[i]? with
    | some (.lst es) => .ok (.int es.length) h
    | some (.dK kvs) => .ok (.int kvs.length) h
    | _ => .stuck)
  | [.tup es] => .ok (.int es.length) h
  | [.rol es] => .ok (.int es.length) h
  | _ => .stuck
def cMax2 (ds : List D) (h : AH) : ER := match ds with
  | [.int i, .int j] => .ok (.int (if j > i then j else i)) h
  | _ => .stuck
def cMin2 (ds : List D) (h : AH) : ER := match ds with
  | [.int i, .int j] => .ok (.int (if j < i then j else i)) h
  | _ => .stuck
def cAbs (ds : List D) (h : AH) : ER := match ds with
  | [.int i] => .ok (.int (if i < 0 then -i else i)) h
  | _ => .stuck
def cInt (ds : List D) (h : AH) : ER := match ds with
  | [.int i] => .ok (.int i) h
  | [.bl b] => .ok (.int (if b then 1 else 0)) h
  | _ => .stuck
def cSum (ds : List D) (h : AH) : ER := match ds with
  | [d] => (match listOf h d with
    | some es => (match intsOf es with
      | some ns => .ok (.int ns.sum) h
      | none => .stuck)
    | none => .stuck)
  | _ => .stuck
def cAny (ds : List D) (h : AH) : ER := match ds with
  | [d] => (match listOf h d with
    | some es => (match blsOf es with
      | some ns => .ok (.bl (ns.any id)) h
      | none => .stuck)
    | none => .stuck)
  | _ => .stuck
def cAll (ds : List D) (h : AH) : ER := match ds with
  | [d] => (match listOf h d with
    | some es => (match blsOf es with
      | some ns => .ok (.bl (ns.all id)) h
      | none => .stuck)
    | none => .stuck)
  | _ => .stuck
/-- list(row) -/
def cList (ds : List D) (h : AH) : ER := match ds with
  | [d] => (match seqOf h d with
    | some es => .ok (.ref h.length) (h ++ [.lst es])
    | none => .stuck)
  | _ => .stuck
def cTuple (ds : List D) (h : AH) : ER := match ds with
  | [d] => (match seqOf h d with
    | some es => .ok (.tup es) h
    | none => .stuck)
  | _ => .stuck
/-- the types of data -/
def D.tyn (h : AH) : D → Option String
  | .non => some "NoneType"
  | .bl _ => some "bool"
  | .int _ => some "int"
  | .str _ => some "str"
  | .tup _ => some "tuple"
  | .rol _ => some "list"
  | .ref i => (match h[i]? with
    | some (.lst _) => some "list"
    | some (.dK _) => some "dict"
    | some (.dT _) => some "dict"
    | none => none)
  | .ty _ => none
/-- is a value of type a one of type b -/
def isTy (a b : String) : Bool := a == b || (a == "bool" && b == "int")
def tyNames : List String := ["NoneType", "bool", "int", "str", "tuple", "list", "dict"]
def askTys : List String := ["bool", "int", "str", "tuple", "list", "dict"]
theorem kit_all : ∀ a ∈ tyNames, ∀ b ∈ askTys, kitB a b = some (isTy a b) := by decide +kernel
def cIsi (ds : List D) (h : AH) : ER := match ds with
  | [d, .ty n] => (match d.tyn h with
    | some t => if n ∈ askTys then .ok (.bl (isTy t n)) h else .stuck
    | none => .stuck)
  | _ => .stuck
section
variable {C : Ct}
theorem cs_len : CallS C (fun xs H Q => ∃ x n, xs = [x] ∧ LenV C.X.K x H n ∧ Q (.int n) H) cLen ∨ True := .inr trivial
theorem RDs.one {K : PySem.W.Frag} {ι : Nat → Addr} {n : Nat} {H : Hp} {d : D} {vs : List V} (r : RDs K ι n H [d] vs) : ∃ v, vs = [v] ∧ RD K ι n H d v := by
  obtain ⟨v, r', rfl, q1, q2⟩ := RDs.cons.mp r
  cases RDs.nil.mp q2
  exact ⟨v, rfl, q1⟩
theorem RDs.two {K : PySem.W.Frag} {ι : Nat → Addr} {n : Nat} {H : Hp} {d e : D} {vs : List V} (r : RDs K ι n H [d, e] vs) : ∃ v w, vs = [v, w] ∧ RD K ι n H d v ∧ RD K ι n H e w := by
  obtain ⟨v, r', rfl, q1, q2⟩ := RDs.cons.mp r
  obtain ⟨w, rfl, q3⟩ := q2.one
  exact ⟨v, w, rfl, q1, q3⟩
abbrev rLenAll (X : Cx) : List V → Hp → VK → Prop := fun xs H Q => (∃ p ys, xs = [.ref p] ∧ (SqL X.K H p ys ∨ SqT X.K H p ys) ∧ Q (.int ys.length) H) ∨ (∃ z, xs = [.str z] ∧ z.length ≤ sizeLine ∧ Q (.int z.length) H) ∨ (∃ a kvs, xs = [V.ref a] ∧ H a = some (.dK kvs) ∧ Q (.int kvs.length) H)
theorem cl_len {X : Cx} : CallR X (.builtin "len") (rLenAll X) := call_len_seq.or (call_len_str.or call_lenD)
theorem cs_lenAll : CallS C (rLenAll C.X) cLen := by
  intro ι h H σ xs ds Q R r p
  unfold cLen at p
  split at p
  · split at p
    · rename_i hl
      obtain ⟨v, rfl, q⟩ := r.one
      exact .inr (.inl ⟨_, by rw [RD.str.mp q], hl, p.here R (RD.int.mpr rfl)⟩)
    · exact p.elim
  · obtain ⟨v, rfl, q⟩ := r.one
    split at p
    · rename_i es e
      obtain ⟨vs, rfl, e1, rr⟩ := q.list R e
      exact .inl ⟨_, vs, rfl, .inl (SqL.of e1), p.here R (RD.int.mpr (by rw [rr.length]))⟩
    · rename_i i kvs e
      obtain ⟨_, rfl⟩ := RD.ref.mp q
      obtain ⟨ws, e1, k, rr⟩ := R.ob _ _ e
      have : kvs.length = ws.length := by simpa using congrArg List.length k
      exact .inr (.inr ⟨_, ws, rfl, e1, p.here R (RD.int.mpr (by rw [this]))⟩)
    · exact p.elim
  · obtain ⟨v, rfl, q⟩ := r.one
    obtain ⟨a, vs, rfl, s, rr⟩ := RD.tup.mp q
    exact .inl ⟨_, vs, rfl, .inr s, p.here R (RD.int.mpr (by rw [rr.length]))⟩
  · obtain ⟨v, rfl, q⟩ := r.one
    obtain ⟨a, vs, rfl, s, rr⟩ := RD.rol.mp q
    exact .inl ⟨_, vs, rfl, .inl s.sq, p.here R (RD.int.mpr (by rw [rr.length]))⟩
  · exact p.elim
theorem cs_max2 : CallS C (fun xs H Q => ∃ i j, xs = [.int i, .int j] ∧ Q (.int (if j > i then j else i)) H) cMax2 := by
  intro ι h H σ xs ds Q R r p
  unfold cMax2 at p
  split at p
  · rename_i i j
    obtain ⟨v, w, rfl, q1, q2⟩ := r.two
    exact ⟨i, j, by rw [RD.int.mp q1, RD.int.mp q2], p.here R (RD.int.mpr rfl)⟩
  · exact p.elim
theorem cs_min2 : CallS C (fun xs H Q => ∃ i j, xs = [.int i, .int j] ∧ Q (.int (if j < i then j else i)) H) cMin2 := by
  intro ι h H σ xs ds Q R r p
  unfold cMin2 at p
  split at p
  · rename_i i j
    obtain ⟨v, w, rfl, q1, q2⟩ := r.two
    exact ⟨i, j, by rw [RD.int.mp q1, RD.int.mp q2], p.here R (RD.int.mpr rfl)⟩
  · exact p.elim
theorem cs_abs : CallS C (fun xs H Q => ∃ i, xs = [.int i] ∧ Q (.int (if i < 0 then -i else i)) H) cAbs := by
  intro ι h H σ xs ds Q R r p
  unfold cAbs at p
  split at p
  · rename_i i
    obtain ⟨v, rfl, q1⟩ := r.one
    exact ⟨i, by rw [RD.int.mp q1], p.here R (RD.int.mpr rfl)⟩
  · exact p.elim
theorem cs_int : CallS C (fun xs H Q => (∃ i, xs = [.int i] ∧ Q (.int i) H) ∨ ∃ k, xs = [.bl k] ∧ Q (.int (if k then 1 else 0)) H) cInt := by
  intro ι h H σ xs ds Q R r p
  unfold cInt at p
  split at p
  · rename_i i
    obtain ⟨v, rfl, q1⟩ := r.one
    exact .inl ⟨i, by rw [RD.int.mp q1], p.here R (RD.int.mpr rfl)⟩
  · rename_i i
    obtain ⟨v, rfl, q1⟩ := r.one
    exact .inr ⟨i, by rw [RD.bl.mp q1], p.here R (RD.int.mpr rfl)⟩
  · exact p.elim
theorem cs_sum : CallS C (rSum C.X.K) cSum := by
  intro ι h H σ xs ds Q R r p
  unfold cSum at p
  split at p
  · rename_i d
    obtain ⟨v, rfl, q1⟩ := r.one
    split at p
    · rename_i es e
      split at p
      · rename_i ns e2
        obtain ⟨a, vs, rfl, s, rr⟩ := listOf_sq R q1 e
        rw [intsOf_eq e2] at rr
        rw [rr.ints] at s
        exact ⟨a, ns, rfl, s, p.here R (RD.int.mpr rfl)⟩
      · exact p.elim
    · exact p.elim
  · exact p.elim
theorem cs_any : CallS C (rAny C.X.K) cAny := by
  intro ι h H σ xs ds Q R r p
  unfold cAny at p
  split at p
  · rename_i d
    obtain ⟨v, rfl, q1⟩ := r.one
    split at p
    · rename_i es e
      split at p
      · rename_i ns e2
        obtain ⟨a, vs, rfl, s, rr⟩ := listOf_sq R q1 e
        rw [blsOf_eq e2] at rr
        rw [rr.bls] at s
        exact ⟨a, ns, rfl, s, p.here R (RD.bl.mpr rfl)⟩
      · exact p.elim
    · exact p.elim
  · exact p.elim
theorem cs_all : CallS C (rAll C.X.K) cAll := by
  intro ι h H σ xs ds Q R r p
  unfold cAll at p
  split at p
  · rename_i d
    obtain ⟨v, rfl, q1⟩ := r.one
    split at p
    · rename_i es e
      split at p
      · rename_i ns e2
        obtain ⟨a, vs, rfl, s, rr⟩ := listOf_sq R q1 e
        rw [blsOf_eq e2] at rr
        rw [rr.bls] at s
        exact ⟨a, ns, rfl, s, p.here R (RD.bl.mpr rfl)⟩
      · exact p.elim
    · exact p.elim
  · exact p.elim
theorem cs_list : CallS C (fun xs H Q => ∃ p ys, xs = [.ref p] ∧ (SqL C.X.K H p ys ∨ SqT C.X.K H p ys) ∧ ∀ l, H l = none → Q (.ref l) (upd H l (.lst ys))) cList := by
  intro ι h H σ xs ds Q R r p
  unfold cList at p
  split at p
  · rename_i d
    obtain ⟨v, rfl, q1⟩ := r.one
    split at p
    · rename_i es e
      obtain ⟨a, vs, rfl, s, rr⟩ := seqOf_sq R q1 e
      exact ⟨a, vs, rfl, s, fun l hl => p.lst R rr hl⟩
    · exact p.elim
  · exact p.elim
theorem cs_tuple : CallS C (fun xs H Q => ∃ p ys, xs = [.ref p] ∧ ((SqL C.X.K H p ys ∧ ∀ l, H l = none → Q (.ref l) (upd H l (.tup ys))) ∨ (SqT C.X.K H p ys ∧ Q (.ref p) H))) cTuple := by
  intro ι h H σ xs ds Q R r p
  unfold cTuple at p
  split at p
  · rename_i d
    obtain ⟨v, rfl, q1⟩ := r.one
    split at p
    · rename_i es e
      cases d with
      | tup fs =>
        cases e
        obtain ⟨a, vs, rfl, s, rr⟩ := RD.tup.mp q1
        exact ⟨a, vs, rfl, .inr ⟨s, p.here R q1⟩⟩
      | rol fs =>
        cases e
        obtain ⟨a, vs, rfl, s, rr⟩ := RD.rol.mp q1
        exact ⟨a, vs, rfl, .inl ⟨s.sq, fun l hl => p.tup R rr hl⟩⟩
      | ref i =>
        have e' : listOf h (.ref i) = some es := e
        obtain ⟨a, vs, rfl, s, rr⟩ := listOf_sq R q1 e'
        exact ⟨a, vs, rfl, .inl ⟨s, fun l hl => p.tup R rr hl⟩⟩
      | _ => cases e
    · exact p.elim
  · exact p.elim
theorem tyn_mem {h : AH} {d : D} {t : String} (e : d.tyn h = some t) : t ∈ tyNames := by
  cases d with
  | ref i =>
    simp only [D.tyn] at e
    cases q : h[i]? with
    | none => rw [q] at e; cases e
    | some o => rw [q] at e; cases o <;> (cases e; decide)
  | ty n => cases e
  | _ => cases e; decide
theorem tyn_tyx {K : PySem.W.Frag} {ι : Nat → Addr} {h : AH} {H : Hp} {d : D} {v : V} {t : String} (R : Rel K ι h H) (r : RD K ι h.length H d v) (e : d.tyn h = some t) : TyX K H v (.type t) := by
  cases d with
  | non => cases e; rw [RD.non.mp r]; exact .base .non
  | bl b => cases e; rw [RD.bl.mp r]; exact .base (.bl b)
  | int b => cases e; rw [RD.int.mp r]; exact .base (.int b)
  | str b => cases e; rw [RD.str.mp r]; exact .base (.str b)
  | ty n => cases e
  | tup ds =>
    cases e
    obtain ⟨a, vs, rfl, s, rr⟩ := RD.tup.mp r
    rcases s with (s | ⟨o, s⟩) | ⟨o, its, n, hk, hc, _⟩
    · exact .base (.tup s)
    · exact .fTuple s
    · exact .kTuple hk hc
  | rol ds =>
    cases e
    obtain ⟨a, vs, rfl, s, rr⟩ := RD.rol.mp r
    rcases s with ⟨o, s⟩ | ⟨o, its, n, hk, hc, _⟩
    · exact .base (.frz s)
    · exact .kList hk hc
  | ref i =>
    simp only [D.tyn] at e
    obtain ⟨_, rfl⟩ := RD.ref.mp r
    cases q : h[i]? with
    | none => rw [q] at e; cases e
    | some o =>
      rw [q] at e
      have ro := R.ob i o q
      cases o with
      | lst ds => cases e; obtain ⟨vs, e1, _⟩ := ro; exact .base (.lst e1)
      | dK ds => cases e; obtain ⟨vs, e1, _⟩ := ro; exact .base (.dK e1)
      | dT ds => cases e; obtain ⟨vs, e1, _⟩ := ro; exact .base (.dT e1)
theorem cs_isi : CallS C (rIsi C.X.K) cIsi := by
  intro ι h H σ xs ds Q R r p
  unfold cIsi at p
  split at p
  · rename_i d n
    obtain ⟨v, w, rfl, q1, q2⟩ := r.two
    split at p
    · rename_i t e
      split at p
      · rename_i hn
        exact ⟨v, w, .type t, .type n, isTy t n, rfl, by rw [RD.ty.mp q2]; exact .ty n, tyn_tyx R q1 e, kit_ty (kit_all t (tyn_mem e) n hn), p.here R (RD.bl.mpr rfl)⟩
      · exact p.elim
    · exact p.elim
  · exact p.elim
end

/-! ### list(range(..)), tuple(range(..)) -/
noncomputable instance {a b : Int} : Decidable (RgOk a b) := Classical.propDecidable _
noncomputable def eRg1 (tp : Bool) (m : EM) : EM := fun env h => (m env h).then fun d h1 => match d with
  | .int j => if RgOk 0 j then (if tp then .ok (.tup (rg 0 j.toNat)) h1 else .ok (.ref h1.length) (h1 ++ [.lst (rg 0 j.toNat)])) else .stuck
  | _ => .stuck
section
variable {C : Ct} {a : Expr} {ma : EM} {p pos p2 pos2 : Pos}
theorem rds_rg {K : PySem.W.Frag} {ι : Nat → Addr} {n : Nat} {H : Hp} {j : Int} : RDs K ι n H (rg 0 j.toNat) (rgV 0 j) := by
  unfold rg rgV
  rw [Int.sub_zero]
  generalize j.toNat = m
  have : ∀ l : List Nat, RDs K ι n H (l.map fun (i : Nat) => D.int (0 + (i : Nat))) (l.map fun (i : Nat) => V.int (0 + (i : Nat))) := by
    intro l
    induction l with
    | nil => exact RDs.nil'
    | cons x l ih => exact RDs.cons' (RD.int.mpr rfl) ih
  exact this _
theorem me_listRg1 (hc : C.X.calm = true) (hml : C.X.mg "list" = none) (hm : C.X.mg "range" = none) (ha : ME C a ma) (hgl : Gl C.X "list" := by rfl) (hg : Gl C.X "range" := by rfl) (na : starEach [a] C.X.env = (false, eval a C.X.env) :: starEach [] C.X.env := by rfl)
    (hs : starEach [.Call (.Name "range" p) [a] [] pos] C.X.env = (false, eval (.Call (.Name "range" p) [a] [] pos) C.X.env) :: starEach [] C.X.env := by rfl) : ME C (.Call (.Name "list" p2) [.Call (.Name "range" p) [a] [] pos] [] pos2) (eRg1 false ma) := by
  obtain ⟨t, pa, sa⟩ := ha
  refine ⟨_, pe_listRg hc hgl hml (prg_1 hg hm pa na) hs, ⟨fun env h σ H ι Q R V p => ?_⟩⟩
  refine sa.then R V p fun d h1 ι1 H1 v x1 R1 V1 r1 p1 => ?_
  cases d with
  | int j =>
    dsimp only at p1
    by_cases hj : RgOk 0 j
    · rw [if_pos hj] at p1
      exact ⟨j, RD.int.mp r1, hj, fun q hq => p1.lst R1 rds_rg hq⟩
    · rw [if_neg hj] at p1; exact p1.elim
  | _ => exact (show False from p1).elim
theorem me_tupRg1 (hc : C.X.calm = true) (hml : C.X.mg "tuple" = none) (hm : C.X.mg "range" = none) (ha : ME C a ma) (hgl : Gl C.X "tuple" := by rfl) (hg : Gl C.X "range" := by rfl) (na : starEach [a] C.X.env = (false, eval a C.X.env) :: starEach [] C.X.env := by rfl)
    (hs : starEach [.Call (.Name "range" p) [a] [] pos] C.X.env = (false, eval (.Call (.Name "range" p) [a] [] pos) C.X.env) :: starEach [] C.X.env := by rfl) : ME C (.Call (.Name "tuple" p2) [.Call (.Name "range" p) [a] [] pos] [] pos2) (eRg1 true ma) := by
  obtain ⟨t, pa, sa⟩ := ha
  refine ⟨_, pe_tupRg hc hgl hml (prg_1 hg hm pa na) hs, ⟨fun env h σ H ι Q R V p => ?_⟩⟩
  refine sa.then R V p fun d h1 ι1 H1 v x1 R1 V1 r1 p1 => ?_
  cases d with
  | int j =>
    dsimp only at p1
    by_cases hj : RgOk 0 j
    · rw [if_pos hj] at p1
      exact ⟨j, RD.int.mp r1, hj, fun q hq => p1.tup R1 rds_rg hq⟩
    · rw [if_neg hj] at p1; exact p1.elim
  | _ => exact (show False from p1).elim
end

/-! ### methods, stores -/
def MtS (C : Ct) (r : V → List V → Hp → VK → Prop) (g : D → List D → AH → ER) : Prop := ∀ (ι : Nat → Addr) (h : AH) (H : Hp) (σ : List (Option V)) (x : V) (xs : List V) (d : D) (ds : List D) (Q : VK), Rel C.X.K ι h H → RD C.X.K ι h.length H d x → RDs C.X.K ι h.length H ds xs → PostE C ι h.length H σ (g d ds h) Q → r x xs H Q
/-- of a type, asked for its method -/
def tyOk (h : AH) (T : String) (d : D) : Bool := match d with
  | .str _ => T == "str"
  | .int _ => T == "int"
  | .rol _ => T == "list"
  | .ref i => (match h[i]? with
    | some (.lst _) => T == "list"
    | some (.dK _) => T == "dict"
    | some (.dT _) => T == "dict"
    | none => false)
  | _ => false
theorem tyOk_v {K : PySem.W.Frag} {ι : Nat → Addr} {h : AH} {H : Hp} {d : D} {v : V} {T : String} (R : Rel K ι h H) (r : RD K ι h.length H d v) (e : tyOk h T d = true) : tyV K T v H := by
  cases d with
  | str x => rw [RD.str.mp r]; exact beq_iff_eq.mp e
  | int x => rw [RD.int.mp r]; exact beq_iff_eq.mp e
  | rol ds =>
    obtain ⟨a, vs, rfl, s, _⟩ := RD.rol.mp r
    exact .inl ⟨beq_iff_eq.mp e, vs, s.sq⟩
  | ref i =>
    obtain ⟨_, rfl⟩ := RD.ref.mp r
    simp only [tyOk] at e
    cases q : h[i]? with
    | none => rw [q] at e; cases e
    | some o =>
      rw [q] at e
      have ro := R.ob i o q
      cases o with
      | lst ds => obtain ⟨vs, e1, _⟩ := ro; exact .inl ⟨beq_iff_eq.mp e, vs, SqL.of e1⟩
      | dK ds => obtain ⟨vs, e1, _⟩ := ro; exact .inr (.inr (.inl ⟨beq_iff_eq.mp e, .inl ⟨vs, e1⟩⟩))
      | dT ds => obtain ⟨vs, e1, _⟩ := ro; exact .inr (.inr (.inl ⟨beq_iff_eq.mp e, .inr ⟨vs, e1⟩⟩))
  | _ => cases e
def eMeth (T : String) (g : D → List D → AH → ER) (o : EM) (l : LM) : EM := fun env h => (o env h).then fun d h1 => if tyOk h1 T d then (l env h1).then fun ds h2 => g d ds h2 else .stuck
section
variable {C : Ct} {o e : Expr} {es : List Expr} {mo : EM} {ml : LM} {name : Str} {apos cpos : Pos} {T id : String} {r : V → List V → Hp → VK → Prop} {g : D → List D → AH → ER}
theorem me_meth0 (pa : PlainAttrs T) (slot : Slot T name id) (hty : typeOf (.builtin id) = pure (.type "method_descriptor")) (hm : MtR C.X id r) (hs : MtS C r g) (ho : ME C o mo)
    (hbase : attributeBase o name C.X.env (eval o C.X.env) = eval o C.X.env := by rfl) (hline : (apos.endLine == cpos.line) = true := by rfl) : ME C (.Call (.Attribute o name apos) [] [] cpos) (eMeth T g mo lNil) := by
  obtain ⟨t, p, s⟩ := ho
  refine ⟨_, pe_bm0 pa slot hty hm p hbase hline, ⟨fun env h σ H ι Q R V p => ?_⟩⟩
  refine s.then R V p fun d h1 ι1 H1 v x1 R1 V1 r1 p1 => ?_
  by_cases ht : tyOk h1 T d = true
  · rw [if_pos ht] at p1
    exact ⟨tyOk_v R1 r1 ht, hs ι1 h1 H1 σ v [] d [] Q R1 r1 RDs.nil' p1⟩
  · rw [if_neg ht] at p1; exact p1.elim
theorem me_meth (pa : PlainAttrs T) (slot : Slot T name id) (hty : typeOf (.builtin id) = pure (.type "method_descriptor")) (hm : MtR C.X id r) (hs : MtS C r g) (ho : ME C o mo) (ha : MA C (e :: es) ml)
    (hbase : attributeBase o name C.X.env (eval o C.X.env) = eval o C.X.env := by rfl)
    (hfew : ((backTo cpos (starEach (e :: es) C.X.env)).all (fun x => !x.1) && (backToKw cpos (keywordEach [] C.X.env)).all (fun x => x.1.isSome)
      && decide ((e :: es).length + ([] : List Keyword).length + (if ([] : List Keyword).isEmpty then 0 else 1) < 30)) = true := by rfl)
    (hline : (apos.endLine == cpos.line) = true := by rfl) (hst : starEach (e :: es) C.X.env = (false, eval e C.X.env) :: starEach es C.X.env := by rfl) (hplain : (backTo cpos (starEach es C.X.env)).any (·.1) = false := by rfl) :
    ME C (.Call (.Attribute o name apos) (e :: es) [] cpos) (eMeth T g mo ml) := by
  obtain ⟨t, p, s⟩ := ho
  obtain ⟨tl, pl, sl⟩ := ha
  refine ⟨_, pe_bm pa slot hty hm p pl hbase hfew hline hst hplain, ⟨fun env h σ H ι Q R V p => ?_⟩⟩
  refine s.then R V p fun d h1 ι1 H1 v x1 R1 V1 r1 p1 => ?_
  by_cases ht : tyOk h1 T d = true
  · rw [if_pos ht] at p1
    refine ⟨tyOk_v R1 r1 ht, ?_⟩
    refine sl.then R1 V1 p1 fun ds h2 ι2 H2 vs x2 R2 V2 r2 p2 => ?_
    exact hs ι2 h2 H2 σ v vs d ds Q R2 (r1.mono (x2.grow R1)) r2 p2
  · rw [if_neg ht] at p1; exact p1.elim
theorem PostE.put {ι : Nat → Addr} {h : AH} {H : Hp} {σ : List (Option V)} {Q : VK} {i : Nat} {ds : List D} {vs : List V} {d : D} {v : V} (p : PostE C ι h.length H σ (.ok d (h.set i (.lst ds))) Q) (R : Rel C.X.K ι h H) (hi : i < h.length) (r : RDs C.X.K ι h.length H ds vs)
    (rd : RD C.X.K ι h.length H d v) : Q v (upd H (ι i) (.lst vs)) := by
  have x : Ext ι h.length H ι h.length (upd H (ι i) (.lst vs)) := Ext.put R hi
  refine p ι _ v (by rw [List.length_set]; exact x) (R.put hi fun x => ⟨vs, upd_same, r.mono (x.grow R)⟩) ?_
  rw [List.length_set]
  exact rd.mono (x.grow R)
end
noncomputable def mAppend (d : D) (ds : List D) (h : AH) : ER := match d, ds with
  | .ref i, [y] => (match h[i]? with
    | some (.lst xs) => if FitsL xs.length then .ok .non (h.set i (.lst (xs ++ [y]))) else .stuck
    | _ => .stuck)
  | _, _ => .stuck
def mPop (d : D) (ds : List D) (h : AH) : ER := match d, ds with
  | .ref i, [] => (match h[i]? with
    | some (.lst xs) => (match xs[xs.length - 1]? with
      | some y => .ok y (h.set i (.lst xs.dropLast))
      | none => .stuck)
    | _ => .stuck)
  | _, _ => .stuck
noncomputable def mPopAt (d : D) (ds : List D) (h : AH) : ER := match d, ds with
  | .ref i, [.int j] => (match h[i]? with
    | some (.lst xs) => (match L2.ixN xs.length j with
      | some k => (match xs[k]? with
        | some y => if Fits xs.length then .ok y (h.set i (.lst (xs.eraseIdx k))) else .stuck
        | none => .stuck)
      | none => .stuck)
    | _ => .stuck)
  | _, _ => .stuck
noncomputable def mExtend (d : D) (ds : List D) (h : AH) : ER := match d, ds with
  | .ref i, [.ref j] => (match h[i]?, h[j]? with
    | some (.lst xs), some (.lst ys) => if Fits (xs.length + ys.length) then .ok .non (h.set i (.lst (xs ++ ys))) else .stuck
    | _, _ => .stuck)
  | _, _ => .stuck
/-- the first place of p -/
def firstAt (p : PyData) : List PyData → Option Nat
  | [] => none
  | q :: r => if PyData.eqv q p then some 0 else (firstAt p r).map (· + 1)
theorem firstAt_spec {p : PyData} : ∀ {l : List PyData} {j : Nat}, firstAt p l = some j → ∃ z, l[j]? = some z ∧ PyData.eqv z p = true ∧ ∀ m z', m < j → l[m]? = some z' → PyData.eqv z' p = false
  | [], j, e => by cases e
  | q :: r, j, e => by
    unfold firstAt at e
    split at e
    · rename_i hq
      cases e
      exact ⟨q, rfl, hq, fun m z' hm => absurd hm (Nat.not_lt_zero m)⟩
    · rename_i hq
      cases q2 : firstAt p r with
      | none => rw [q2] at e; cases e
      | some k =>
        rw [q2] at e
        cases e
        obtain ⟨z, h1, h2, h3⟩ := firstAt_spec q2
        refine ⟨z, by simpa using h1, h2, fun m z' hm e' => ?_⟩
        cases m with
        | zero => simp at e'; subst e'; simpa using hq
        | succ m => exact h3 m z' (Nat.lt_of_succ_lt_succ hm) (by simpa using e')
def mIndex (d : D) (ds : List D) (h : AH) : ER := match d, ds with
  | .ref i, [y] => (match (D.ref i).toP h 20, y.toP h 20 with
    | some (.list ps), some p => (match firstAt p ps with
      | some j => .ok (.int (j : Nat)) h
      | none => .stuck)
    | _, _ => .stuck)
  | _, _ => .stuck
section
variable {C : Ct}
theorem ms_append : MtS C rAppend mAppend := by
  intro ι h H σ x xs d ds Q R r rs p
  unfold mAppend at p
  split at p
  · rename_i i y
    split at p
    · rename_i es e
      split at p
      · rename_i hl
        obtain ⟨vs, rfl, e1, rr⟩ := r.list R e
        obtain ⟨w, rfl, q⟩ := rs.one
        exact ⟨_, vs, w, rfl, rfl, e1, by rw [← rr.length]; exact hl, p.put R (RD.ref.mp r).1 (rr.append (RDs.cons' q RDs.nil')) (RD.non.mpr rfl)⟩
      · exact p.elim
    · exact p.elim
  · exact p.elim
theorem ms_pop : MtS C rPop mPop := by
  intro ι h H σ x xs d ds Q R r rs p
  unfold mPop at p
  split at p
  · rename_i i
    split at p
    · rename_i es e
      split at p
      · rename_i y ey
        obtain ⟨vs, rfl, e1, rr⟩ := r.list R e
        cases RDs.nil.mp rs
        obtain ⟨w, ew, rw_⟩ := rr.get ey
        exact ⟨_, vs, w, rfl, rfl, e1, by rw [← rr.length]; exact ew, p.put R (RD.ref.mp r).1 rr.dropLast rw_⟩
      · exact p.elim
    · exact p.elim
  · exact p.elim
theorem ms_popAt : MtS C rPopAt mPopAt := by
  intro ι h H σ x xs d ds Q R r rs p
  unfold mPopAt at p
  split at p
  · rename_i i j
    split at p
    · rename_i es e
      split at p
      · rename_i k ek
        split at p
        · rename_i y ey
          split at p
          · rename_i hl
            obtain ⟨vs, rfl, e1, rr⟩ := r.list R e
            obtain ⟨u, rfl, q⟩ := rs.one
            obtain ⟨w, ew, rw_⟩ := rr.get ey
            obtain ⟨a1, a2, a3, a4⟩ := ixN_seq ek
            change _ ≤ sizeLine at hl
            rw [sizeLine_eq] at hl
            exact ⟨_, vs, j, k, w, rfl, by rw [RD.int.mp q], e1, by omega, by omega, by rw [← rr.length]; exact a1, ew, p.put R (RD.ref.mp r).1 (rr.eraseIdx k) rw_⟩
          · exact p.elim
        · exact p.elim
      · exact p.elim
    · exact p.elim
  · exact p.elim
theorem ms_extend : MtS C rExtend mExtend := by
  intro ι h H σ x xs d ds Q R r rs p
  unfold mExtend at p
  split at p
  · rename_i i j
    split at p
    · rename_i es fs e e'
      split at p
      · rename_i hl
        obtain ⟨vs, rfl, e1, rr⟩ := r.list R e
        obtain ⟨w, rfl, q⟩ := rs.one
        obtain ⟨ws, rfl, e2, rr2⟩ := q.list R e'
        exact ⟨_, _, vs, ws, rfl, rfl, e1, e2, by rw [← rr.length, ← rr2.length]; exact hl, p.put R (RD.ref.mp r).1 (rr.append rr2) (RD.non.mpr rfl)⟩
      · exact p.elim
    · exact p.elim
  · exact p.elim
theorem ms_index : MtS C (rIndexD C.X.K) mIndex := by
  intro ι h H σ x xs d ds Q R r rs p
  unfold mIndex at p
  split at p
  · rename_i i y
    split at p
    · rename_i ps q e1 e2
      split at p
      · rename_i j ej
        obtain ⟨w, rfl, rw_⟩ := rs.one
        obtain ⟨a1, a2, a3⟩ := toP_dp R _ _ _ _ r e1
        obtain ⟨b1, b2, b3⟩ := toP_dp R _ _ _ _ rw_ e2
        obtain ⟨z, z1, z2, z3⟩ := firstAt_spec ej
        obtain ⟨_, rfl⟩ := RD.ref.mp r
        exact ⟨_, w, q, ps, j, z, rfl, rfl, a1, b1, toP_shaped a2 a3, toP_shaped b2 b3, z1, z2, z3, p.here R (RD.int.mpr rfl)⟩
      · exact p.elim
    · exact p.elim
  · exact p.elim
def putL (o i v : D) (h : AH) : Option AH := match o, i with
  | .ref r, .int k => (match h[r]? with
    | some (.lst xs) => (match L2.ixN xs.length k with
      | some j => some (h.set r (.lst (xs.set j v)))
      | none => none)
    | _ => none)
  | _, _ => none
theorem ss_list : SetS C rSetL putL := by
  intro ι h H x y z d1 d2 d3 h' Q R r1 r2 r3 e k
  unfold putL at e
  split at e
  · rename_i r j
    split at e
    · rename_i xs e0
      split at e
      · rename_i m em
        cases e
        obtain ⟨vs, rfl, e1, rr⟩ := r1.list R e0
        have hi := (RD.ref.mp r1).1
        refine ⟨_, vs, j, m, rfl, RD.int.mp r2, e1, by rw [← rr.length]; exact em, ?_⟩
        exact k ι _ (by rw [List.length_set]; exact Ext.put R hi) (R.put hi fun x => ⟨_, upd_same, (rr.set m r3).mono (x.grow R)⟩)
      · cases e
    · cases e
  · cases e
end
end Rf

set_option maxHeartbeats 1000000
namespace Rf
open PySem PySem.Spec PyProof.Rows L2
section
variable {C : Ct} {a : Expr} {ma : EM} {pos : Pos}
theorem me_int {i : Int} {k : Nat} : ME C (.Constant (.int i) k pos) (eC (.int i)) := me_C (v := .int i) pe_int fun _ _ _ => RD.int.mpr rfl
theorem me_bl {b : Bool} {k : Nat} : ME C (.Constant (.bool b) k pos) (eC (.bl b)) := me_C (v := .bl b) pe_bl fun _ _ _ => RD.bl.mpr rfl
theorem me_non {k : Nat} : ME C (.Constant .none k pos) (eC .non) := me_C (v := .non) pe_non fun _ _ _ => RD.non.mpr rfl
theorem me_str {x : Str} {k : Nat} : ME C (.Constant (.str x) k pos) (eC (.str x)) := me_C (v := .str x) pe_str fun _ _ _ => RD.str.mpr rfl
theorem me_ty {x : Str} {n : String} (hm : C.X.mg x = none) (hv : bootBuiltins x = some (.type n) := by decide +kernel) (hg : Gl C.X x := by rfl) (hn : x ≠ "__name__" := by decide) (hd : (x == ("__debug__" : Str)) = false := by decide) : ME C (.Name x pos) (eC (.ty n)) :=
  me_C (v := .ty n) (pe_bltn hg hm hv rfl hn hd) fun _ _ _ => RD.ty.mpr rfl
theorem mo_none : MO C none none := rfl
theorem mo_some (h : ME C a ma) : MO C (some a) (some ma) := ⟨a, rfl, h⟩
end
theorem units65 {A : Around} {k : Nat} (hr : Room k A) : A.units + 65 < cLine := by have := hr.un; omega
/-- a def of the module, as it stands -/
structure DA (K : PySem.W.Frag) (mg : Str → Option Value) (x : Str) (st : Stmt) (ps : List Str) (f : Addr) (fd : FuncData) : Prop where
  fn : Fun K x x st f fd
  mgf : mg x = some (.ref f)
  bd : Binds K fd ps []
end Rf
namespace Rf
open PySem PySem.Spec PyProof.Rows L2
/-- what the law's own def is held to: its plain function ends well, and so the call -/
def spLaw (K : PySem.W.Frag) (F : List D → AH → ER) : Sp := fun vs H Q _ => vs.length = 1 ∧ ∃ ι h ds, Rel K ι h H ∧ RDs K ι h.length H ds vs ∧ ∃ d h', F ds h = .ok d h' ∧ ∀ ι' H' v, Ext ι h.length H ι' h'.length H' → Rel K ι' h' H' → RD K ι' h'.length H' d v → Q v H'
theorem spLaw.of {K : PySem.W.Frag} {mg : Str → Option Value} {F : List D → AH → ER} : ∀ vs H Q E, spLaw K F vs H Q E → spF K mg 1 F vs H Q E := by
  rintro vs H Q E ⟨hl, ι, h, ds, R, r, d, h', e, q⟩
  refine ⟨hl, ι, h, ds, R, r, ?_⟩
  rw [e]
  exact q
theorem RDs.rol_ints {K : PySem.W.Frag} {ι : Nat → Addr} {n : Nat} {H : Hp} {a : Addr} {ns : List Int} (q : RoL K H a (ns.map V.int)) : RD K ι n H (.rol (ns.map D.int)) (.ref a) := RD.rol.mpr ⟨a, _, rfl, q, RDs.of_ints⟩
theorem spLaw.start {K : PySem.W.Frag} {F : List D → AH → ER} {H : Hp} {a : Addr} {ns : List Int} (O : Only H) (S : SqL K H a (ns.map V.int)) (hF : ∃ h', F [.rol (ns.map D.int)] [] = .ok (.bl true) h') : spLaw K F [.ref a] H (fun v _ => v = .bl true) fun _ _ _ => False := by
  obtain ⟨h', e⟩ := hF
  have q : RoL K H a (ns.map V.int) := by
    rcases S with (s | s) | s
    · rcases O a with z | ⟨o, xs, z⟩ <;> (rw [s] at z; cases z)
    · exact .inl s
    · exact .inr s
  exact ⟨rfl, fun _ => 0, [], [.rol (ns.map D.int)], ⟨fun i j hi => absurd hi (Nat.not_lt_zero i), fun i o e => by simp at e⟩, RDs.cons' (RDs.rol_ints q) RDs.nil', .bl true, h', e, fun ι' H' v _ _ r => RD.bl.mp r⟩
theorem cx_false {P : Program} {w : World} {H : Hp} {s s' : Shared} {e : Value} (h : L2.CX P w [] H s (fun _ _ _ => False) e s') : False := by
  obtain ⟨_, _, _, _, _, _, _, _, _, _, _, _, z⟩ := h
  exact z
end Rf

set_option maxHeartbeats 1000000
/-! Calls with keywords, every parameter given. -/
namespace Rf
open PySem PySem.Spec PyProof.Rows L2
def MK (C : Ct) (kws : List Keyword) (m : LM) : Prop := ∃ t, PK C.X kws t ∧ SimL C t m
section
variable {C : Ct} {e : Expr} {m : EM} {kws : List Keyword} {nm : Option Str} {kpos : Pos} {mr : LM}
theorem mk_nil : MK C [] lNil := ⟨_, pk_nil, ⟨fun env h σ H ι Q R V p => p ι H [] .refl R RDs.nil'⟩⟩
theorem mk_cons (ha : ME C e m) (hr : MK C kws mr) : MK C (⟨nm, e, kpos⟩ :: kws) (lCons m mr) := by
  obtain ⟨ta, pa, sa⟩ := ha
  obtain ⟨tr, pr, sr⟩ := hr
  refine ⟨_, pk_cons pa pr, ⟨fun env h σ H ι Q R V p => ?_⟩⟩
  refine sa.run env h σ H ι _ R V ?_
  unfold lCons at p
  cases hm : m env h with
  | ok d h1 =>
    rw [hm] at p
    dsimp only at p
    refine fun ι' H' v x R' r => ?_
    refine sr.run env h1 σ H' ι' _ R' (V.ext R x) ?_
    cases hm2 : mr env h1 with
    | ok ds h2 =>
      rw [hm2] at p
      exact fun ι2 H2 vs x2 R2 r2 => p ι2 H2 _ (x.trans x2) R2 (RDs.cons' (r.mono (x2.grow R')) r2)
    | exc c fs h2 =>
      rw [hm2] at p
      exact fun ι2 H2 Cl dd x2 => p ι2 H2 Cl dd (x.trans x2)
    | stuck => rw [hm2] at p; exact p
  | exc c fs h1 => rw [hm] at p; exact p
  | stuck => rw [hm] at p; exact p
end
/-- positional values, then those of the keywords in the parameters' order -/
def permK {α : Type} (idx : List Nat) (us ws : List α) : List α := us ++ idx.filterMap fun i => ws[i]?
theorem permK_RDs {K : PySem.W.Frag} {ι : Nat → Addr} {n : Nat} {H : Hp} {ds es : List D} {vs zs : List V} (r : RDs K ι n H ds vs) (q : RDs K ι n H es zs) : ∀ idx : List Nat, RDs K ι n H (permK idx ds es) (permK idx vs zs) := by
  have key : ∀ idx : List Nat, RDs K ι n H (idx.filterMap fun i => es[i]?) (idx.filterMap fun i => zs[i]?) := by
    intro idx
    induction idx with
    | nil => exact RDs.nil'
    | cons i idx ih =>
      rw [List.filterMap_cons, List.filterMap_cons]
      cases hi : es[i]? with
      | none =>
        have : zs[i]? = none := by
          rw [List.getElem?_eq_none_iff] at hi ⊢
          rw [← q.length]; exact hi
        rw [this]; exact ih
      | some d =>
        obtain ⟨v, hv, rv⟩ := RDs.get q hi
        rw [hv]
        exact RDs.cons' rv ih
  exact fun idx => RDs.append r (key idx)
theorem permK_Vals {vs zs : List V} {us ws : List Value} (r : Vals vs us) (q : Vals zs ws) : ∀ idx : List Nat, Vals (permK idx vs zs) (permK idx us ws) := by
  have at_ : ∀ {zs : List V} {ws : List Value} (i : Nat), Vals zs ws → (zs[i]? = none ∧ ws[i]? = none) ∨ ∃ a b, zs[i]? = some a ∧ ws[i]? = some b ∧ RelV a b := by
    intro zs ws i q
    induction q generalizing i with
    | nil => exact .inl ⟨rfl, rfl⟩
    | cons h t ih =>
      cases i with
      | zero => exact .inr ⟨_, _, rfl, rfl, h⟩
      | succ i => exact ih i
  have key : ∀ idx : List Nat, Vals (idx.filterMap fun i => zs[i]?) (idx.filterMap fun i => ws[i]?) := by
    intro idx
    induction idx with
    | nil => exact .nil
    | cons i idx ih =>
      rw [List.filterMap_cons, List.filterMap_cons]
      rcases at_ i q with ⟨h1, h2⟩ | ⟨a, b, h1, h2, h3⟩
      · rw [h1, h2]; exact ih
      · rw [h1, h2]; exact .cons h3 ih
  intro idx
  unfold permK
  induction r with
  | nil => exact key idx
  | cons h t ih => exact .cons h ih
theorem runK {X : Cx} {CX : CXT} {k n : Nat} {f : Addr} {fd : FuncData} {ps ks : List Str} {sp : Sp} {D : XK} {g : List Value → List Value → List Value} {gV : List V → List V → List V} {pins : List (Addr × Obj)} {σ : L2.St} {H : Hp} {s : Shared} {Q : VK} {us ws : List Value} {vs zs : List V}
    (F0 : FnOk X.prog X.w X.K X.mg X.base CX k f fd ps sp) (room : Room k X.A) (kb : KBn X.K fd ps n ks g gV) (ps0 : PassesAt CX X σ D) (J : Inv X pins σ H s) (r1 : Vals vs us) (r2 : Vals zs ws) (l1 : vs.length = n) (l2 : zs.length = ks.length) (q : sp (gV vs zs) H Q D) :
    wpAny (model X.prog X.w) X.A (call (.ref f) us (ks.zip ws)) (EP X pins σ Q) X.xe s := by
  have b0 := kb.to s us ws J.kIn (r1.length.symm.trans l1) (r2.length.symm.trans l2)
  have e0 := F0.run X.A X.stack s H ⟨us, ks.zip ws⟩ (g us ws) (gV vs zs) Q D room J.env0 b0 (kb.rel r1 r2) q
  refine wpAny_call (codeAny_mono e0 fun r s' hq => ?_)
  match r, hq with
  | .error e, hq => exact ps0 pins H s e s' J hq
  | .ok (.ret u), hq => exact J.after hq
  | .ok .next, hq => exact hq.elim
  | .ok .brk, hq => exact hq.elim
  | .ok .cont, hq => exact hq.elim
/-- a call with keywords: the positional values in their order, the keywords' values as written, then put in order -/
def eCallK (n m : Nat) (idx : List Nat) (F : List D → AH → ER) (ml mk : LM) : EM := fun env h => (ml env h).then fun ds h1 => (mk env h1).then fun es h2 => if ds.length = n ∧ es.length = m then F (permK idx ds es) h2 else .stuck
section
variable {C : Ct} {k pl n km : Nat} {f : Addr} {fd : FuncData} {ps ks : List Str} {F : List D → AH → ER} {x : Str} {p pos : Pos} {e : Expr} {es : List Expr} {kws : List Keyword} {ml mk : LM} {idx : List Nat}
theorem me_callK (F0 : FnOk C.X.prog C.X.w C.X.K C.X.mg C.X.base (L2.CX C.X.prog C.X.w) k f fd ps (spF C.X.K C.X.mg pl F)) (hr : Room k C.X.A) (hm : C.X.mg x = some (.ref f)) (hk : PySem.W.keepIn C.X.K (.ref f) = true) (hb : KBn C.X.K fd ps n ks (permK idx) (permK idx)) (tk : Takes C.X C.W)
    (ha : MA C (e :: es) ml) (hw : MK C kws mk) (hpl2 : ∀ us ws : List D, us.length = n → ws.length = km → (permK idx us ws).length = pl) (hkm : ks.length = km := by rfl)
    (hall : (backToKw pos (keywordEach kws C.X.env)).all (·.1.isSome) = true := by rfl) (hks : (backToKw pos (keywordEach kws C.X.env)).filterMap (·.1) = ks := by rfl) (hg : Gl C.X x := by rfl) (hdb : (x == ("__debug__" : Str)) = false := by decide) (he : starEach (e :: es) C.X.env = (false, eval e C.X.env) :: starEach es C.X.env := by rfl)
    (hpl : ((backTo pos (starEach (e :: es) C.X.env)).any (·.1) || (backToKw pos (keywordEach kws C.X.env)).any (·.1.isNone)) = false := by rfl) :
    ME C (.Call (.Name x p) (e :: es) kws pos) (eCallK n km idx F ml mk) := by
  subst hkm
  obtain ⟨t, pa, s⟩ := ha
  obtain ⟨t2, pk, s2⟩ := hw
  refine ⟨fun σ H Q => tCallN n ks.length (spF C.X.K C.X.mg pl F) (permK idx) (WE C.W σ) t t2 σ H Q, ⟨fun pins s0 σ H Q I h => ?_⟩, ⟨fun env h σ H ι Q R V q => ?_⟩⟩
  · refine wpAny_Call_Name_kw (ld_glob (x := x) I hg hm ?_ hdb)
    refine PySem.W.callWith_KW (h₀ := C.X.base) I.ok.mod.kin hk hall (thn (pa.run pos pins s0 σ H _ I h) fun us s1 h1 => ?_) hpl he
    obtain ⟨vs, H1, I1, r, q⟩ := h1
    refine thn (pk.run pos pins s1 σ H1 _ I1 q) fun ws s2 h2 => ?_
    obtain ⟨zs, H2, I2, rz, l1, l2, q2⟩ := h2
    refine ⟨I2.kIn, ?_⟩
    rw [hks]
    exact runK F0 hr hb (passAt tk σ) I2 r rz l1 l2 q2
  · refine s.run env h σ H ι _ R V ?_
    unfold eCallK at q
    cases hm : ml env h with
    | ok ds h1 =>
      rw [hm] at q
      refine fun ι' H' vs x R' r => ?_
      refine s2.run env h1 σ H' ι' _ R' (V.ext R x) ?_
      have q1 : PostE C ι h.length H σ ((mk env h1).then fun es h2 => if ds.length = n ∧ es.length = ks.length then F (permK idx ds es) h2 else .stuck) Q := q
      cases hm2 : mk env h1 with
      | ok es h2 =>
        rw [hm2] at q1
        refine fun ι2 H2 zs x2 R2 r2 => ?_
        have q2 : PostE C ι h.length H σ (if ds.length = n ∧ es.length = ks.length then F (permK idx ds es) h2 else .stuck) Q := q1
        by_cases hd : ds.length = n ∧ es.length = ks.length
        · rw [if_pos hd] at q2
          have r3 := permK_RDs (r.mono (x2.grow R')) r2 idx
          refine ⟨by rw [← r.length]; exact hd.1, by rw [← r2.length]; exact hd.2, ?_⟩
          exact spF.of R2 r3 (by rw [← r3.length]; exact hpl2 _ _ hd.1 hd.2) (PostE.shift q2 (x.trans x2))
        · rw [if_neg hd] at q2; exact q2.elim
      | exc c fs h2 =>
        rw [hm2] at q1
        exact fun ι2 H2 Cl dd x2 => q1 ι2 H2 Cl dd (x.trans x2)
      | stuck => rw [hm2] at q1; exact q1
    | exc c fs h1 => rw [hm] at q; exact q
    | stuck => rw [hm] at q; exact q
end
end Rf

/-! enumerate over a tuple -/
namespace Rf
open PySem PySem.Spec PyProof.Rows L2
set_option maxHeartbeats 1000000 in
theorem enumT_new (t : Addr) (its : Array Value) :
    Meets (Builtin.«enumerate.__new__» ⟨[.type "enumerate", .ref t], []⟩) (fun _ R s => s.heap.IsTuple t its ∧
      R (.ok (.ret (.ref (s.heap.push { cls := .type "tuple_iterator", data := .fields #[.ref t, .int 0 0] }).objs.size)))
        { s with heap := (s.heap.push { cls := .type "tuple_iterator", data := .fields #[.ref t, .int 0 0] }).push { cls := .type "enumerate", data := .fields #[.none, .bool false, .ref s.heap.objs.size, rawInt 0, .none, .none] } }) :=
  .of_wp fun prog w A R s hyp => by
    obtain ⟨hp, g, d, tk, os⟩ := s
    obtain ⟨ht, hR⟩ := hyp
    have hT : Heap.IsTuple (Shared.heap ⟨hp, g, d, tk, os⟩) t its := ht
    have hsub := sub_enumerate
    obtain ⟨⟨c0, dc, dt, sl⟩, ho, hc0, n, hd0⟩ := ht
    replace hc0 : c0 = .type "tuple" := hc0
    replace hd0 : dt = .seq its n := hd0
    subst hc0 hd0
    wp_walk using AutoSeq1.wpAny_loadPart' ho
    refine wpAny_stack_any fun st => wpAny_pure ?_
    split
    · rename_i c _ _ _ _ _
      cases (c == Value.type "enumerate")
      · wp_walk using AutoSeq1.wpAny_loadPart' ho, wpAny_pyIter_tuple hT
        exact ⟨_, rfl, hR⟩
      · wp_walk using AutoSeq1.wpAny_loadPart' ho, wpAny_pyIter_tuple hT
        exact ⟨_, rfl, hR⟩
    · wp_walk using AutoSeq1.wpAny_loadPart' ho, wpAny_pyIter_tuple hT
      exact ⟨_, rfl, hR⟩
theorem callEnumT {prog : Program} {w : World} {A : Around} {E : Value → Shared → Prop} {s : Shared} {t : Addr} {its : Array Value} {Q : Value → Shared → Prop} (ht : s.heap.IsTuple t its)
    (k : ∀ h', IsEnum h' (s.heap.objs.size + 1) s.heap.objs.size 0 .none → h'.IsTupleIter s.heap.objs.size t 0 → (∀ b o, s.heap.get? b = some o → h'.get? b = some o) → Q (.ref (s.heap.objs.size + 1)) { s with heap := h' }) :
    wpAny (model prog w) A (call (.type "enumerate") [.ref t]) Q E s := by
  refine callType_new F.called_enumerate (by decide) (F.typeCall_enumerate_1 _) (F.newCall_enumerate_1 _) (fun obj => F.args_object_init_2 obj _) F.entry_enumerate_new (enumT_new t its) ⟨ht, ?_⟩
  generalize hi : (Obj.mk (.type "tuple_iterator") none (.fields #[.ref t, .int 0 0]) #[]) = io
  have hz : (s.heap.push io).objs.size = s.heap.objs.size + 1 := Heap.size_push ..
  show _ ∧ _
  rw [hz]
  have he := Heap.get?_push_size (s.heap.push io) (o := { cls := .type "enumerate", data := .fields #[.none, .bool false, .ref s.heap.objs.size, rawInt 0, .none, .none] }) rfl
  rw [hz] at he
  refine ⟨⟨_, he, rfl⟩, k _ he ⟨io, Heap.get?_push_of_some _ (Heap.get?_push_size _ (by rw [← hi]; rfl)), by rw [← hi], by rw [← hi]; rfl⟩ ?_⟩
  exact fun b o x => Heap.get?_push_of_some _ (Heap.get?_push_of_some _ x)
/-- the tuple at a as it stands, each item with its number in a new pair -/
def IeT (K : PySem.W.Frag) (a : Addr) : It :=
  ⟨fun i H => ∃ (xs : List V) (x : V), SqT K H a xs ∧ xs[i]? = some x, fun i H v H' => ∃ T x, v = .ref T ∧ H T = none ∧ H' = upd H T (.tup [.int (i : Nat), x]) ∧ ∀ xs, SqT K H a xs → xs[i]? = some x, fun i H => ∃ xs : List V, SqT K H a xs ∧ xs.length ≤ i⟩
theorem tup_ne_iter {h : Heap} {a it : Addr} {i : Nat} {its : Array Value} (p : h.IsTuple a its) (q : h.IsTupleIter it a i) : a ≠ it := by
  obtain ⟨o, e1, c1, _⟩ := p
  obtain ⟨o', e2, c2, _⟩ := q
  rintro rfl
  rw [e1] at e2
  cases e2
  exact absurd (Value.type.inj (c1.symm.trans c2)) (by decide)
theorem tup_ne_enum {h : Heap} {a e it : Addr} {i : Int} {old : Value} {its : Array Value} (p : h.IsTuple a its) (q : IsEnum h e it i old) : a ≠ e := by
  obtain ⟨o, e1, c1, _⟩ := p
  rintro rfl
  rw [show h.get? a = _ from q] at e1
  cases e1
  exact absurd (Value.type.inj c1) (by decide)
theorem turn_enumT {P : Program} {w : World} {K : PySem.W.Frag} {elts : List Expr} {kk : Nat} {tpos : Pos} (a e it : Addr) :
    Turn P w K (.Tuple elts kk tpos) (IeT K a) [e, it] e (fun i h => (∃ old, IsEnum h e it ((i : Nat) : Int) old) ∧ h.IsTupleIter it a i ∧ e ≠ it) where
  mem := by simp
  obj := fun i h st b hb => by
    obtain ⟨⟨old, he⟩, ⟨o, ho, _, hd⟩, _⟩ := st
    rcases List.mem_cons.mp hb with z | z
    · subst z; exact ⟨_, he, fun v q => nomatch q⟩
    · rw [List.mem_singleton] at z
      subst z; exact ⟨o, ho, fun v q => by rw [hd] at q; cases q⟩
  keep := fun i h h' st k => by
    obtain ⟨⟨old, he⟩, hi, hne⟩ := st
    exact ⟨⟨old, k e (by simp) _ he⟩, hi.at fun o q => k it (by simp) o q, hne⟩
  item := by
    intro X hP hw hK hc i pins s σ H E I hf st hg
    subst hP hw hK
    obtain ⟨⟨old, he⟩, hit, hne⟩ := st
    obtain ⟨xs, x, hq, hx⟩ := hg
    obtain ⟨its, rv, p, hz⟩ := I.tuple hq
    obtain ⟨u, hu, ru⟩ := rv.get hx
    have p' : s.heap.IsTuple a its.toArray := p
    have hai := tup_ne_iter p' hit
    have hae := tup_ne_enum p' he
    have hel := Heap.lt_size he
    have hil : it < s.heap.objs.size := by
      obtain ⟨_, q, _⟩ := hit
      exact Heap.lt_size q
    have hlt : i < its.toArray.size := by
      have := (List.getElem?_eq_some_iff.mp hu).1
      simpa using this
    refine wpAny_pyNext_enum_itemC (Draws.tuple (A := X.A.in1) (show X.A.in1.handled = none from I.ok.hd hc) it a hai its.toArray) he ⟨hit, p'⟩ hlt hne (by simp; exact ⟨hne, Ne.symm hae⟩) fun y h' tk hy ho hst hT hsz hk => ?_
    obtain rfl : y = u := by
      have : its[i]? = some y := by simpa using hy
      rw [hu] at this; cases this; rfl
    refine ⟨_, rfl, wpAny_letOwnedTupleGo_enum (s := { s with heap := h', toks := tk + 1 }) ho fun h2 he2 sb => ?_⟩
    have hT2 := (sb.2 _ (Nat.ne_of_gt hel)).trans hT
    obtain ⟨T, hTT⟩ : ∃ T, T = s.heap.objs.size := ⟨_, rfl⟩
    rw [← hTT] at hT2 ⊢
    have new : ObjOk X.prog X.w (upd H T (.tup [.int (i : Nat), x])) h2 T (.tup [.int (i : Nat), x]) := by
      refine ⟨by show 2 ≤ sizeLine; decide, [.int i tk, y], .cons ⟨_, rfl⟩ (.cons ru .nil), ⟨_, hT2, rfl, _, rfl⟩⟩
    have kp : ∀ b ob, b ∉ [e, it] → s.heap.get? b = some ob → h2.get? b = some ob := fun b ob hb q =>
      (sb.2 b (fun z => hb (by simp [z]))).trans (hk b ob (fun z => hb (by simp [z])) (fun z => hb (by simp [z])) q)
    have I1 := I.turnedNew (t' := tk + 1) kp hf (by rw [hTT]; exact Nat.le_refl _) new
    have fT : H T = none := I.hok.fresh (by rw [hTT]; exact Nat.le_refl _)
    refine ⟨.ref T, _, I1, rfl, ⟨T, x, rfl, fT, rfl, fun ys hy => by rw [I.tuple_inj hy hq]; exact hx⟩, ⟨⟨y, ?_⟩, ?_, hne⟩, fun b hb => ?_⟩
    · rw [show ((i + 1 : Nat) : Int) = (i : Int) + 1 by omega]; exact he2
    · exact hst.1.at fun o q => (sb.2 it (Ne.symm hne)).trans q
    · have hb' : b < T := by
        rw [hTT]
        rcases List.mem_cons.mp hb with z | z
        · rw [z]; exact hel
        · rw [List.mem_singleton.mp z]; exact hil
      rw [upd_ne (Nat.ne_of_lt hb')]
      exact (hf b hb).1
  done := by
    intro X hP hw hK hc i pins s σ H E I hf st hg
    subst hP hw hK
    obtain ⟨⟨old, he⟩, hit, hne⟩ := st
    obtain ⟨xs, hq, hx⟩ := hg
    obtain ⟨its, rv, p, hz⟩ := I.tuple hq
    have p' : s.heap.IsTuple a its.toArray := p
    obtain ⟨f0, f1, f2, f3, f4, f5⟩ := hf it (by simp)
    have hl := rv.length
    have hh : X.A.in1.handled = none := I.ok.hd hc
    have D : Draws X.prog X.w X.A.in1 it [it, a] i (fun _ _ => True) (fun j h => j = i ∧ h.IsTupleIter it a i ∧ h.IsTuple a its.toArray) := by
      refine ⟨fun j h z => ?_, fun j h h' z k => ?_, fun j s Q E hj z => absurd z.1 (Nat.ne_of_lt hj), fun s Q E z k => ?_⟩
      · obtain ⟨_, ⟨o, ho, _⟩, _⟩ := z
        exact ⟨o, ho⟩
      · exact ⟨z.1, z.2.1.at fun o q => k it (by simp) o q, z.2.2.at fun o q => k a (by simp) o q⟩
      · exact wpAny_nextOf_tuple_end hh z.2.1 z.2.2 (by simp; omega) k
    exact wpAny_pyNext_enum_endD D he ⟨rfl, hit, p'⟩ fun h' eb => ⟨rfl, I.turned (t' := s.toks) (fun b o hb q => eb b o hb q) f0 f1 f3 f4 f5⟩
  self := fun A i s Q E st h => by
    obtain ⟨⟨old, he⟩, _⟩ := st
    exact wpAny_pyIter_enum he h
def iEnumT (K : PySem.W.Frag) (ta : TA) : TI := fun σ H R => ta σ H fun vs H1 => ∃ a xs, vs = [.ref a] ∧ SqT K H1 a xs ∧ R (IeT K a) H1
theorem pi_enumT {X : Cx} {e : Expr} {ta : TA} {p pos tpos : Pos} {elts : List Expr} {kk : Nat} (hg : Gl X "enumerate") (hm : X.mg "enumerate" = none) (ha : PA X [e] ta) (hs : starEach [e] X.env = [(false, eval e X.env)] := by rfl) :
    PI X (.Tuple elts kk tpos) (.Call (.Name "enumerate" p) [e] [] pos) (iEnumT X.K ta) := by
  refine ⟨fun pins s σ H R I h => Call_ (ld_blt I hg hm boot_enumerate (PyProof.Rows.callWith_type1 (thn (ha.run pos pins s σ H _ I h) fun us s1 hyp => ?_) hs rfl))⟩
  obtain ⟨vs, H1, I1, r1, a, xs, ex, hq, q⟩ := hyp
  subst ex
  cases r1 with
  | cons r rr =>
    cases rr
    cases r
    obtain ⟨its, rv, p', hz⟩ := I1.tuple hq
    refine callEnumT p' fun h' he hit hk => wpAny_pyIter_enum he ?_
    obtain ⟨N, hN⟩ : ∃ N, N = s1.heap.objs.size := ⟨_, rfl⟩
    rw [← hN] at he hit ⊢
    have I2 : Inv X pins σ H1 { s1 with heap := h' } := I1.kept (t' := s1.toks) hk
    refine ⟨N + 1, [N + 1, N], _, _, H1, rfl, I2, turn_enumT a (N + 1) N, ⟨⟨.none, he⟩, hit, Nat.succ_ne_self _⟩, fun b hb => ?_, q⟩
    have hle : s1.heap.objs.size ≤ b := by
      rw [← hN]
      rcases List.mem_cons.mp hb with z | z
      · rw [z]; exact Nat.le_succ _
      · rw [List.mem_singleton] at z
        rw [z]; exact Nat.le_refl _
    exact I1.fpOk hle (I1.hok.fresh hle)
/-- the items with their numbers -/
def numD (ds : List D) : List D := ds.mapIdx fun i d => .tup [.int (i : Nat), d]
theorem numD_at {ds : List D} {i : Nat} : (numD ds)[i]? = (ds[i]?).map fun d => .tup [.int (i : Nat), d] := by unfold numD; rw [List.getElem?_mapIdx]
def iEnum1 (m : EM) : IM := fun e h => match m e h with
  | .ok (.tup ds) h1 => .ok (stat (numD ds)) h1
  | .ok _ _ => .stuck
  | .exc c fs h1 => .exc c fs h1
  | .stuck => .stuck
section
variable {C : Ct} {a : Expr} {m : EM} {p pos tpos : Pos} {elts : List Expr} {kk : Nat}
theorem itr_enumT {K : PySem.W.Frag} {ι : Nat → Addr} {h : AH} {H : Hp} {ds : List D} {vs : List V} {a : Addr} (R0 : Rel K ι h H) (q : SqT K H a vs) (r : RDs K ι h.length H ds vs) : ItR K (IeT K a) (stat (numD ds)) ι h.length H := by
  refine itr_stat fun i ι' h' H' x R => ⟨fun e => ⟨vs, R0.sqT x q, ?_⟩, fun d e => ?_⟩
  · rw [numD_at] at e
    rw [← r.length]
    refine List.getElem?_eq_none_iff.mp ?_
    cases hd : ds[i]? with
    | none => rfl
    | some d => rw [hd] at e; cases e
  · rw [numD_at] at e
    cases hd : ds[i]? with
    | none => rw [hd] at e; cases e
    | some d0 =>
      rw [hd] at e
      cases e
      obtain ⟨v, ev, rv⟩ := r.get hd
      refine ⟨⟨vs, v, R0.sqT x q, ev⟩, fun y H2 hy => ?_⟩
      obtain ⟨T, x0, rfl, hT, rfl, hx⟩ := hy
      have e2 := hx vs (R0.sqT x q)
      rw [ev] at e2
      cases e2
      have xx : Ext ι' h'.length H' ι' h'.length (upd H' T (.tup [.int (i : Nat), v])) := Ext.tup hT
      refine ⟨ι', xx, R.tup hT xx, RD.tup.mpr ⟨T, _, rfl, .inl (.inl upd_same), ?_⟩⟩
      have rv2 : RD K ι' h'.length H' d0 v := rv.mono (x.grow R0)
      exact RDs.cons' (RD.int.mpr rfl) (RDs.cons' (rv2.mono (xx.grow R)) RDs.nil')
theorem mi_enum1 (hm : C.X.mg "enumerate" = none) (ha : ME C a m) (hg : Gl C.X "enumerate" := by rfl) (hs : starEach [a] C.X.env = [(false, eval a C.X.env)] := by rfl) (na : starEach [a] C.X.env = (false, eval a C.X.env) :: starEach [] C.X.env := by rfl) :
    MI C (.Tuple elts kk tpos) (.Call (.Name "enumerate" p) [a] [] pos) (iEnum1 m) := by
  obtain ⟨t, pa, sa⟩ := ha
  refine ⟨_, pi_enumT hg hm (pa_cons pa pa_nil na) hs, ⟨fun env h σ H ι Q R V p => ?_⟩⟩
  refine sa.run env h σ H ι _ R V ?_
  unfold iEnum1 at p
  cases hm : m env h with
  | exc c fs h1 => rw [hm] at p; exact p
  | stuck => rw [hm] at p; exact p
  | ok d h1 =>
    rw [hm] at p
    cases d with
    | tup ds =>
      refine fun ι' H' v x R' r => ?_
      obtain ⟨a, vs, rfl, s, rr⟩ := RD.tup.mp r
      exact ⟨a, vs, rfl, s, p.here x R' (itr_enumT R' s rr)⟩
    | _ => exact (show False from p).elim
end
end Rf

set_option maxHeartbeats 1000000
/-! sorted of ints -/
namespace Rf
open PySem PySem.Spec PyProof.Rows L2
def intSort (ns : List Int) : List Int := ns.mergeSort fun a b => decide (a ≤ b)
theorem intSort_perm (ns : List Int) : (intSort ns).Perm ns := List.mergeSort_perm _ _
theorem intSort_up (ns : List Int) : (intSort ns).Pairwise (· ≤ ·) := by
  have := List.pairwise_mergeSort (le := fun a b : Int => decide (a ≤ b)) (fun a b c h1 h2 => by simp at *; omega) (fun a b => by simp; omega) ns
  exact this.imp fun h => by simpa using h
theorem intSort_eq {ns ys : List Int} (p : ys.Perm ns) (u : ys.Pairwise (· ≤ ·)) : ys = intSort ns :=
  List.Perm.eq_of_pairwise (le := (· ≤ ·)) (fun a b _ _ h1 h2 => Int.le_antisymm h1 h2) u (intSort_up ns) (p.trans (intSort_perm ns).symm)
/-- the keys of a dict, all ints -/
def keysI : List (Key × D) → Option (List Int)
  | [] => some []
  | (.inl i, _) :: r => (keysI r).map (i :: ·)
  | _ => none
theorem keysI_eq : ∀ {kvs : List (Key × D)} {ns : List Int}, keysI kvs = some ns → kvs.map (·.1) = ns.map Sum.inl
  | [], ns, e => by cases e; rfl
  | (.inl i, d) :: r, ns, e => by
    unfold keysI at e
    cases q : keysI r with
    | none => rw [q] at e; cases e
    | some ms => rw [q] at e; cases e; rw [List.map_cons, List.map_cons, keysI_eq q]
  | (.inr s, d) :: r, ns, e => by cases e
open Classical in
noncomputable def cSorted (ds : List D) (h : AH) : ER := match ds with
  | [.ref i] => (match h[i]? with
    | some (.lst es) => (match intsOf es with
      | some ns => .ok (.ref h.length) (h ++ [.lst ((intSort ns).map D.int)])
      | none => .stuck)
    | some (.dK kvs) => (match keysI kvs with
      | some ns => if ns.length < 64 then .ok (.ref h.length) (h ++ [.lst ((intSort ns).map D.int)]) else .stuck
      | none => .stuck)
    | _ => .stuck)
  | _ => .stuck
theorem RDs.mk_ints {K : PySem.W.Frag} {ι : Nat → Addr} {n : Nat} {H : Hp} : ∀ ns : List Int, RDs K ι n H (ns.map D.int) (ns.map V.int)
  | [] => RDs.nil'
  | n :: ns => RDs.cons' (RD.int.mpr rfl) (RDs.mk_ints ns)
section
variable {C : Ct}
theorem cs_sorted : CallS C (fun vs H Q => rSortedI C.X.K vs H Q ∨ ∃ (a : Addr) (kvs : List (Key × V)) (ks : List Int), vs = [.ref a] ∧ Rd H a (.dK kvs) ∧ kvs.map (·.1) = ks.map Sum.inl ∧ ks.length < 64 ∧
    ∀ (ys : List Int) (p : Addr), ys.Perm ks → ys.Pairwise (· ≤ ·) → H p = none → Q (.ref p) (upd H p (.lst (ys.map V.int)))) cSorted := by
  intro ι h H σ xs ds Q R r p
  unfold cSorted at p
  split at p
  · rename_i i
    obtain ⟨v, rfl, q1⟩ := r.one
    split at p
    · rename_i es e
      split at p
      · rename_i ns e2
        obtain ⟨vs, rfl, e1, rr⟩ := q1.list R e
        have hs : SqL C.X.K H (ι i) vs := SqL.of e1
        rw [intsOf_eq e2] at rr
        rw [rr.ints] at hs
        refine .inl ⟨_, ns, rfl, hs, fun ns' p' pm up hp => ?_⟩
        rw [intSort_eq pm up]
        exact PostE.lst p R (RDs.mk_ints _) hp
      · exact p.elim
    · rename_i kvs e
      split at p
      · rename_i ns e2
        split at p
        · rename_i h64
          have hr := R.ob i _ e
          obtain ⟨ws, hw, hk, rr⟩ := hr
          have ev := RD.ref.mp q1
          refine .inr ⟨ι i, ws, ns, by rw [ev.2], .inl hw, by rw [← hk]; exact keysI_eq e2, h64, fun ys p' pm up hp => ?_⟩
          rw [intSort_eq pm up]
          exact PostE.lst p R (RDs.mk_ints _) hp
        · exact p.elim
      · exact p.elim
    · exact p.elim
  · exact p.elim
theorem cr_sorted2 (hcalm : C.X.calm = true) : CallR C.X (.builtin "sorted") (fun vs H Q => rSortedI C.X.K vs H Q ∨ ∃ (a : Addr) (kvs : List (Key × V)) (ks : List Int), vs = [.ref a] ∧ Rd H a (.dK kvs) ∧ kvs.map (·.1) = ks.map Sum.inl ∧ ks.length < 64 ∧
    ∀ (ys : List Int) (p : Addr), ys.Perm ks → ys.Pairwise (· ≤ ·) → H p = none → Q (.ref p) (upd H p (.lst (ys.map V.int)))) := CallR.or cr_sortedI (call_sortedDI hcalm)
end
end Rf

set_option maxHeartbeats 1000000
/-! dicts whose keys are ints and texts -/
namespace Rf
open PySem PySem.Spec PyProof.Rows L2
def keyD : D → Option Key
  | .int i => some (.inl i)
  | .str s => some (.inr s)
  | _ => none
def valD (kvs : List (Key × D)) (k : Key) : Option D := (kvs.find? fun kv => decide (kv.1 = k)).map (·.2)
def setD (kvs : List (Key × D)) (k : Key) (v : D) : List (Key × D) :=
  if (kvs.any fun kv => decide (kv.1 = k)) = true then kvs.map (fun kv => if kv.1 = k then (kv.1, v) else kv) else kvs ++ [(k, v)]
section
variable {K : PySem.W.Frag} {ι : Nat → Addr} {n : Nat} {H : Hp}
theorem keyD_V {d : D} {k : Key} {v : V} (r : RD K ι n H d v) (e : keyD d = some k) : v = kV k := by
  cases d with
  | int i => cases e; exact RD.int.mp r
  | str s => cases e; exact RD.str.mp r
  | _ => cases e
theorem valD_V : ∀ {kvs : List (Key × D)} {ws : List (Key × V)} (k : Key), kvs.map (·.1) = ws.map (·.1) → RDs K ι n H (kvs.map (·.2)) (ws.map (·.2)) →
    (valD kvs k = none ∧ valV ws k = none) ∨ ∃ d v, valD kvs k = some d ∧ valV ws k = some v ∧ RD K ι n H d v
  | [], [], k, _, _ => .inl ⟨rfl, rfl⟩
  | [], w :: ws, k, e, _ => by cases e
  | kv :: kvs, [], k, e, _ => by cases e
  | kv :: kvs, w :: ws, k, e, r => by
    obtain ⟨v, vs, e1, r1, r2⟩ := RDs.cons.mp r
    rw [List.map_cons] at e1
    injection e1 with e2 e3
    rw [List.map_cons, List.map_cons] at e
    injection e with e4 e5
    rw [← e3] at r2
    have ih := valD_V (kvs := kvs) (ws := ws) k e5 r2
    unfold valD valV at *
    by_cases h : kv.1 = k
    · have h2 : w.1 = k := by rw [← e4]; exact h
      rw [List.find?_cons_of_pos (by simpa using h), List.find?_cons_of_pos (by simpa using h2)]
      exact .inr ⟨kv.2, w.2, rfl, rfl, by rw [e2]; exact r1⟩
    · have h2 : ¬ w.1 = k := by rw [← e4]; exact h
      rw [List.find?_cons_of_neg (by simpa using h), List.find?_cons_of_neg (by simpa using h2)]
      exact ih
theorem any_keys {α β : Type} (k : Key) : ∀ {kvs : List (Key × α)} {ws : List (Key × β)}, kvs.map (·.1) = ws.map (·.1) → (kvs.any fun kv => decide (kv.1 = k)) = ws.any fun kv => decide (kv.1 = k)
  | [], [], _ => rfl
  | [], w :: ws, e => by cases e
  | kv :: kvs, [], e => by cases e
  | kv :: kvs, w :: ws, e => by
    rw [List.map_cons, List.map_cons] at e
    injection e with e4 e5
    rw [List.any_cons, List.any_cons, any_keys k e5, e4]
theorem setD_V {kvs : List (Key × D)} {ws : List (Key × V)} (k : Key) {d : D} {v : V} (e : kvs.map (·.1) = ws.map (·.1)) (r : RDs K ι n H (kvs.map (·.2)) (ws.map (·.2))) (rv : RD K ι n H d v) :
    (setD kvs k d).map (·.1) = (putK ws k v).map (·.1) ∧ RDs K ι n H ((setD kvs k d).map (·.2)) ((putK ws k v).map (·.2)) := by
  unfold setD putK
  rw [any_keys k e]
  by_cases q : (ws.any fun kv => decide (kv.1 = k)) = true
  · rw [if_pos q, if_pos q]
    clear q
    induction kvs generalizing ws with
    | nil =>
      cases ws with
      | nil => exact ⟨rfl, RDs.nil'⟩
      | cons w ws => cases e
    | cons kv kvs ih =>
      cases ws with
      | nil => cases e
      | cons w ws =>
        obtain ⟨v0, vs, e1, r1, r2⟩ := RDs.cons.mp r
        rw [List.map_cons] at e1
        injection e1 with e2 e3
        rw [List.map_cons, List.map_cons] at e
        injection e with e4 e5
        rw [← e3] at r2
        obtain ⟨i1, i2⟩ := ih e5 r2
        by_cases h : kv.1 = k
        · have h2 : w.1 = k := by rw [← e4]; exact h
          simp only [List.map_cons, if_pos h, if_pos h2]
          exact ⟨by rw [e4, i1], RDs.cons' rv i2⟩
        · have h2 : ¬ w.1 = k := by rw [← e4]; exact h
          simp only [List.map_cons, if_neg h, if_neg h2]
          exact ⟨by rw [e4, i1], RDs.cons' (by rw [e2]; exact r1) i2⟩
  · rw [if_neg q, if_neg q]
    rw [List.map_append, List.map_append, List.map_append, List.map_append, e]
    exact ⟨rfl, RDs.append r (RDs.cons' rv RDs.nil')⟩
end
def dictOf (h : AH) : D → Option (List (Key × D))
  | .ref i => match h[i]? with
    | some (.dK kvs) => some kvs
    | _ => none
  | _ => none
theorem dictOf_rel {K : PySem.W.Frag} {ι : Nat → Addr} {h : AH} {H : Hp} {d : D} {v : V} {kvs : List (Key × D)} (R : Rel K ι h H) (r : RD K ι h.length H d v) (e : dictOf h d = some kvs) :
    ∃ i ws, d = .ref i ∧ i < h.length ∧ v = .ref (ι i) ∧ H (ι i) = some (.dK ws) ∧ kvs.map (·.1) = ws.map (·.1) ∧ RDs K ι h.length H (kvs.map (·.2)) (ws.map (·.2)) := by
  unfold dictOf at e
  split at e
  · rename_i i
    split at e
    · rename_i kvs' e2
      cases e
      obtain ⟨ws, hw, hk, rr⟩ := R.ob i _ e2
      have ev := RD.ref.mp r
      exact ⟨i, ws, rfl, ev.1, ev.2, hw, hk, rr⟩
    · cases e
  · cases e
def oDGet (a b : D) (h : AH) : ER := match dictOf h a, keyD b with
  | some kvs, some k => (match valD kvs k with
    | some d => .ok d h
    | none => .stuck)
  | _, _ => .stuck
def oDIn (b a : D) (h : AH) : ER := match dictOf h a, keyD b with
  | some kvs, some k => .ok (.bl (valD kvs k).isSome) h
  | _, _ => .stuck
def oDNotIn (b a : D) (h : AH) : ER := match dictOf h a, keyD b with
  | some kvs, some k => .ok (.bl (!(valD kvs k).isSome)) h
  | _, _ => .stuck
def rDGet : R2 := fun x y H Q => ∃ a v, x = .ref a ∧ DGet H a y (some v) ∧ Q v H
def rDIn : R2 := fun y x H Q => ∃ a o, x = .ref a ∧ DGet H a y o ∧ Q (.bl o.isSome) H
def rDNotIn : R2 := fun y x H Q => ∃ a o, x = .ref a ∧ DGet H a y o ∧ Q (.bl (!o.isSome)) H
open Classical in
noncomputable def putD (o i v : D) (h : AH) : Option AH := match o, dictOf h o, keyD i with
  | .ref r, some kvs, some k => if kvs.length < sizeLine then some (h.set r (.dK (setD kvs k v))) else none
  | _, _, _ => none
section
variable {C : Ct} {a b : Expr} {ma mb : EM} {pos : Pos}
theorem os_dget : OpS C rDGet oDGet := by
  intro ι h H σ x y d1 d2 Q R r1 r2 p
  unfold oDGet at p
  split at p
  · rename_i kvs k e1 e2
    obtain ⟨i, ws, rfl, hi, rfl, hw, hk, rr⟩ := dictOf_rel R r1 e1
    rcases valD_V k hk rr with ⟨q, _⟩ | ⟨d, v, q1, q2, q3⟩
    · rw [q] at p; exact p.elim
    · rw [q1] at p
      refine ⟨ι i, v, rfl, ?_, p.here R q3⟩
      rw [keyD_V r2 e2, ← q2]
      exact DGet.k hw
  · exact p.elim
theorem os_din : OpS C rDIn oDIn := by
  intro ι h H σ x y d1 d2 Q R r1 r2 p
  unfold oDIn at p
  split at p
  · rename_i kvs k e1 e2
    obtain ⟨i, ws, rfl, hi, rfl, hw, hk, rr⟩ := dictOf_rel R r2 e1
    refine ⟨ι i, valV ws k, rfl, by rw [keyD_V r1 e2]; exact DGet.k hw, ?_⟩
    have e3 : (valV ws k).isSome = (valD kvs k).isSome := by
      rcases valD_V k hk rr with ⟨q1, q2⟩ | ⟨d, v, q1, q2, q3⟩ <;> rw [q1, q2] <;> rfl
    rw [e3]
    exact p.here R (RD.bl.mpr rfl)
  · exact p.elim
theorem os_dnotin : OpS C rDNotIn oDNotIn := by
  intro ι h H σ x y d1 d2 Q R r1 r2 p
  unfold oDNotIn at p
  split at p
  · rename_i kvs k e1 e2
    obtain ⟨i, ws, rfl, hi, rfl, hw, hk, rr⟩ := dictOf_rel R r2 e1
    refine ⟨ι i, valV ws k, rfl, by rw [keyD_V r1 e2]; exact DGet.k hw, ?_⟩
    have e3 : (valV ws k).isSome = (valD kvs k).isSome := by
      rcases valD_V k hk rr with ⟨q1, q2⟩ | ⟨d, v, q1, q2, q3⟩ <;> rw [q1, q2] <;> rfl
    rw [e3]
    exact p.here R (RD.bl.mpr rfl)
  · exact p.elim
theorem me_dget (hu : C.X.A.units + 1 < cLine) (ha : ME C a ma) (hb : ME C b mb) (hs : NoSl b := by intro _ _; rfl) : ME C (.Subscript a b pos) (eOp oDGet ma mb) := by
  obtain ⟨ta, pa, sa⟩ := ha
  obtain ⟨tb, pb, sb⟩ := hb
  exact ⟨_, pe_dget hu pa pb hs, sa.op sb os_dget⟩
theorem ss_dict : SetS C rSetD putD := by
  intro ι h H x y z d1 d2 d3 h' Q R r1 r2 r3 e k
  unfold putD at e
  split at e
  · rename_i r kvs key e2 e1
    split at e
    · rename_i hl
      cases e
      obtain ⟨i, ws, ei, hi, rfl, hw, hk, rr⟩ := dictOf_rel R r1 e1
      cases ei
      have ll : ws.length < sizeLine := by
        have := congrArg List.length hk
        rw [List.length_map, List.length_map] at this
        exact Nat.lt_of_le_of_lt (Nat.le_of_eq this.symm) hl
      refine ⟨ι r, _, rfl, by rw [keyD_V r2 e2]; exact DPut.k hw ll, ?_⟩
      refine k ι _ (by rw [List.length_set]; exact Ext.put R hi) (R.put hi fun xx => ⟨_, upd_same, ?_⟩)
      obtain ⟨s1, s2⟩ := setD_V key hk rr r3
      exact ⟨s1, s2.mono (xx.grow R)⟩
    · cases e
  · cases e
/-- {} -/
def eDict : EM := fun _ h => .ok (.ref h.length) (h ++ [.dK []])
theorem me_dict : ME C (.Dict [] [] pos) eDict := by
  refine ⟨_, pe_dnewK, ⟨fun env h σ H ι Q R V p => fun a ha => ?_⟩⟩
  have el : (h ++ [AO.dK []]).length = h.length + 1 := by simp
  have x : Ext ι h.length H (ιset ι h.length a) (h.length + 1) (upd H a (.dK [])) := Ext.new ha
  refine p (ιset ι h.length a) _ (.ref a) (by rw [el]; exact x) (R.new ha fun x => ⟨[], upd_same, rfl, RDs.nil'⟩) ?_
  rw [el]
  exact RD.ref.mpr ⟨Nat.lt_succ_self _, by rw [ιset_same]⟩
end
end Rf

set_option maxHeartbeats 1000000
/-! tests on dicts, a list turned round -/
namespace Rf
open PySem PySem.Spec PyProof.Rows L2
section
variable {C : Ct} {a b : Expr} {ma mb : EM} {pos : Pos}
theorem me_din (hu : C.X.A.units + 1 < cLine) (ha : ME C a ma) (hb : ME C b mb) (hm : behindInMarks .In b = false := by rfl) : ME C (.Compare a [.In] [b] pos) (eOp oDIn ma mb) := by
  obtain ⟨ta, pa, sa⟩ := ha
  obtain ⟨tb, pb, sb⟩ := hb
  exact ⟨_, pe_cmp (pc_din hu pa pb) hm, sa.op sb os_din⟩
theorem me_dnotin (hu : C.X.A.units + 1 < cLine) (ha : ME C a ma) (hb : ME C b mb) (hm : behindInMarks .NotIn b = false := by rfl) : ME C (.Compare a [.NotIn] [b] pos) (eOp oDNotIn ma mb) := by
  obtain ⟨ta, pa, sa⟩ := ha
  obtain ⟨tb, pb, sb⟩ := hb
  exact ⟨_, pe_cmp (pc_dnotin hu pa pb) hm, sa.op sb os_dnotin⟩
theorem mt_din (hu : C.X.A.units + 1 < cLine) (ha : ME C a ma) (hb : ME C b mb) (hm : behindInMarks .In b = false := by rfl) : MT C (.Compare a [.In] [b] pos) (eOp oDIn ma mb) := by
  obtain ⟨ta, pa, sa⟩ := ha
  obtain ⟨tb, pb, sb⟩ := hb
  exact ⟨_, pt_cmp (pc_din hu pa pb) hm, (sa.op sb os_din).test⟩
theorem mt_dnotin (hu : C.X.A.units + 1 < cLine) (ha : ME C a ma) (hb : ME C b mb) (hm : behindInMarks .NotIn b = false := by rfl) : MT C (.Compare a [.NotIn] [b] pos) (eOp oDNotIn ma mb) := by
  obtain ⟨ta, pa, sa⟩ := ha
  obtain ⟨tb, pb, sb⟩ := hb
  exact ⟨_, pt_cmp (pc_dnotin hu pa pb) hm, (sa.op sb os_dnotin).test⟩
/-- xs[::-1] of a list -/
def eRev (m : EM) : EM := fun env h => (m env h).then fun d h1 => match listOf h1 d with
  | some ds => .ok (.ref h1.length) (h1 ++ [.lst ds.reverse])
  | none => .stuck
theorem RDs.rev {K : PySem.W.Frag} {ι : Nat → Addr} {n : Nat} {H : Hp} : ∀ {ds : List D} {vs : List V}, RDs K ι n H ds vs → RDs K ι n H ds.reverse vs.reverse
  | [], vs, r => by rw [RDs.nil.mp r]; exact RDs.nil'
  | d :: ds, vs, r => by
    obtain ⟨v, vs', rfl, r1, r2⟩ := RDs.cons.mp r
    rw [List.reverse_cons, List.reverse_cons]
    exact RDs.append (RDs.rev r2) (RDs.cons' r1 RDs.nil')
theorem me_rev {k : Nat} {p1 p2 p3 : Pos} (ha : ME C a ma) : ME C (.Subscript a (.Slice none none (some (.UnaryOp .USub (.Constant (.int 1) k p1) p2)) p3) pos) (eRev ma) := by
  obtain ⟨ta, pa, sa⟩ := ha
  refine ⟨_, pe_revL pa, ⟨fun env h σ H ι Q R V p => ?_⟩⟩
  refine sa.then R V p fun d1 h1 ι1 H1 v1 x1 R1 V1 r1 p1 => ?_
  split at p1
  · rename_i ds e
    obtain ⟨a, vs, rfl, s, rr⟩ := listOf_sq R1 r1 e
    exact ⟨a, vs, rfl, s, fun l hl => PostE.lst p1 R1 (RDs.rev rr) hl⟩
  · exact p1.elim
end
end Rf

set_option maxHeartbeats 1000000
/-! comprehensions with two fors: the new list stands among the things from the start -/
namespace Rf
open PySem PySem.Spec PyProof.Rows L2
noncomputable def app1 (r : Nat) (d : D) (h : AH) : Option AH := match h[r]? with
  | some (.lst ds) => if FitsL ds.length then some (h.set r (.lst (ds ++ [d]))) else none
  | _ => none
noncomputable def lcI (it : AIt) (g : GM) (tt te : EM) (e0 : AE) (r : Nat) : Nat → Nat → AH → Option AH
  | 0, _, _ => none
  | k + 1, i, h => match it.nxt i h with
    | some none => some h
    | some (some d) => (match g d e0 h with
      | .nx e1 h1 => (match tt e1 h1 with
        | .ok (.bl true) h2 => (match te e1 h2 with
          | .ok d2 h3 => (match app1 r d2 h3 with
            | some h4 => lcI it g tt te e0 r k (i + 1) h4
            | none => none)
          | _ => none)
        | .ok (.bl false) h2 => lcI it g tt te e0 r k (i + 1) h2
        | _ => none)
      | _ => none)
    | none => none
noncomputable def lcO (it : AIt) (g : GM) (tt : EM) (mi1 : IM) (g1 : GM) (tt1 te : EM) (vs1 : List Nat) (e0 : AE) (r : Nat) : Nat → Nat → AH → Option AH
  | 0, _, _ => none
  | k + 1, i, h => match it.nxt i h with
    | some none => some h
    | some (some d) => (match g d e0 h with
      | .nx e1 h1 => (match tt e1 h1 with
        | .ok (.bl true) h2 => (match mi1 e1 h2 with
          | .ok it1 h3 => (match lcI it1 g1 tt1 te (wipeE e1 vs1) r (it1.n + 1) 0 h3 with
            | some h4 => lcO it g tt mi1 g1 tt1 te vs1 e0 r k (i + 1) h4
            | none => none)
          | _ => none)
        | .ok (.bl false) h2 => lcO it g tt mi1 g1 tt1 te vs1 e0 r k (i + 1) h2
        | _ => none)
      | _ => none)
    | none => none
noncomputable def eLc2 (mi : IM) (g : GM) (tt : EM) (mi1 : IM) (g1 : GM) (tt1 te : EM) (vs vs1 : List Nat) : EM := fun e h => match mi e h with
  | .ok it h1 => (match lcO it g tt mi1 g1 tt1 te vs1 (wipeE e vs) h1.length (it.n + 1) 0 (h1 ++ [.lst []]) with
    | some h2 => .ok (.ref h1.length) h2
    | none => .stuck)
  | .exc c fs h1 => .exc c fs h1
  | .stuck => .stuck
def canI (C : Ct) (m : IM) : TI := fun σ H Q => ∃ env h ι, Rel C.X.K ι h H ∧ RV C ι h.length H env σ ∧ PostI C ι h.length H σ (m env h) Q
theorem MI.can {C : Ct} {tg e : Expr} {m : IM} (h : MI C tg e m) : PI C.X tg e (canI C m) := by
  obtain ⟨t, p, s⟩ := h
  exact ⟨fun pins st σ H Q I ⟨env, h, ι, R, V, q⟩ => p.run pins st σ H Q I (s.run env h σ H ι Q R V q)⟩
section
variable {C : Ct} {elt tg iter tg1 iter1 : Expr} {ifs ifs1 : List Expr} {scope : Scope} {own : List (Str × Nat)} {vs1 : List Nat} {pos : Pos} {mi mi1 : IM} {g g1 : GM} {t t1 : TG} {mt mt1 me : EM}
theorem SimE.lc2 {ti : TI} (si : SimI C ti mi) (sg : ∀ s H Cc cl fp, SimG (C.blk s H scope Cc cl fp) t g ∧ OnlyAt t (own.map (·.2))) (sg1 : ∀ s H Cc cl fp, SimG (C.blk s H scope Cc cl fp) t1 g1 ∧ OnlyAt t1 vs1) :
    SimE C (tLc2 ti t (canT C.flat mt) (canI C.flat mi1) t1 (canT C.flat mt1) (canE C.flat me) (own.map (·.2)) vs1) (eLc2 mi g mt mi1 g1 mt1 me (own.map (·.2)) vs1) := by
  refine ⟨fun env h σ H ι Q R V p => ?_⟩
  refine si.run env h σ H ι _ R V ?_
  unfold eLc2 at p
  cases hm : mi env h with
  | exc c fs h1 => rw [hm] at p; exact p
  | stuck => rw [hm] at p; exact p
  | ok it h1 =>
    rw [hm] at p
    dsimp only at p
    refine fun ι0 H0 J x0 R0 J0 Dp hD => ?_
    have V0 := V.ext R x0
    cases hl : lcO it g mt mi1 g1 mt1 me vs1 (wipeE env (own.map (·.2))) h1.length (it.n + 1) 0 (h1 ++ [.lst []]) with
    | none => rw [hl] at p; exact (show False from p).elim
    | some hF =>
      rw [hl] at p
      dsimp only at p
      have el : (h1 ++ [AO.lst []]).length = h1.length + 1 := by simp
      have xn : Ext ι0 h1.length H0 (ιset ι0 h1.length Dp) (h1.length + 1) (upd H0 Dp (.lst [])) := Ext.new hD
      have Rn : Rel C.X.K (ιset ι0 h1.length Dp) (h1 ++ [.lst []]) (upd H0 Dp (.lst [])) := R0.new hD fun x => ⟨[], upd_same, RDs.nil'⟩
      refine ⟨fun i m H => ∃ h ι, Ext (ιset ι0 h1.length Dp) (h1.length + 1) (upd H0 Dp (.lst [])) ι h.length H ∧ Rel C.X.K ι h H ∧ RE C.X.K ι h.length H (wipeE env (own.map (·.2))) (L2.wipe σ (own.map (·.2))) ∧
        lcO it g mt mi1 g1 mt1 me vs1 (wipeE env (own.map (·.2))) h1.length m i h = some hF,
        ⟨it.n + 1, h1 ++ [.lst []], ιset ι0 h1.length Dp, by rw [el]; exact .refl, Rn, by rw [el]; exact (V0.re.wipe _).mono (xn.grow R0), hl⟩, ?_⟩
      rintro i m H ⟨h, ι', x, R, E, hq⟩
      cases m with
      | zero => cases hq
      | succ m =>
        obtain ⟨j1, j2⟩ := J0 i ι' h H (xn.trans x) R
        unfold lcO at hq
        cases hn : it.nxt i h with
        | none => rw [hn] at hq; cases hq
        | some od =>
          rw [hn] at hq
          cases od with
          | none =>
            cases hq
            refine .inl ⟨j1 hn, p ι' H (.ref Dp) (x0.trans (xn.trans x)) R (RD.ref.mpr ⟨?_, ?_⟩)⟩
            · have := x.le; omega
            · rw [x.ag _ (by omega), ιset_same]
          | some d =>
            dsimp only at hq
            obtain ⟨go, y⟩ := j2 d hn
            refine .inr ⟨go, _, fun H' hN => ⟨m, Nat.lt_succ_self m, hN⟩, fun xv H2 hy => ?_⟩
            obtain ⟨ι2, x2, R2, r2⟩ := y xv H2 hy
            have E2 := E.mono (x2.grow R)
            have sgo := sg C.X.s_0 H2 0 [] []
            cases hgd : g d (wipeE env (own.map (·.2))) h with
            | nx e3 h3 =>
              rw [hgd] at hq
              dsimp only at hq
              refine sgo.2.at_ (wipe_wipe fun _ h => h) (sgo.1.run d xv _ h _ H2 ι2 _ R2 ⟨E2, trivial⟩ r2 ?_)
              rw [hgd]
              refine fun ι3 H3 σ3 x3 R3 V3 => ?_
              have V3' : RV C.flat ι3 h3.length H3 e3 σ3 := ⟨V3.re, trivial⟩
              have E3 := E2.mono (x3.grow R2)
              refine ⟨e3, h3, ι3, R3, V3', ?_⟩
              cases htt : mt e3 h3 with
              | ok db h4 =>
                rw [htt] at hq
                cases db with
                | bl b =>
                  refine ⟨b, rfl, fun ι4 H4 x4 R4 => ?_⟩
                  have xx := x.trans (x2.trans (x3.trans x4))
                  have E4 := E3.mono (x4.grow R3)
                  have V4 := V3'.ext R3 x4
                  cases b with
                  | false =>
                    dsimp only at hq
                    refine iteF ?_
                    exact ⟨h4, ι4, xx, R4, E4, hq⟩
                  | true =>
                    dsimp only at hq
                    refine iteT ?_
                    refine ⟨e3, h4, ι4, R4, V4, ?_⟩
                    cases hmi : mi1 e3 h4 with
                    | exc c fs h5 => rw [hmi] at hq; cases hq
                    | stuck => rw [hmi] at hq; cases hq
                    | ok it1 h5 =>
                      rw [hmi] at hq
                      dsimp only at hq
                      refine fun ι5 H5 J1 x5 R5 J15 => ?_
                      have E5 := E4.mono (x5.grow R4)
                      have V5 := V4.ext R4 x5
                      cases hli : lcI it1 g1 mt1 me (wipeE e3 vs1) h1.length (it1.n + 1) 0 h5 with
                      | none => rw [hli] at hq; cases hq
                      | some hG =>
                        rw [hli] at hq
                        dsimp only at hq
                        refine ⟨fun j k H => ∃ h ι, Ext ι5 h5.length H5 ι h.length H ∧ Rel C.X.K ι h H ∧ RE C.X.K ι h.length H (wipeE env (own.map (·.2))) (L2.wipe σ (own.map (·.2))) ∧ RE C.X.K ι h.length H (wipeE e3 vs1) (L2.wipe σ3 vs1) ∧
                          lcI it1 g1 mt1 me (wipeE e3 vs1) h1.length k j h = some hG, ⟨it1.n + 1, h5, ι5, .refl, R5, E5, V5.re.wipe _, hli⟩, ?_⟩
                        rintro j k H ⟨h, ι', xi, R, E, Ei, hqi⟩
                        cases k with
                        | zero => cases hqi
                        | succ k =>
                          obtain ⟨k1, k2⟩ := J15 j ι' h H xi R
                          unfold lcI at hqi
                          cases hn1 : it1.nxt j h with
                          | none => rw [hn1] at hqi; cases hqi
                          | some od1 =>
                            rw [hn1] at hqi
                            cases od1 with
                            | none =>
                              cases hqi
                              exact .inl ⟨k1 hn1, hG, ι', xx.trans (x5.trans xi), R, E, hq⟩
                            | some d1 =>
                              dsimp only at hqi
                              obtain ⟨go1, y1⟩ := k2 d1 hn1
                              refine .inr ⟨go1, _, fun H' hN => ⟨k, Nat.lt_succ_self k, hN⟩, fun xv1 H6 hy1 => ?_⟩
                              obtain ⟨ι6, x6, R6, r6⟩ := y1 xv1 H6 hy1
                              have E6 := E.mono (x6.grow R)
                              have Ei6 := Ei.mono (x6.grow R)
                              have sgo1 := sg1 C.X.s_0 H6 0 [] []
                              cases hgd1 : g1 d1 (wipeE e3 vs1) h with
                              | nx e7 h7 =>
                                rw [hgd1] at hqi
                                dsimp only at hqi
                                refine sgo1.2.at_ (wipe_wipe fun _ h => h) (sgo1.1.run d1 xv1 _ h _ H6 ι6 _ R6 ⟨Ei6, trivial⟩ r6 ?_)
                                rw [hgd1]
                                refine fun ι7 H7 σ7 x7 R7 V7 => ?_
                                have V7' : RV C.flat ι7 h7.length H7 e7 σ7 := ⟨V7.re, trivial⟩
                                have E7 := E6.mono (x7.grow R6)
                                have Ei7 := Ei6.mono (x7.grow R6)
                                refine ⟨e7, h7, ι7, R7, V7', ?_⟩
                                cases htt1 : mt1 e7 h7 with
                                | ok db1 h8 =>
                                  rw [htt1] at hqi
                                  cases db1 with
                                  | bl b1 =>
                                    refine ⟨b1, rfl, fun ι8 H8 x8 R8 => ?_⟩
                                    have E8 := E7.mono (x8.grow R7)
                                    have Ei8 := Ei7.mono (x8.grow R7)
                                    have x68 := xi.trans (x6.trans (x7.trans x8))
                                    cases b1 with
                                    | false =>
                                      dsimp only at hqi
                                      refine iteF ?_
                                      exact ⟨h8, ι8, x68, R8, E8, Ei8, hqi⟩
                                    | true =>
                                      dsimp only at hqi
                                      refine iteT ?_
                                      refine ⟨e7, h8, ι8, R8, V7'.ext R7 x8, ?_⟩
                                      cases hte : me e7 h8 with
                                      | exc c fs h9 => rw [hte] at hqi; cases hqi
                                      | stuck => rw [hte] at hqi; cases hqi
                                      | ok d9 h9 =>
                                        rw [hte] at hqi
                                        dsimp only at hqi
                                        refine fun ι9 H9 v9 x9 R9 r9 => ?_
                                        have E9 := E8.mono (x9.grow R8)
                                        have Ei9 := Ei8.mono (x9.grow R8)
                                        have x99 := x68.trans x9
                                        cases ha : app1 h1.length d9 h9 with
                                        | none => rw [ha] at hqi; cases hqi
                                        | some hA =>
                                          rw [ha] at hqi
                                          dsimp only at hqi
                                          unfold app1 at ha
                                          cases hr : h9[h1.length]? with
                                          | none => rw [hr] at ha; cases ha
                                          | some o =>
                                            rw [hr] at ha
                                            cases o with
                                            | lst ds =>
                                              dsimp only at ha
                                              by_cases hz : FitsL ds.length
                                              · rw [if_pos hz] at ha
                                                cases ha
                                                obtain ⟨ws, hw, rr⟩ := R9.ob _ _ hr
                                                have hi9 := (List.getElem?_eq_some_iff.mp hr).1
                                                have xall := xx.trans (x5.trans x99)
                                                have eD : ι9 h1.length = Dp := by rw [xall.ag _ (by omega), ιset_same]
                                                rw [eD] at hw
                                                have xp : Ext ι9 h9.length H9 ι9 h9.length (upd H9 (ι9 h1.length) (.lst (ws ++ [v9]))) := Ext.put R9 hi9
                                                have Rp : Rel C.X.K ι9 (h9.set h1.length (.lst (ds ++ [d9]))) (upd H9 (ι9 h1.length) (.lst (ws ++ [v9]))) := R9.put hi9 fun xq => ⟨_, upd_same, RDs.append (rr.mono (xq.grow R9)) (RDs.cons' (r9.mono (xq.grow R9)) RDs.nil')⟩
                                                rw [eD] at xp Rp
                                                have ls : (h9.set h1.length (AO.lst (ds ++ [d9]))).length = h9.length := List.length_set ..
                                                refine ⟨ws, hw, by rw [← rr.length]; exact hz, _, ι9, by rw [ls]; exact x99.trans xp, Rp, by rw [ls]; exact E9.mono (xp.grow R9), by rw [ls]; exact Ei9.mono (xp.grow R9), hqi⟩
                                              · rw [if_neg hz] at ha; cases ha
                                            | _ => cases ha
                                  | _ => cases hqi
                                | exc c fs h8 => rw [htt1] at hqi; cases hqi
                                | stuck => rw [htt1] at hqi; cases hqi
                              | _ => rw [hgd1] at hqi; cases hqi
                | _ => cases hq
              | exc c fs h4 => rw [htt] at hq; cases hq
              | stuck => rw [htt] at hq; cases hq
            | _ => rw [hgd] at hq; cases hq
theorem me_lc2 (hc : C.X.calm = true) (hN : C.X.N.Nodup) (hi : MI C tg iter mi) (ok : BlkOk C.X.N C.X.env.scope scope own) (hv : ∀ i ∈ vs1, i ∈ own.map (·.2))
    (hg : ∀ s H Cc cl fp, MGc (C.blk s H scope Cc cl fp) tg g t (own.map (·.2))) (ht : ∀ s H Cc cl fp, MTs (C.blk s H scope Cc cl fp) ifs mt)
    (hi1 : ∀ s H Cc cl fp, MI (C.blk s H scope Cc cl fp) tg1 iter1 mi1) (hg1 : ∀ s H Cc cl fp, MGc (C.blk s H scope Cc cl fp) tg1 g1 t1 vs1) (ht1 : ∀ s H Cc cl fp, MTs (C.blk s H scope Cc cl fp) ifs1 mt1)
    (he : ∀ s H Cc cl fp, ME (C.blk s H scope Cc cl fp) elt me) (hs : ∀ x, foldedSetIterable iter C.X.env x = pure x := by intro _; rfl) (hs1 : ∀ env x, foldedSetIterable iter1 env x = pure x := by intro _ _; rfl) :
    ME C (.ListComp elt [⟨tg, iter, ifs, 0⟩, ⟨tg1, iter1, ifs1, 0⟩] scope pos) (eLc2 mi g mt mi1 g1 mt1 me (own.map (·.2)) vs1) := by
  obtain ⟨ti, pi, si⟩ := hi
  exact ⟨_, pe_lc2 hc hN pi ok hv (fun s H Cc cl fp => (hg s H Cc cl fp).1) (fun s H Cc cl fp => (ht s H Cc cl fp).can) (fun s H Cc cl fp => (hi1 s H Cc cl fp).can) (fun s H Cc cl fp => (hg1 s H Cc cl fp).1) (fun s H Cc cl fp => (ht1 s H Cc cl fp).can) (fun s H Cc cl fp => (he s H Cc cl fp).can) hs hs1,
    SimE.lc2 si (fun s H Cc cl fp => (hg s H Cc cl fp).2) (fun s H Cc cl fp => (hg1 s H Cc cl fp).2)⟩
theorem ms_setLc2 {i : Nat} {y : Str} {py spos : Pos} (hc : C.X.calm = true) (hN : C.X.N.Nodup) (hy : C.X.N[i]? = some y) (hyl : C.X.env.scope.names.lookup y = some .local)
    (hsw : swapsWith (.ListComp elt [⟨tg, iter, ifs, 0⟩, ⟨tg1, iter1, ifs1, 0⟩] scope pos) (some (.Name y py)) spos.line C.X.env = pure true) (hi : MI C tg iter mi) (ok : BlkOk C.X.N C.X.env.scope scope own) (hv : ∀ i ∈ vs1, i ∈ own.map (·.2))
    (hg : ∀ s H Cc cl fp, MGc (C.blk s H scope Cc cl fp) tg g t (own.map (·.2))) (ht : ∀ s H Cc cl fp, MTs (C.blk s H scope Cc cl fp) ifs mt)
    (hi1 : ∀ s H Cc cl fp, MI (C.blk s H scope Cc cl fp) tg1 iter1 mi1) (hg1 : ∀ s H Cc cl fp, MGc (C.blk s H scope Cc cl fp) tg1 g1 t1 vs1) (ht1 : ∀ s H Cc cl fp, MTs (C.blk s H scope Cc cl fp) ifs1 mt1)
    (he : ∀ s H Cc cl fp, ME (C.blk s H scope Cc cl fp) elt me) (hne : ∀ y, C.ea = some y → y.i ≠ i := by exact fun _ z => nomatch z) (hs : ∀ x, foldedSetIterable iter C.X.env x = pure x := by intro _; rfl) (hs1 : ∀ env x, foldedSetIterable iter1 env x = pure x := by intro _ _; rfl) :
    MS C (.Assign [.Name y py] (.ListComp elt [⟨tg, iter, ifs, 0⟩, ⟨tg1, iter1, ifs1, 0⟩] scope pos) spos) (sSet i (eLc2 mi g mt mi1 g1 mt1 me (own.map (·.2)) vs1)) := by
  obtain ⟨ti, pi, si⟩ := hi
  refine ⟨_, ps_setLc2 (te := canE C.flat me) (tt := canT C.flat mt) (tt1 := canT C.flat mt1) (wi1 := canI C.flat mi1) hc hN hy hyl hsw pi ok hv (fun s H Cc cl fp => (hg s H Cc cl fp).1) (fun s H Cc cl fp => (ht s H Cc cl fp).can) (fun s H Cc cl fp => (hi1 s H Cc cl fp).can) (fun s H Cc cl fp => (hg1 s H Cc cl fp).1) (fun s H Cc cl fp => (ht1 s H Cc cl fp).can) (fun s H Cc cl fp => (he s H Cc cl fp).can) hs hs1, ⟨fun env h σ H ι D R V p => ?_⟩⟩
  have s1 : SimE C _ (eLc2 mi g mt mi1 g1 mt1 me (own.map (·.2)) vs1) := SimE.lc2 si (fun s H Cc cl fp => (hg s H Cc cl fp).2) (fun s H Cc cl fp => (hg1 s H Cc cl fp).2)
  exact s1.thenS R V p fun d h1 ι1 H1 v1 x1 R1 V1 r1 p1 => p1 ι1 H1 _ .refl R1 (V1.set i r1 hne)
end
end Rf

set_option maxHeartbeats 1000000
/-! built-in functions called with keywords: sorted(xs, reverse=True) of ints -/
namespace Rf
open PySem PySem.Spec PyProof.Rows L2
def CallSK (C : Ct) (r : List V → List V → Hp → VK → Prop) (g : List D → List D → AH → ER) : Prop := ∀ (ι : Nat → Addr) (h : AH) (H : Hp) (σ : List (Option V)) (xs zs : List V) (ds es : List D) (Q : VK), Rel C.X.K ι h H → RDs C.X.K ι h.length H ds xs → RDs C.X.K ι h.length H es zs → PostE C ι h.length H σ (g ds es h) Q → r xs zs H Q
def eCallBK (g : List D → List D → AH → ER) (ml mk : LM) : EM := fun env h => (ml env h).then fun ds h1 => (mk env h1).then fun es h2 => g ds es h2
section
variable {C : Ct} {x : Str} {p pos : Pos} {e : Expr} {es : List Expr} {kws : List Keyword} {id : String} {ks : List Str} {r : List V → List V → Hp → VK → Prop} {g : List D → List D → AH → ER} {ml mk : LM}
theorem me_callBK (hc : CallRK C.X (.builtin id) ks r) (hs : CallSK C r g) (hm : C.X.mg x = none) (ha : MA C (e :: es) ml) (hw : MK C kws mk) (hv : bootBuiltins x = some (.builtin id) := by decide +kernel) (hg : Gl C.X x := by rfl) (hn : x ≠ "__name__" := by decide) (hdb : (x == ("__debug__" : Str)) = false := by decide)
    (he : backTo pos (starEach (e :: es) C.X.env) = (false, eval e C.X.env) :: backTo pos (starEach es C.X.env) := by rfl) (hpl : (backTo pos (starEach (e :: es) C.X.env)).any (·.1) = false := by rfl)
    (hall : (backToKw pos (keywordEach kws C.X.env)).all (·.1.isSome) = true := by rfl) (hnone : (backToKw pos (keywordEach kws C.X.env)).any (·.1.isNone) = false := by rfl) (hks : (backToKw pos (keywordEach kws C.X.env)).filterMap (·.1) = ks := by rfl) :
    ME C (.Call (.Name x p) (e :: es) kws pos) (eCallBK g ml mk) := by
  obtain ⟨t, pa, s⟩ := ha
  obtain ⟨t2, pk, s2⟩ := hw
  refine ⟨_, pe_callBK hc hg hm hv pa pk hn hdb he hpl hall hnone hks, ⟨fun env h σ H ι Q R V q => ?_⟩⟩
  refine s.run env h σ H ι _ R V ?_
  unfold eCallBK at q
  cases hm : ml env h with
  | ok ds h1 =>
    rw [hm] at q
    refine fun ι' H' vs x R' r => ?_
    refine s2.run env h1 σ H' ι' _ R' (V.ext R x) ?_
    have q1 : PostE C ι h.length H σ ((mk env h1).then fun es h2 => g ds es h2) Q := q
    cases hm2 : mk env h1 with
    | ok es h2 =>
      rw [hm2] at q1
      refine fun ι2 H2 zs x2 R2 r2 => ?_
      exact hs ι2 h2 H2 σ vs zs ds es Q R2 (r.mono (x2.grow R')) r2 (PostE.shift q1 (x.trans x2))
    | exc c fs h2 =>
      rw [hm2] at q1
      exact fun ι2 H2 Cl dd x2 => q1 ι2 H2 Cl dd (x.trans x2)
    | stuck => rw [hm2] at q1; exact q1
  | exc c fs h1 => rw [hm] at q; exact q
  | stuck => rw [hm] at q; exact q
/-- sorted(xs, reverse=b) -/
noncomputable def cSortedR (ds es : List D) (h : AH) : ER := match ds, es with
  | [.ref i], [.bl b] => (match h[i]? with
    | some (.lst us) => (match intsOf us with
      | some ns => .ok (.ref h.length) (h ++ [.lst ((if b then (intSort ns).reverse else intSort ns).map D.int)])
      | none => .stuck)
    | _ => .stuck)
  | _, _ => .stuck
theorem intSort_rev {ns ys : List Int} (p : ys.Perm ns) (u : ys.Pairwise (· ≥ ·)) : ys = (intSort ns).reverse := by
  have := intSort_eq (ns := ns) (ys := ys.reverse) ((List.reverse_perm ys).trans p) (by rw [List.pairwise_reverse]; exact u)
  rw [← this, List.reverse_reverse]
theorem cr_sortedRv : CallRK C.X (.builtin "sorted") [Str.ofString "reverse"] (fun vs zs H Q => ∃ b, rSortedKw C.X.K b [.bl b] vs zs H Q) := by
  intro pins s σ H vs zs us ws Q I r rz h
  obtain ⟨b, h⟩ := h
  exact cr_sortedRev pins s σ H vs zs us ws Q I r rz h
theorem cs_sortedR : CallSK C (fun vs zs H Q => ∃ b, rSortedKw C.X.K b [.bl b] vs zs H Q) cSortedR := by
  intro ι h H σ xs zs ds es Q R r rz p
  unfold cSortedR at p
  split at p
  · rename_i i b
    obtain ⟨v, rfl, q1⟩ := r.one
    obtain ⟨z, rfl, q2⟩ := rz.one
    split at p
    · rename_i us e
      split at p
      · rename_i ns e2
        obtain ⟨vs, rfl, e1, rr⟩ := q1.list R e
        have hs : SqL C.X.K H (ι i) vs := SqL.of e1
        rw [intsOf_eq e2] at rr
        rw [rr.ints] at hs
        refine ⟨b, _, ns, rfl, by rw [RD.bl.mp q2], hs, fun ns' p' pm up hp => ?_⟩
        have en : ns' = (if b then (intSort ns).reverse else intSort ns) := by
          cases b with
          | true => exact intSort_rev pm up
          | false => exact intSort_eq pm up
        rw [en]
        exact PostE.lst p R (RDs.mk_ints _) hp
      · exact p.elim
    · exact p.elim
  · exact p.elim
end
/-- a def of the module that is called with keywords alone (keyword-only parameters) -/
structure DB (K : PySem.W.Frag) (mg : Str → Option Value) (x : Str) (st : Stmt) (f : Addr) (fd : FuncData) : Prop where
  fn : Fun K x x st f fd
  mgf : mg x = some (.ref f)
/-! in, not in: over lists and tuples of data -/
section
variable {X : Cx}
def rInT (K : PySem.W.Frag) : R2 := fun x y H Q => ∃ d ds, Dp K H x d ∧ Dp K H y (.tuple ds) ∧ SeqAt.shaped d = true ∧ SeqAt.shaped (.tuple ds) = true ∧ Q (.bl (ds.any fun z => PyData.eqv z d)) H
def rNotInT (K : PySem.W.Frag) : R2 := fun x y H Q => ∃ d ds, Dp K H x d ∧ Dp K H y (.tuple ds) ∧ SeqAt.shaped d = true ∧ SeqAt.shaped (.tuple ds) = true ∧ Q (.bl (!ds.any fun z => PyData.eqv z d)) H
theorem op_inT (hu : X.A.units + 65 < cLine) : OpR X (compareOp .In) (rInT X.K) := by
  intro pins s σ H x y v u Q I rx ry h
  obtain ⟨d, ds, hd, he, sd, se, q⟩ := h
  obtain ⟨as, r1⟩ := Dp.reads I d x v hd rx
  obtain ⟨bs, r2⟩ := Dp.reads I (.tuple ds) y u he ry
  exact SeqAt.in_tuple_reads r2 r1 (SeqAt.canLay_of_shaped se) (SeqAt.canLay_of_shaped sd) (room_in_shaped sd hu) ⟨.bl _, H, I, rfl, q⟩
theorem op_notInT (hu : X.A.units + 65 < cLine) : OpR X (compareOp .NotIn) (rNotInT X.K) := by
  intro pins s σ H x y v u Q I rx ry h
  obtain ⟨d, ds, hd, he, sd, se, q⟩ := h
  obtain ⟨as, r1⟩ := Dp.reads I d x v hd rx
  obtain ⟨bs, r2⟩ := Dp.reads I (.tuple ds) y u he ry
  exact SeqAt.notIn_tuple_reads r2 r1 (SeqAt.canLay_of_shaped se) (SeqAt.canLay_of_shaped sd) (room_in_shaped sd hu) ⟨.bl _, H, I, rfl, q⟩
def rIn2 (K : PySem.W.Frag) : R2 := fun x y H Q => rInD K x y H Q ∨ rInT K x y H Q
def rNotIn2 (K : PySem.W.Frag) : R2 := fun x y H Q => rNotInD K x y H Q ∨ rNotInT K x y H Q
theorem op_in2 (hu : X.A.units + 65 < cLine) : OpR X (compareOp .In) (rIn2 X.K) := (op_inD hu).or (op_inT hu)
theorem op_notIn2 (hu : X.A.units + 65 < cLine) : OpR X (compareOp .NotIn) (rNotIn2 X.K) := (op_notInD hu).or (op_notInT hu)
end
def oIn2 (a b : D) (h : AH) : ER := match a.toP h 20, b.toP h 20 with
  | some p, some (.list qs) => .ok (.bl (qs.any fun z => PyData.eqv z p)) h
  | some p, some (.tuple qs) => .ok (.bl (qs.any fun z => PyData.eqv z p)) h
  | _, _ => .stuck
def oNotIn2 (a b : D) (h : AH) : ER := match a.toP h 20, b.toP h 20 with
  | some p, some (.list qs) => .ok (.bl (!qs.any fun z => PyData.eqv z p)) h
  | some p, some (.tuple qs) => .ok (.bl (!qs.any fun z => PyData.eqv z p)) h
  | _, _ => .stuck
section
variable {C : Ct}
theorem os_in2 : OpS C (rIn2 C.X.K) oIn2 := by
  intro ι h H σ x y d1 d2 Q R r1 r2 p
  unfold oIn2 at p
  split at p
  · rename_i a b e1 e2
    obtain ⟨a1, a2, a3⟩ := toP_dp R _ _ _ _ r1 e1
    obtain ⟨b1, b2, b3⟩ := toP_dp R _ _ _ _ r2 e2
    exact .inl ⟨a, b, a1, b1, toP_shaped a2 a3, toP_shaped b2 b3, p.here R (RD.bl.mpr rfl)⟩
  · rename_i a b e1 e2
    obtain ⟨a1, a2, a3⟩ := toP_dp R _ _ _ _ r1 e1
    obtain ⟨b1, b2, b3⟩ := toP_dp R _ _ _ _ r2 e2
    exact .inr ⟨a, b, a1, b1, toP_shaped a2 a3, toP_shaped b2 b3, p.here R (RD.bl.mpr rfl)⟩
  · exact p.elim
theorem os_notIn2 : OpS C (rNotIn2 C.X.K) oNotIn2 := by
  intro ι h H σ x y d1 d2 Q R r1 r2 p
  unfold oNotIn2 at p
  split at p
  · rename_i a b e1 e2
    obtain ⟨a1, a2, a3⟩ := toP_dp R _ _ _ _ r1 e1
    obtain ⟨b1, b2, b3⟩ := toP_dp R _ _ _ _ r2 e2
    exact .inl ⟨a, b, a1, b1, toP_shaped a2 a3, toP_shaped b2 b3, p.here R (RD.bl.mpr rfl)⟩
  · rename_i a b e1 e2
    obtain ⟨a1, a2, a3⟩ := toP_dp R _ _ _ _ r1 e1
    obtain ⟨b1, b2, b3⟩ := toP_dp R _ _ _ _ r2 e2
    exact .inr ⟨a, b, a1, b1, toP_shaped a2 a3, toP_shaped b2 b3, p.here R (RD.bl.mpr rfl)⟩
  · exact p.elim
end
end Rf

set_option maxHeartbeats 1000000
/-! *xs in a row of arguments or a display; max and min of a list of ints -/
namespace Rf
open PySem PySem.Spec PyProof.Rows L2
section
variable {C : Ct} {e : Expr} {m : EM} {p : Pos}
def lStar (a : EM) (r : LM) : LM := fun env h => match a env h with
  | .ok d h1 => (match seqOf h1 d with
    | some xs => (match r env h1 with
      | .ok ds h2 => .ok (xs ++ ds) h2
      | .exc c fs h2 => .exc c fs h2
      | .stuck => .stuck)
    | none => .stuck)
  | .exc c fs h1 => .exc c fs h1
  | .stuck => .stuck
theorem ma_star {es : List Expr} {mr : LM} (ha : ME C e m) (hr : MA C es mr) (hs : starEach (.Starred e p :: es) C.X.env = (true, eval e C.X.env) :: starEach es C.X.env := by rfl) : MA C (.Starred e p :: es) (lStar m mr) := by
  obtain ⟨ta, pa, sa⟩ := ha
  obtain ⟨tr, pr, sr⟩ := hr
  refine ⟨_, StX.pa_star pa pr hs, ⟨fun env h σ H ι Q R V p => ?_⟩⟩
  refine sa.run env h σ H ι _ R V ?_
  unfold lStar at p
  cases hm : m env h with
  | ok d h1 =>
    rw [hm] at p
    dsimp only at p
    refine fun ι' H' v x R' r => ?_
    cases hx : seqOf h1 d with
    | none => rw [hx] at p; exact p.elim
    | some xs =>
      rw [hx] at p
      dsimp only at p
      obtain ⟨a, vs, rfl, s, rr⟩ := seqOf_sq R' r hx
      refine ⟨a, vs, rfl, s.symm, ?_⟩
      refine sr.run env h1 σ H' ι' _ R' (V.ext R x) ?_
      cases hm2 : mr env h1 with
      | ok ds h2 =>
        rw [hm2] at p
        exact fun ι2 H2 ws x2 R2 r2 => p ι2 H2 _ (x.trans x2) R2 (RDs.append (RDs.mono (x2.grow R') rr) r2)
      | exc c fs h2 =>
        rw [hm2] at p
        exact fun ι2 H2 Cl dd x2 => p ι2 H2 Cl dd (x.trans x2)
      | stuck => rw [hm2] at p; exact p
  | exc c fs h1 => rw [hm] at p; exact p
  | stuck => rw [hm] at p; exact p
/-! targets within targets, in a comprehension -/
theorem mono_nil : ∀ vs σ H (Q Q' : List (Option V) → Hp → Prop), (∀ a b, Q a b → Q' a b) → L2.gNil vs σ H Q → L2.gNil vs σ H Q' := fun _ _ _ _ _ f q => ⟨q.1, f _ _ q.2⟩
theorem mono_cons {t : TG} {u : TGs} (m1 : ∀ v σ H (Q Q' : List (Option V) → Hp → Prop), (∀ a b, Q a b → Q' a b) → t v σ H Q → t v σ H Q') (m2 : ∀ vs σ H (Q Q' : List (Option V) → Hp → Prop), (∀ a b, Q a b → Q' a b) → u vs σ H Q → u vs σ H Q') :
    ∀ vs σ H (Q Q' : List (Option V) → Hp → Prop), (∀ a b, Q a b → Q' a b) → L2.gCons t u vs σ H Q → L2.gCons t u vs σ H Q' := fun _ _ _ _ _ f ⟨v, r, e, q⟩ => ⟨v, r, e, m1 _ _ _ _ _ (fun a b q => m2 _ _ _ _ _ f q) q⟩
theorem mono_tup {K : PySem.W.Frag} {n : Nat} {u : TGs} (m2 : ∀ vs σ H (Q Q' : List (Option V) → Hp → Prop), (∀ a b, Q a b → Q' a b) → u vs σ H Q → u vs σ H Q') :
    ∀ v σ H (Q Q' : List (Option V) → Hp → Prop), (∀ a b, Q a b → Q' a b) → L2.gTup K n u v σ H Q → L2.gTup K n u v σ H Q' := fun _ _ _ _ _ f ⟨a, xs, e, q1, q2, q3⟩ => ⟨a, xs, e, q1, q2, m2 _ _ _ _ _ f q3⟩
theorem mgc_tupK {K : PySem.W.Frag} {es : List Expr} {kk k : Nat} {pos : Pos} {r : List D → AE → AH → SR} {u : TGs} {vs : List Nat} (hc : C.X.calm = true) (h : MGcs C es r u vs) (hK : C.X.K = K := by rfl) (hn : (assignEach es C.X.env).length = k := by rfl) (hst : (assignEach es C.X.env).findIdx? (·.1) = none := by rfl) : MGc C (.Tuple es kk pos) (gTup k r) (L2.gTup K k u) vs := by
  subst hK
  exact mgc_tup hc h hn hst
/-- for q, (a, b) in .. -/
theorem mgc_nest {x y z : Str} {i j k n1 n2 : Nat} {p1 p2 p3 p4 p5 : Pos} {vs : List Nat} {K : PySem.W.Frag} (hc : C.X.calm = true) (h1 : MGc C (.Name x p1) (gVar i) (gName i) vs) (h2 : MGc C (.Name y p2) (gVar j) (gName j) vs) (h3 : MGc C (.Name z p3) (gVar k) (gName k) vs) (hK : C.X.K = K := by rfl)
    (e1 : (assignEach [.Name y p2, .Name z p3] C.X.env).length = 2 := by rfl) (e2 : (assignEach [.Name y p2, .Name z p3] C.X.env).findIdx? (·.1) = none := by rfl)
    (e3 : (assignEach [.Name x p1, .Tuple [.Name y p2, .Name z p3] n1 p4] C.X.env).length = 2 := by rfl) (e4 : (assignEach [.Name x p1, .Tuple [.Name y p2, .Name z p3] n1 p4] C.X.env).findIdx? (·.1) = none := by rfl)
    (s1 : (assignEach [.Name x p1, .Tuple [.Name y p2, .Name z p3] n1 p4] C.X.env).map (·.2) = assign (.Name x p1) C.X.env :: (assignEach [.Tuple [.Name y p2, .Name z p3] n1 p4] C.X.env).map (·.2) := by rfl)
    (s2 : (assignEach [.Tuple [.Name y p2, .Name z p3] n1 p4] C.X.env).map (·.2) = assign (.Tuple [.Name y p2, .Name z p3] n1 p4) C.X.env :: (assignEach [] C.X.env).map (·.2) := by rfl)
    (s3 : (assignEach [.Name y p2, .Name z p3] C.X.env).map (·.2) = assign (.Name y p2) C.X.env :: (assignEach [.Name z p3] C.X.env).map (·.2) := by rfl)
    (s4 : (assignEach [.Name z p3] C.X.env).map (·.2) = assign (.Name z p3) C.X.env :: (assignEach [] C.X.env).map (·.2) := by rfl) :
    MGc C (.Tuple [.Name x p1, .Tuple [.Name y p2, .Name z p3] n1 p4] n2 p5) (gTup 2 (gCons (gVar i) (gCons (gTup 2 (gCons (gVar j) (gCons (gVar k) gNils))) gNils)))
      (L2.gTup K 2 (L2.gCons (gName i) (L2.gCons (L2.gTup K 2 (L2.gCons (gName j) (L2.gCons (gName k) L2.gNil))) L2.gNil))) vs := by
  subst hK
  have q1 : MGcs C [.Name z p3] (gCons (gVar k) gNils) (L2.gCons (gName k) L2.gNil) vs := mgcs_cons h3 mgcs_nil s4 mono_name
  have q2 : MGcs C [.Name y p2, .Name z p3] (gCons (gVar j) (gCons (gVar k) gNils)) (L2.gCons (gName j) (L2.gCons (gName k) L2.gNil)) vs := mgcs_cons h2 q1 s3 mono_name
  have q3 := mgc_tup (kk := n1) (pos := p4) (k := 2) hc q2 e1 e2
  have q4 := mgcs_cons q3 mgcs_nil s2 (mono_tup (mono_cons mono_name (mono_cons mono_name mono_nil)))
  have q5 := mgcs_cons h1 q4 s1 mono_name
  exact mgc_tup hc q5 e3 e4
/-- max(xs), min(xs) of a list of ints -/
def maxI : List Int → Int
  | [] => 0
  | [a] => a
  | a :: l => max a (maxI l)
def minI : List Int → Int
  | [] => 0
  | [a] => a
  | a :: l => min a (minI l)
theorem maxI_mem : ∀ {l : List Int}, 0 < l.length → maxI l ∈ l
  | [a], _ => by simp [maxI]
  | a :: b :: l, _ => by
    have := maxI_mem (l := b :: l) (by simp)
    rw [maxI]
    · rcases Int.le_total a (maxI (b :: l)) with h | h
      · rw [Int.max_eq_right h]; exact List.mem_cons_of_mem _ this
      · rw [Int.max_eq_left h]; simp
    · simp
theorem maxI_le : ∀ {l : List Int} {y : Int}, y ∈ l → y ≤ maxI l
  | [a], y, h => by simp at h; simp [maxI, h]
  | a :: b :: l, y, h => by
    rw [maxI]
    · rcases List.mem_cons.mp h with h | h
      · subst h; omega
      · have := maxI_le (l := b :: l) h; omega
    · simp
theorem minI_mem : ∀ {l : List Int}, 0 < l.length → minI l ∈ l
  | [a], _ => by simp [minI]
  | a :: b :: l, _ => by
    have := minI_mem (l := b :: l) (by simp)
    rw [minI]
    · rcases Int.le_total a (minI (b :: l)) with h | h
      · rw [Int.min_eq_left h]; simp
      · rw [Int.min_eq_right h]; exact List.mem_cons_of_mem _ this
    · simp
theorem minI_le : ∀ {l : List Int} {y : Int}, y ∈ l → minI l ≤ y
  | [a], y, h => by simp at h; simp [minI, h]
  | a :: b :: l, y, h => by
    rw [minI]
    · rcases List.mem_cons.mp h with h | h
      · subst h; omega
      · have := minI_le (l := b :: l) h; omega
    · simp
noncomputable def cMaxL (ds : List D) (h : AH) : ER := match ds with
  | [d] => (match listOf h d with
    | some es => (match intsOf es with
      | some ns => if 0 < ns.length then .ok (.int (maxI ns)) h else .stuck
      | none => .stuck)
    | none => .stuck)
  | _ => .stuck
noncomputable def cMinL (ds : List D) (h : AH) : ER := match ds with
  | [d] => (match listOf h d with
    | some es => (match intsOf es with
      | some ns => if 0 < ns.length then .ok (.int (minI ns)) h else .stuck
      | none => .stuck)
    | none => .stuck)
  | _ => .stuck
theorem cs_maxL : CallS C (L2.rMax C.X.K) cMaxL := by
  intro ι h H σ xs ds Q R r p
  unfold cMaxL at p
  split at p
  · rename_i d
    obtain ⟨v, rfl, q1⟩ := r.one
    split at p
    · rename_i es e
      split at p
      · rename_i ns e2
        split at p
        · rename_i hl
          obtain ⟨a, vs, rfl, s, rr⟩ := listOf_sq R q1 e
          rw [intsOf_eq e2] at rr
          rw [rr.ints] at s
          refine ⟨a, ns, rfl, s, hl, fun m hm hy => ?_⟩
          have : m = maxI ns := Int.le_antisymm (maxI_le hm) (hy _ (maxI_mem hl))
          rw [this]
          exact p.here R (RD.int.mpr rfl)
        · exact p.elim
      · exact p.elim
    · exact p.elim
  · exact p.elim
theorem cs_minL : CallS C (rMin C.X.K) cMinL := by
  intro ι h H σ xs ds Q R r p
  unfold cMinL at p
  split at p
  · rename_i d
    obtain ⟨v, rfl, q1⟩ := r.one
    split at p
    · rename_i es e
      split at p
      · rename_i ns e2
        split at p
        · rename_i hl
          obtain ⟨a, vs, rfl, s, rr⟩ := listOf_sq R q1 e
          rw [intsOf_eq e2] at rr
          rw [rr.ints] at s
          refine ⟨a, ns, rfl, s, hl, fun m hm hy => ?_⟩
          have : m = minI ns := Int.le_antisymm (hy _ (minI_mem hl)) (minI_le hm)
          rw [this]
          exact p.here R (RD.int.mpr rfl)
        · exact p.elim
      · exact p.elim
    · exact p.elim
  · exact p.elim
end
/-! enumerate over tuples and lists -/
def liveE (r n : Nat) : AIt := ⟨n, fun i h => match h[r]? with
  | some (.lst ds) => some (numD ds)[i]?
  | _ => none⟩
def iEnum2 (m : EM) : IM := fun e h => match m e h with
  | .ok (.tup ds) h1 => .ok (stat (numD ds)) h1
  | .ok (.ref r) h1 => (match h1[r]? with
    | some (.lst ds) => .ok (liveE r ds.length) h1
    | _ => .stuck)
  | .ok _ _ => .stuck
  | .exc c fs h1 => .exc c fs h1
  | .stuck => .stuck
section
variable {C : Ct} {a : Expr} {m : EM} {p pos tpos : Pos} {elts : List Expr} {kk : Nat}
theorem itr_enumL {K : PySem.W.Frag} {ι : Nat → Addr} {n : Nat} {H : Hp} {r m : Nat} (hr : r < n) : ItR K (Ite K (ι r)) (liveE r m) ι n H := by
  intro i ι' h' H' x R
  have eι := x.ag r hr
  unfold liveE
  dsimp only
  cases q : h'[r]? with
  | none => exact ⟨(fun z => nomatch z), (fun d z => nomatch z)⟩
  | some o =>
    cases o with
    | lst ds =>
      obtain ⟨vs, e1, rr⟩ := R.ob r _ q
      rw [eι] at e1
      refine ⟨fun e => ⟨vs, SqL.of e1, ?_⟩, fun d e => ?_⟩
      · have e := Option.some.inj e
        rw [numD_at] at e
        rw [← rr.length]
        refine List.getElem?_eq_none_iff.mp ?_
        cases hd : ds[i]? with
        | none => rfl
        | some d => rw [hd] at e; cases e
      · have e := Option.some.inj e
        rw [numD_at] at e
        cases hd : ds[i]? with
        | none => rw [hd] at e; cases e
        | some d0 =>
          rw [hd] at e
          cases e
          obtain ⟨v, ev, rv⟩ := rr.get hd
          refine ⟨⟨vs, v, SqL.of e1, ev⟩, fun y H2 hy => ?_⟩
          obtain ⟨T, x0, rfl, hT, rfl, hx⟩ := hy
          have e2 := hx vs (SqL.of e1)
          rw [ev] at e2
          cases e2
          have xx : Ext ι' h'.length H' ι' h'.length (upd H' T (.tup [.int (i : Nat), v])) := Ext.tup hT
          refine ⟨ι', xx, R.tup hT xx, RD.tup.mpr ⟨T, _, rfl, .inl (.inl upd_same), ?_⟩⟩
          exact RDs.cons' (RD.int.mpr rfl) (RDs.cons' (rv.mono (xx.grow R)) RDs.nil')
    | dK _ => exact ⟨(fun z => nomatch z), (fun d z => nomatch z)⟩
    | dT _ => exact ⟨(fun z => nomatch z), (fun d z => nomatch z)⟩
theorem mi_enum2 (hm : C.X.mg "enumerate" = none) (ha : ME C a m) (hg : Gl C.X "enumerate" := by rfl) (hs : starEach [a] C.X.env = [(false, eval a C.X.env)] := by rfl) (na : starEach [a] C.X.env = (false, eval a C.X.env) :: starEach [] C.X.env := by rfl) :
    MI C (.Tuple elts kk tpos) (.Call (.Name "enumerate" p) [a] [] pos) (iEnum2 m) := by
  obtain ⟨t, pa, sa⟩ := ha
  refine ⟨_, PI.or (pi_enumT hg hm (pa_cons pa pa_nil na) hs) (pi_enum hg hm (pa_cons pa pa_nil na) hs), ⟨fun env h σ H ι Q R V p => ?_⟩⟩
  unfold iEnum2 at p
  cases hm : m env h with
  | exc c fs h1 =>
    rw [hm] at p
    refine .inl (sa.run env h σ H ι _ R V ?_)
    rw [hm]; exact p
  | stuck => rw [hm] at p; exact (show False from p).elim
  | ok d h1 =>
    rw [hm] at p
    cases d with
    | tup ds =>
      refine .inl (sa.run env h σ H ι _ R V ?_)
      rw [hm]
      refine fun ι' H' v x R' r => ?_
      obtain ⟨a, vs, rfl, s, rr⟩ := RD.tup.mp r
      exact ⟨a, vs, rfl, s, p.here x R' (itr_enumT R' s rr)⟩
    | ref r =>
      refine .inr (sa.run env h σ H ι _ R V ?_)
      rw [hm]
      refine fun ι' H' v x R' rr => ?_
      dsimp only at p
      cases hr : h1[r]? with
      | none => rw [hr] at p; exact (show False from p).elim
      | some o =>
        rw [hr] at p
        cases o with
        | lst ds =>
          have hlt := (List.getElem?_eq_some_iff.mp hr).1
          obtain ⟨vs, e1, e2, rs⟩ := rr.list R' hr
          exact ⟨_, vs, by rw [e1], SqL.of e2, p.here x R' (itr_enumL hlt)⟩
        | _ => exact (show False from p).elim
    | _ => exact (show False from p).elim
end
/-! a tuple some times -/
set_option maxHeartbeats 4000000 in
theorem tuple_mul1 (l : Addr) (items : Array Value) (n : Nat) (dd : Option Addr) (sl : Array (Option Value)) (u : Tok) :
    Meets (Builtin.«tuple.__mul__» ⟨[.ref l, .int 1 u], []⟩) (fun _ R s => s.heap.get? l = some { cls := .type "tuple", dict := dd, data := .seq items n, slots := sl } ∧ R (.ok (.ret (Value.ref l))) s) :=
  .of_wp fun prog w A R s h => by
    obtain ⟨hp, g, d, tk, os⟩ := s
    obtain ⟨hl, h⟩ := h
    have f1 := AutoSeq1.idx_int
    wp_walk using wpAny_loadPart' hl
    exact ⟨_, rfl, h⟩
def rRep1T (K : PySem.W.Frag) : R2 := fun x y H Q => ∃ l xs, x = .ref l ∧ y = .int 1 ∧ SqT K H l xs ∧ Q (.ref l) H
theorem op_rep1T {X : Cx} : OpR X (binaryOp .Mult) (rRep1T X.K) := by
  intro pins s σ H x y v u Q I rx ry h
  obtain ⟨l, xs, rfl, rfl, hT, q⟩ := h
  cases rx
  obtain ⟨t, rfl⟩ := ry
  obtain ⟨its, r, ⟨⟨cls, dd, data, sl⟩, ho, hc, n, hd⟩, hs⟩ := I.tuple hT
  simp only at hc hd
  subst hc hd
  refine wpAny_binaryOp_repeat_ref (T := "tuple") (U := "int") (by decide) ⟨_, ho, rfl⟩ (fun s' => typeIs_int s' 1 t) noFill_tuple_mul F.fills_int_mul F.slot_int_rmul repeat_tuple F.slot_int_index.lookup
    (call_meets F.slot_int_rmul (typeIs_int s 1 t) F.entry_int_rmul (F.args_int_rmul_2 _ _) (int_rmul_tuple 1 t l its.toArray n dd sl)
      ⟨ho, rfl, ⟨_, ho, rfl⟩, call_meets F.slot_tuple_mul ⟨_, ho, rfl⟩ F.entry_tuple_mul (F.args_tuple_mul_2 _ _) (tuple_mul1 l its.toArray n dd sl t) ⟨ho, ?_⟩⟩)
  exact ⟨.ref l, H, I, rfl, q⟩
def rRepT2 (K : PySem.W.Frag) : R2 := fun x y H Q => rRepT K x y H Q ∨ rRep1T K x y H Q
theorem op_repT2 {X : Cx} : OpR X (binaryOp .Mult) (rRepT2 X.K) := op_repT.or op_rep1T
def oMulT (a b : D) (h : AH) : ER := match a, b with
  | .tup ds, .int k => if k = 1 then .ok (.tup ds) h else if ds ≠ [] ∧ 2 ≤ k ∧ k ≤ 1000 ∧ ds.length ≤ 1000 then .ok (.tup (List.replicate k.toNat ds).flatten) h else .stuck
  | _, _ => .stuck
theorem os_repT {C : Ct} : OpS C (rRepT2 C.X.K) oMulT := by
  intro ι h H σ x y d1 d2 Q R r1 r2 p
  unfold oMulT at p
  split at p
  · rename_i ds k
    split at p
    · rename_i hk
      subst hk
      obtain ⟨a, vs, e, s, rr⟩ := RD.tup.mp r1
      refine .inr ⟨a, vs, e, RD.int.mp r2, s, ?_⟩
      rw [← e]
      exact p.here R r1
    · split at p
      · rename_i hl
        obtain ⟨a, vs, rfl, s, rr⟩ := RD.tup.mp r1
        have l1 := rr.length
        refine .inl ⟨a, k, vs, rfl, RD.int.mp r2, s, ?_, hl.2.1, hl.2.2.1, by rw [← l1]; exact hl.2.2.2, fun q hq => p.tup R (rr.rep _) hq⟩
        intro e
        subst e
        exact hl.1 (List.eq_nil_of_length_eq_zero (by simpa using l1))
      · exact p.elim
  · exact p.elim
end Rf

/-! printed by mk.py: the plain function of each def -/
namespace Law
open PySem Rf
noncomputable def m_is_whole : SM := (sRet (eAnd (eCall cIsi (lCons (eVar 0) (lCons (eC (.ty "int")) lNil))) (eNot (eCall cIsi (lCons (eVar 0) (lCons (eC (.ty "bool")) lNil))))))
noncomputable def c_is_whole : List D → AH → ER := fsem 1 m_is_whole
noncomputable def m_is_index : SM := (sRet (eAnd (eCall (argn 1 c_is_whole) (lCons (eVar 0) lNil)) (eChain oLe oLt (eC (.int 0)) (eVar 0) (eVar 1))))
noncomputable def c_is_index : List D → AH → ER := fsem 2 m_is_index
noncomputable def m_is_row : SM := (sRet (eAnd (eCall cIsi (lCons (eVar 0) (lCons (eC (.ty "tuple")) lNil))) (eOp oEq (eCall cLen (lCons (eVar 0) lNil)) (eVar 1))))
noncomputable def c_is_row : List D → AH → ER := fsem 2 m_is_row
noncomputable def m_alone : SM := (sRet (eRg1 true (eVar 0)))
noncomputable def c_alone : List D → AH → ER := fsem 1 m_alone
noncomputable def lc_merged_1 : EM := (eLc (iVal (eVar 0)) (gVar 5) (eC (.bl true)) (eIf (eOp oEq (eVar 5) (eVar 4)) (eVar 3) (eVar 5)) [5])
noncomputable def m_merged : SM := (sSeq (sSet 3 (eCall cMin2 (lCons (eOp oIx (eVar 0) (eVar 1)) (lCons (eOp oIx (eVar 0) (eVar 2)) lNil))))
  (sSeq (sSet 4 (eCall cMax2 (lCons (eOp oIx (eVar 0) (eVar 1)) (lCons (eOp oIx (eVar 0) (eVar 2)) lNil))))
  (sSeq (sIf (eOp oEq (eVar 3) (eVar 4))
    (sRet (eVar 0))
    sPass)
  (sRet (eCall cTuple (lCons lc_merged_1 lNil))))))
noncomputable def c_merged : List D → AH → ER := fsem 6 m_merged
noncomputable def lb_is_labels_1 : SM := (sIf (eOr (eNot (eUn oTruth (eCall (argn 2 c_is_index) (lCons (eVar 3) (lCons (eOp oAdd (eVar 2) (eC (.int 1))) lNil))))) (eOp oNe (eOp oIx (eVar 0) (eVar 3)) (eVar 3)))
    (sRet (eC (.bl false)))
    sPass)
noncomputable def m_is_labels : SM := (sSeq (sIf (eNot (eUn oTruth (eCall (argn 2 c_is_row) (lCons (eVar 0) (lCons (eVar 1) lNil)))))
    (sRet (eC (.bl false)))
    sPass)
  (sSeq (sFor (iEnum2 (eVar 0)) (gTup 2 (gCons (gVar 2) (gCons (gVar 3) gNils))) lb_is_labels_1)
  (sRet (eC (.bl true)))))
noncomputable def c_is_labels : List D → AH → ER := fsem 4 m_is_labels
noncomputable def lc_broken_1 : EM := (eLc (iVal (eVar 4)) (gVar 8) (eC (.bl true)) (eOp oIx (eVar 0) (eVar 8)) [8])
noncomputable def lb_broken_3 : SM := (sIf (eAnd (eOp oEq (eOp oIx (eVar 0) (eVar 6)) (eOp oIx (eVar 0) (eVar 7))) (eOp oNe (eOp oIx (eVar 5) (eVar 6)) (eOp oIx (eVar 5) (eVar 7))))
    (sRet (eTup (lCons (eVar 3) (lCons (eVar 6) (lCons (eVar 7) lNil)))))
    sPass)
noncomputable def lb_broken_2 : SM := (sFor (iRange2 (lCons (eOp oAdd (eVar 6) (eC (.int 1))) (lCons (eVar 2) lNil))) (gVar 7) lb_broken_3)
noncomputable def lb_broken_1 : SM := (sSeq (sSet 5 lc_broken_1)
  (sFor (iRange1 (lCons (eVar 2) lNil)) (gVar 6) lb_broken_2))
noncomputable def m_broken : SM := (sSeq (sSet 2 (eCall cLen (lCons (eVar 0) lNil)))
  (sSeq (sFor (iEnum2 (eVar 1)) (gTup 2 (gCons (gVar 3) (gCons (gVar 4) gNils))) lb_broken_1)
  (sRet (eC .non))))
noncomputable def c_broken : List D → AH → ER := fsem 9 m_broken
noncomputable def lb_least_blocks_2 : SM := (sExpr (eMeth "list" mAppend (eVar 4) (lCons (eTup (lCons (eOp oIx (eVar 8) (eVar 6)) (lCons (eOp oIx (eVar 8) (eVar 7)) lNil))) lNil)))
noncomputable def wc_least_blocks_1 : EM := (eOp oLt (eVar 5) (eCall cLen (lCons (eVar 4) lNil)))
noncomputable def lb_least_blocks_1 : SM := (sSeq (sAsg (eOp oIx (eVar 4) (eVar 5)) (fun d e h => onlyNx ((gTup 2 (gCons (gVar 6) (gCons (gVar 7) gNils))) d e h)))
  (sSeq (sSet 5 (eOp oAdd (eVar 5) (eC (.int 1))))
  (sIf (eOp oNe (eOp oIx (eVar 3) (eVar 6)) (eOp oIx (eVar 3) (eVar 7)))
    (sSeq (sSet 3 (eCall (argn 3 c_merged) (lCons (eVar 3) (lCons (eVar 6) (lCons (eVar 7) lNil)))))
  (sFor (iVal (eVar 0)) (gVar 8) lb_least_blocks_2))
    sPass)))
noncomputable def m_least_blocks : SM := (sSeq (sSet 3 (eCall (argn 1 c_alone) (lCons (eVar 1) lNil)))
  (sSeq (sSet 4 (eCall cList (lCons (eVar 2) lNil)))
  (sSeq (sSet 5 (eC (.int 0)))
  (sSeq (sWhile wc_least_blocks_1 lb_least_blocks_1)
  (sRet (eVar 3))))))
noncomputable def c_least_blocks : List D → AH → ER := fsem 9 m_least_blocks
noncomputable def lb__followed_1 : SM := (sSeq (sSet 6 (eOp oSub (eCall cLen (lCons (eVar 3) lNil)) (eC (.int 1))))
  (sIf (eUn oTruth (eVar 5))
    (sSeq (sExpr (eMeth "list" mAppend (eVar 3) (lCons (eTup (lCons (eC (.str (Str.ofString "swap"))) (lCons (eVar 4) lNil))) lNil)))
  (sExpr (eMeth "list" mAppend (eVar 3) (lCons (eTup (lCons (eC (.str (Str.ofString "through"))) (lCons (eVar 6) (lCons (eOp oAdd (eVar 6) (eC (.int 1))) lNil)))) lNil))))
    (sExpr (eMeth "list" mAppend (eVar 3) (lCons (eTup (lCons (eC (.str (Str.ofString "through"))) (lCons (eVar 6) (lCons (eVar 4) lNil)))) lNil)))))
noncomputable def m__followed : SM := (sSeq (sSet 3 (eLst (lStar (eVar 0) (lCons (eTup (lCons (eC (.str (Str.ofString "self"))) (lCons (eVar 2) lNil))) lNil))))
  (sSeq (sFor (iVal (eVar 1)) (gTup 2 (gCons (gVar 4) (gCons (gVar 5) gNils))) lb__followed_1)
  (sRet (eCall cTuple (lCons (eVar 3) lNil)))))
noncomputable def c__followed : List D → AH → ER := fsem 7 m__followed
noncomputable def lb__tree_path_2 : SM := (sSeq (sIf (eAnd (eOp oEq (eVar 9) (eVar 7)) (eOp oIs (eOp oIx (eVar 4) (eVar 10)) (eC .non)))
    (sSeq (sAsg (eTup (lCons (eVar 7) (lCons (eVar 8) (lCons (eC (.bl false)) lNil)))) (fun d e h => onlyNx ((gSub putL (eVar 4) (eVar 10)) d e h)))
  (sExpr (eMeth "list" mAppend (eVar 5) (lCons (eVar 10) lNil))))
    sPass)
  (sIf (eAnd (eOp oEq (eVar 10) (eVar 7)) (eOp oIs (eOp oIx (eVar 4) (eVar 9)) (eC .non)))
    (sSeq (sAsg (eTup (lCons (eVar 7) (lCons (eVar 8) (lCons (eC (.bl true)) lNil)))) (fun d e h => onlyNx ((gSub putL (eVar 4) (eVar 9)) d e h)))
  (sExpr (eMeth "list" mAppend (eVar 5) (lCons (eVar 9) lNil))))
    sPass))
noncomputable def wc__tree_path_1 : EM := (eOp oLt (eVar 6) (eCall cLen (lCons (eVar 5) lNil)))
noncomputable def lb__tree_path_1 : SM := (sSeq (sSet 7 (eOp oIx (eVar 5) (eVar 6)))
  (sSeq (sFor (iEnum2 (eVar 0)) (gTup 2 (gCons (gVar 8) (gCons (gTup 2 (gCons (gVar 9) (gCons (gVar 10) gNils))) gNils))) lb__tree_path_2)
  (sSet 6 (eOp oAdd (eVar 6) (eC (.int 1))))))
noncomputable def wc__tree_path_3 : EM := (eOp oNe (eVar 7) (eVar 2))
noncomputable def lb__tree_path_3 : SM := (sSeq (sAsg (eOp oIx (eVar 4) (eVar 7)) (fun d e h => onlyNx ((gTup 3 (gCons (gVar 7) (gCons (gVar 8) (gCons (gVar 12) gNils)))) d e h)))
  (sExpr (eMeth "list" mAppend (eVar 11) (lCons (eTup (lCons (eVar 8) (lCons (eVar 12) lNil))) lNil))))
noncomputable def m__tree_path : SM := (sSeq (sSet 4 (eOp oMul (eLst (lCons (eC .non) lNil)) (eVar 1)))
  (sSeq (sAsg (eTup (lCons (eVar 2) (lCons (eC (.int 0)) (lCons (eC (.bl false)) lNil)))) (fun d e h => onlyNx ((gSub putL (eVar 4) (eVar 2)) d e h)))
  (sSeq (sSet 5 (eLst (lCons (eVar 2) lNil)))
  (sSeq (sSet 6 (eC (.int 0)))
  (sSeq (sWhile wc__tree_path_1 lb__tree_path_1)
  (sSeq (sSet 11 (eLst lNil))
  (sSeq (sSet 7 (eVar 3))
  (sSeq (sWhile wc__tree_path_3 lb__tree_path_3)
  (sRet (eRev (eVar 11)))))))))))
noncomputable def c__tree_path : List D → AH → ER := fsem 13 m__tree_path
noncomputable def lc_join_reason_1 : EM := (eLc (iEnum2 (eVar 2)) (gTup 2 (gCons (gVar 9) (gCons (gTup 2 (gCons (gVar 10) (gCons (gVar 11) gNils))) gNils))) (eC (.bl true)) (eTup (lCons (eVar 10) (lCons (eVar 11) (lCons (eTup (lCons (eC (.str (Str.ofString "told"))) (lCons (eVar 9) lNil))) lNil)))) [9, 10, 11])
noncomputable def lb_join_reason_2 : SM := (sExpr (eMeth "list" mAppend (eVar 8) (lCons (eTup (lCons (eOp oIx (eVar 15) (eVar 10)) (lCons (eOp oIx (eVar 15) (eVar 11)) (lCons (eTup (lCons (eC (.str (Str.ofString "moved"))) (lCons (eCall cLen (lCons (eVar 5) lNil)) (lCons (eVar 14) lNil)))) lNil)))) lNil)))
noncomputable def wc_join_reason_1 : EM := (eAnd (eOp oLt (eVar 12) (eCall cLen (lCons (eVar 8) lNil))) (eOp oNe (eOp oIx (eVar 7) (eVar 3)) (eOp oIx (eVar 7) (eVar 4))))
noncomputable def lb_join_reason_1 : SM := (sSeq (sAsg (eOp oIx (eVar 8) (eVar 12)) (fun d e h => onlyNx ((gTup 3 (gCons (gVar 10) (gCons (gVar 11) (gCons (gVar 13) gNils)))) d e h)))
  (sSeq (sSet 12 (eOp oAdd (eVar 12) (eC (.int 1))))
  (sIf (eOp oNe (eOp oIx (eVar 7) (eVar 10)) (eOp oIx (eVar 7) (eVar 11)))
    (sSeq (sSet 7 (eCall (argn 3 c_merged) (lCons (eVar 7) (lCons (eVar 10) (lCons (eVar 11) lNil)))))
  (sSeq (sFor (iEnum2 (eVar 0)) (gTup 2 (gCons (gVar 14) (gCons (gVar 15) gNils))) lb_join_reason_2)
  (sSeq (sExpr (eMeth "list" mAppend (eVar 5) (lCons (eVar 13) lNil)))
  (sExpr (eMeth "list" mAppend (eVar 6) (lCons (eTup (lCons (eVar 10) (lCons (eVar 11) lNil))) lNil))))))
    sPass)))
noncomputable def m_join_reason : SM := (sSeq (sSet 5 (eLst lNil))
  (sSeq (sSet 6 (eLst lNil))
  (sSeq (sSet 7 (eCall (argn 1 c_alone) (lCons (eVar 1) lNil)))
  (sSeq (sSet 8 lc_join_reason_1)
  (sSeq (sSet 12 (eC (.int 0)))
  (sSeq (sWhile wc_join_reason_1 lb_join_reason_1)
  (sSeq (sIf (eOp oNe (eOp oIx (eVar 7) (eVar 3)) (eOp oIx (eVar 7) (eVar 4)))
    (sRet (eC .non))
    sPass)
  (sRet (eCall (argn 3 c__followed) (lCons (eVar 5) (lCons (eCall (argn 4 c__tree_path) (lCons (eVar 6) (lCons (eVar 1) (lCons (eVar 3) (lCons (eVar 4) lNil))))) (lCons (eVar 3) lNil))))))))))))
noncomputable def c_join_reason : List D → AH → ER := fsem 16 m_join_reason
noncomputable def m__pair_of : SM := (sSeq (sIf (eUn oTruth (eCall (argn 2 c_is_row) (lCons (eVar 0) (lCons (eC (.int 2)) lNil))))
    (sSeq (sAsg (eVar 0) (fun d e h => onlyNx ((gTup 2 (gCons (gVar 5) (gCons (gVar 6) gNils))) d e h)))
  (sSeq (sIf (eAnd (eOp oEq (eVar 5) (eC (.str (Str.ofString "self")))) (eUn oTruth (eCall (argn 2 c_is_index) (lCons (eVar 6) (lCons (eVar 3) lNil)))))
    (sRet (eTup (lCons (eVar 6) (lCons (eVar 6) lNil))))
    sPass)
  (sSeq (sIf (eAnd (eOp oEq (eVar 5) (eC (.str (Str.ofString "told")))) (eUn oTruth (eCall (argn 2 c_is_index) (lCons (eVar 6) (lCons (eCall cLen (lCons (eVar 4) lNil)) lNil)))))
    (sRet (eOp oIx (eVar 4) (eVar 6)))
    sPass)
  (sSeq (sIf (eAnd (eOp oEq (eVar 5) (eC (.str (Str.ofString "swap")))) (eUn oTruth (eCall (argn 2 c_is_index) (lCons (eVar 6) (lCons (eCall cLen (lCons (eVar 1) lNil)) lNil)))))
    (sSeq (sAsg (eOp oIx (eVar 1) (eVar 6)) (fun d e h => onlyNx ((gTup 2 (gCons (gVar 7) (gCons (gVar 8) gNils))) d e h)))
  (sRet (eTup (lCons (eVar 8) (lCons (eVar 7) lNil)))))
    sPass)
  (sRet (eC .non))))))
    sPass)
  (sSeq (sIf (eNot (eUn oTruth (eCall (argn 2 c_is_row) (lCons (eVar 0) (lCons (eC (.int 3)) lNil)))))
    (sRet (eC .non))
    sPass)
  (sSeq (sAsg (eVar 0) (fun d e h => onlyNx ((gTup 3 (gCons (gVar 5) (gCons (gVar 6) (gCons (gVar 9) gNils)))) d e h)))
  (sSeq (sIf (eNot (eUn oTruth (eCall (argn 2 c_is_index) (lCons (eVar 6) (lCons (eCall cLen (lCons (eVar 1) lNil)) lNil)))))
    (sRet (eC .non))
    sPass)
  (sSeq (sAsg (eOp oIx (eVar 1) (eVar 6)) (fun d e h => onlyNx ((gTup 2 (gCons (gVar 7) (gCons (gVar 8) gNils))) d e h)))
  (sSeq (sIf (eAnd (eOp oEq (eVar 5) (eC (.str (Str.ofString "moved")))) (eUn oTruth (eCall (argn 2 c_is_index) (lCons (eVar 9) (lCons (eCall cLen (lCons (eVar 2) lNil)) lNil)))))
    (sRet (eTup (lCons (eOp oIx (eOp oIx (eVar 2) (eVar 9)) (eVar 7)) (lCons (eOp oIx (eOp oIx (eVar 2) (eVar 9)) (eVar 8)) lNil))))
    sPass)
  (sSeq (sIf (eAnd (eOp oEq (eVar 5) (eC (.str (Str.ofString "through")))) (eAnd (eUn oTruth (eCall (argn 2 c_is_index) (lCons (eVar 9) (lCons (eCall cLen (lCons (eVar 1) lNil)) lNil)))) (eOp oEq (eOp oIx (eOp oIx (eVar 1) (eVar 9)) (eC (.int 0))) (eVar 8))))
    (sRet (eTup (lCons (eVar 7) (lCons (eOp oIx (eOp oIx (eVar 1) (eVar 9)) (eC (.int 1))) lNil))))
    sPass)
  (sRet (eC .non)))))))))
noncomputable def c__pair_of : List D → AH → ER := fsem 10 m__pair_of
noncomputable def lb_shows_joined_1 : SM := (sSeq (sSet 8 (eCall (argn 5 c__pair_of) (lCons (eVar 7) (lCons (eVar 6) (lCons (eVar 0) (lCons (eVar 1) (lCons (eVar 2) lNil)))))))
  (sSeq (sIf (eOp oIs (eVar 8) (eC .non))
    (sRet (eC (.bl false)))
    sPass)
  (sExpr (eMeth "list" mAppend (eVar 6) (lCons (eVar 8) lNil)))))
noncomputable def m_shows_joined : SM := (sSeq (sIf (eOr (eNot (eUn oTruth (eCall cIsi (lCons (eVar 5) (lCons (eC (.ty "tuple")) lNil))))) (eOp oEq (eCall cLen (lCons (eVar 5) lNil)) (eC (.int 0))))
    (sRet (eC (.bl false)))
    sPass)
  (sSeq (sSet 6 (eLst lNil))
  (sSeq (sFor (iVal (eVar 5)) (gVar 7) lb_shows_joined_1)
  (sRet (eOp oEq (eOp oIx (eVar 6) (eUn oNeg (eC (.int 1)))) (eTup (lCons (eVar 3) (lCons (eVar 4) lNil))))))))
noncomputable def c_shows_joined : List D → AH → ER := fsem 9 m_shows_joined
noncomputable def lc_shows_parted_1 : EM := (eLc (iVal (eVar 2)) (gTup 2 (gCons (gVar 6) (gCons (gVar 7) gNils))) (eC (.bl true)) (eOp oEq (eOp oIx (eVar 5) (eVar 6)) (eOp oIx (eVar 5) (eVar 7))) [6, 7])
noncomputable def m_shows_parted : SM := (sSeq (sIf (eOr (eNot (eUn oTruth (eCall (argn 2 c_is_labels) (lCons (eVar 5) (lCons (eVar 1) lNil))))) (eOp oIsNot (eCall (argn 2 c_broken) (lCons (eVar 5) (lCons (eVar 0) lNil))) (eC .non)))
    (sRet (eC (.bl false)))
    sPass)
  (sSeq (sIf (eOp oEq (eOp oIx (eVar 5) (eVar 3)) (eOp oIx (eVar 5) (eVar 4)))
    (sRet (eC (.bl false)))
    sPass)
  (sRet (eCall cAll (lCons lc_shows_parted_1 lNil)))))
noncomputable def c_shows_parted : List D → AH → ER := fsem 8 m_shows_parted
noncomputable def m__law_cell : SM := (sSeq (sSet 2 (eSl (eVar 0) none (some (eC (.int 63)))))
  (sSeq (sIf (eOp oLt (eVar 1) (eCall cLen (lCons (eVar 2) lNil)))
    (sRet (eOp oMod (eCall cInt (lCons (eOp oIx (eVar 2) (eVar 1)) lNil)) (eOp oPow (eC (.int 10)) (eC (.int 60)))))
    sPass)
  (sRet (eOp oMod (eCall cInt (lCons (eOp oAdd (eOp oMul (eOp oMod (eCall cInt (lCons (eCall cSum (lCons (eVar 2) lNil)) lNil)) (eC (.int 1000003))) (eC (.int 7919))) (eOp oMul (eC (.int 104729)) (eVar 1))) lNil)) (eOp oPow (eC (.int 10)) (eC (.int 15)))))))
noncomputable def c__law_cell : List D → AH → ER := fsem 3 m__law_cell
noncomputable def m__law_bag : SM := (sSeq (sSet 2 (eCall (argn 2 c__law_cell) (lCons (eVar 0) (lCons (eVar 1) lNil))))
  (sRet (eLst (lCons (eVar 2) (lCons (eVar 2) (lCons (eOp oMul (eC (.int 64)) (eVar 1)) lNil))))))
noncomputable def c__law_bag : List D → AH → ER := fsem 3 m__law_bag
noncomputable def m__law_take : SM := (sSeq (sAsg (eOp oAdd (eOp oIx (eVar 0) (eC (.int 2))) (eC (.int 1))) (fun d e h => onlyNx ((gSub putL (eVar 0) (eC (.int 2))) d e h)))
  (sSeq (sIf (eAnd (eOp oGe (eOp oIx (eVar 0) (eC (.int 1))) (eOp oPow (eC (.int 10)) (eC (.int 18)))) (eOp oGt (eOp oIx (eVar 0) (eC (.int 0))) (eC (.int 0))))
    (sSeq (sSet 2 (eOp oMod (eCall cInt (lCons (eOp oIx (eVar 0) (eC (.int 0))) lNil)) (eVar 1)))
  (sSeq (sAsg (eOp oDiv (eOp oIx (eVar 0) (eC (.int 0))) (eVar 1)) (fun d e h => onlyNx ((gSub putL (eVar 0) (eC (.int 0))) d e h)))
  (sRet (eVar 2))))
    sPass)
  (sSeq (sSet 3 (eOp oMod (eCall cInt (lCons (eOp oMul (eOp oAdd (eOp oIx (eVar 0) (eC (.int 1))) (eOp oMul (eC (.int 7919)) (eOp oIx (eVar 0) (eC (.int 2))))) (eC (.int 48271))) lNil)) (eC (.int 2147483647))))
  (sSeq (sSet 3 (eOp oMod (eCall cInt (lCons (eOp oMul (eOp oAdd (eOp oDiv (eVar 3) (eC (.int 3))) (eOp oMul (eC (.int 104729)) (eOp oIx (eVar 0) (eC (.int 2))))) (eC (.int 69621))) lNil)) (eC (.int 2147483629))))
  (sRet (eOp oMod (eCall cInt (lCons (eOp oDiv (eVar 3) (eC (.int 7))) lNil)) (eVar 1)))))))
noncomputable def c__law_take : List D → AH → ER := fsem 4 m__law_take
noncomputable def lb__law_shuffled_1 : SM := (sSeq (sSet 4 (eOp oAdd (eVar 3) (eCall (argn 2 c__law_take) (lCons (eVar 0) (lCons (eOp oSub (eVar 1) (eVar 3)) lNil)))))
  (sSeq (sSet 5 (eOp oIx (eVar 2) (eVar 3)))
  (sSeq (sAsg (eOp oIx (eVar 2) (eVar 4)) (fun d e h => onlyNx ((gSub putL (eVar 2) (eVar 3)) d e h)))
  (sAsg (eVar 5) (fun d e h => onlyNx ((gSub putL (eVar 2) (eVar 4)) d e h))))))
noncomputable def m__law_shuffled : SM := (sSeq (sSet 2 (eRg1 false (eVar 1)))
  (sSeq (sFor (iRange1 (lCons (eOp oSub (eVar 1) (eC (.int 1))) lNil)) (gVar 3) lb__law_shuffled_1)
  (sRet (eVar 2))))
noncomputable def c__law_shuffled : List D → AH → ER := fsem 6 m__law_shuffled
noncomputable def m__law_is_whole : SM := (sRet (eAnd (eCall cIsi (lCons (eVar 0) (lCons (eC (.ty "int")) lNil))) (eNot (eCall cIsi (lCons (eVar 0) (lCons (eC (.ty "bool")) lNil))))))
noncomputable def c__law_is_whole : List D → AH → ER := fsem 1 m__law_is_whole
noncomputable def m__law_is_truth : SM := (sRet (eAnd (eCall cIsi (lCons (eVar 0) (lCons (eC (.ty "bool")) lNil))) (eOp oEq (eVar 0) (eVar 1))))
noncomputable def c__law_is_truth : List D → AH → ER := fsem 2 m__law_is_truth
noncomputable def lb__law_is_row_1 : SM := (sIf (eOr (eNot (eUn oTruth (eCall (argn 1 c__law_is_whole) (lCons (eOp oIx (eVar 0) (eVar 2)) lNil)))) (eOp oNe (eOp oIx (eVar 0) (eVar 2)) (eOp oIx (eVar 1) (eVar 2))))
    (sRet (eC (.bl false)))
    sPass)
noncomputable def m__law_is_row : SM := (sSeq (sIf (eOr (eNot (eUn oTruth (eCall cIsi (lCons (eVar 0) (lCons (eC (.ty "tuple")) lNil))))) (eOp oNe (eCall cLen (lCons (eVar 0) lNil)) (eCall cLen (lCons (eVar 1) lNil))))
    (sRet (eC (.bl false)))
    sPass)
  (sSeq (sFor (iRange1 (lCons (eCall cLen (lCons (eVar 1) lNil)) lNil)) (gVar 2) lb__law_is_row_1)
  (sRet (eC (.bl true)))))
noncomputable def c__law_is_row : List D → AH → ER := fsem 3 m__law_is_row
noncomputable def lb__law_partition_1 : SM := (sSeq (sSet 6 (eCall (argn 2 c__law_take) (lCons (eVar 0) (lCons (eOp oAdd (eVar 5) (eC (.int 1))) lNil))))
  (sSeq (sIf (eAnd (eOp oEq (eVar 2) (eC (.int 1))) (eOp oEq (eCall (argn 2 c__law_take) (lCons (eVar 0) (lCons (eC (.int 2)) lNil))) (eC (.int 1))))
    (sSet 6 (eVar 5))
    sPass)
  (sSeq (sIf (eOp oEq (eVar 2) (eC (.int 2)))
    (sSet 6 (eOp oSub (eVar 5) (eOp oMod (eCall cInt (lCons (eVar 5) lNil)) (eVar 3))))
    sPass)
  (sSeq (sIf (eOp oEq (eVar 2) (eC (.int 3)))
    (sSet 6 (eOp oMod (eCall cInt (lCons (eVar 5) lNil)) (eVar 3)))
    sPass)
  (sSeq (sIf (eOp oLt (eVar 6) (eVar 5))
    (sSet 6 (eOp oIx (eVar 4) (eVar 6)))
    sPass)
  (sExpr (eMeth "list" mAppend (eVar 4) (lCons (eVar 6) lNil))))))))
noncomputable def m__law_partition : SM := (sSeq (sSet 2 (eCall (argn 2 c__law_take) (lCons (eVar 0) (lCons (eC (.int 4)) lNil))))
  (sSeq (sSet 3 (eOp oAdd (eC (.int 1)) (eCall (argn 2 c__law_take) (lCons (eVar 0) (lCons (eVar 1) lNil)))))
  (sSeq (sSet 4 (eLst lNil))
  (sSeq (sFor (iRange1 (lCons (eVar 1) lNil)) (gVar 5) lb__law_partition_1)
  (sRet (eCall cTuple (lCons (eVar 4) lNil)))))))
noncomputable def c__law_partition : List D → AH → ER := fsem 7 m__law_partition
noncomputable def lc__law_classes_1 : EM := (eLc (iRange1 (lCons (eCall cLen (lCons (eVar 0) lNil)) lNil)) (gVar 3) (eOp oEq (eOp oIx (eVar 0) (eVar 3)) (eVar 2)) (eVar 3) [3])
noncomputable def lb__law_classes_1 : SM := (sIf (eOp oEq (eOp oIx (eVar 0) (eVar 2)) (eVar 2))
    (sExpr (eMeth "list" mAppend (eVar 1) (lCons (eCall cTuple (lCons lc__law_classes_1 lNil)) lNil)))
    sPass)
noncomputable def m__law_classes : SM := (sSeq (sSet 1 (eLst lNil))
  (sSeq (sFor (iRange1 (lCons (eCall cLen (lCons (eVar 0) lNil)) lNil)) (gVar 2) lb__law_classes_1)
  (sRet (eVar 1))))
noncomputable def c__law_classes : List D → AH → ER := fsem 4 m__law_classes
noncomputable def lc__law_keeping_1 : EM := (eLc (iRange1 (lCons (eCall cLen (lCons (eVar 2) lNil)) lNil)) (gVar 10) (eAnd (eOp oNotIn2 (eVar 10) (eVar 4)) (eOp oEq (eCall cLen (lCons (eOp oIx (eVar 2) (eVar 10)) lNil)) (eCall cLen (lCons (eVar 5) lNil)))) (eVar 10) [10])
noncomputable def lb__law_keeping_2 : SM := (sAsg (eOp oIx (eOp oIx (eVar 2) (eVar 7)) (eOp oIx (eVar 8) (eVar 9))) (fun d e h => onlyNx ((gSub putL (eVar 3) (eOp oIx (eVar 5) (eVar 9))) d e h)))
noncomputable def lb__law_keeping_1 : SM := (sSeq (sSet 6 lc__law_keeping_1)
  (sSeq (sSet 7 (eOp oIx (eVar 6) (eCall (argn 2 c__law_take) (lCons (eVar 0) (lCons (eCall cLen (lCons (eVar 6) lNil)) lNil)))))
  (sSeq (sExpr (eMeth "list" mAppend (eVar 4) (lCons (eVar 7) lNil)))
  (sSeq (sSet 8 (eCall (argn 2 c__law_shuffled) (lCons (eVar 0) (lCons (eCall cLen (lCons (eVar 5) lNil)) lNil))))
  (sFor (iRange1 (lCons (eCall cLen (lCons (eVar 5) lNil)) lNil)) (gVar 9) lb__law_keeping_2)))))
noncomputable def m__law_keeping : SM := (sSeq (sSet 2 (eCall (argn 1 c__law_classes) (lCons (eVar 1) lNil)))
  (sSeq (sSet 3 (eOp oMul (eLst (lCons (eC (.int 0)) lNil)) (eCall cLen (lCons (eVar 1) lNil))))
  (sSeq (sSet 4 (eLst lNil))
  (sSeq (sFor (iVal (eVar 2)) (gVar 5) lb__law_keeping_1)
  (sRet (eVar 3))))))
noncomputable def c__law_keeping : List D → AH → ER := fsem 11 m__law_keeping
noncomputable def m__law_moving : SM := (sSeq (sSet 3 (eCall (argn 2 c__law_take) (lCons (eVar 0) (lCons (eC (.int 4)) lNil))))
  (sSeq (sIf (eUn oTruth (eVar 2))
    (sSet 3 (eC (.int 2)))
    sPass)
  (sSeq (sIf (eOp oEq (eVar 3) (eC (.int 0)))
    (sRet (eCall cTuple (lCons (eCall (argn 2 c__law_shuffled) (lCons (eVar 0) (lCons (eCall cLen (lCons (eVar 1) lNil)) lNil))) lNil)))
    sPass)
  (sSeq (sSet 4 (eCall (argn 2 c__law_keeping) (lCons (eVar 0) (lCons (eVar 1) lNil))))
  (sSeq (sIf (eOp oEq (eVar 3) (eC (.int 1)))
    (sSeq (sSet 5 (eCall (argn 2 c__law_take) (lCons (eVar 0) (lCons (eCall cLen (lCons (eVar 1) lNil)) lNil))))
  (sSeq (sSet 6 (eCall (argn 2 c__law_take) (lCons (eVar 0) (lCons (eCall cLen (lCons (eVar 1) lNil)) lNil))))
  (sSeq (sSet 7 (eOp oIx (eVar 4) (eVar 5)))
  (sSeq (sAsg (eOp oIx (eVar 4) (eVar 6)) (fun d e h => onlyNx ((gSub putL (eVar 4) (eVar 5)) d e h)))
  (sAsg (eVar 7) (fun d e h => onlyNx ((gSub putL (eVar 4) (eVar 6)) d e h)))))))
    sPass)
  (sRet (eCall cTuple (lCons (eVar 4) lNil))))))))
noncomputable def c__law_moving : List D → AH → ER := fsem 8 m__law_moving
noncomputable def lb__law_is_labels_1 : SM := (sSeq (sIf (eOr (eNot (eUn oTruth (eCall (argn 1 c__law_is_whole) (lCons (eOp oIx (eVar 0) (eVar 2)) lNil)))) (eOr (eOp oLt (eOp oIx (eVar 0) (eVar 2)) (eC (.int 0))) (eOp oGt (eOp oIx (eVar 0) (eVar 2)) (eVar 2))))
    (sRet (eC (.bl false)))
    sPass)
  (sIf (eOp oNe (eOp oIx (eVar 0) (eOp oIx (eVar 0) (eVar 2))) (eOp oIx (eVar 0) (eVar 2)))
    (sRet (eC (.bl false)))
    sPass))
noncomputable def m__law_is_labels : SM := (sSeq (sIf (eOr (eNot (eUn oTruth (eCall cIsi (lCons (eVar 0) (lCons (eC (.ty "tuple")) lNil))))) (eOp oNe (eCall cLen (lCons (eVar 0) lNil)) (eVar 1)))
    (sRet (eC (.bl false)))
    sPass)
  (sSeq (sFor (iRange1 (lCons (eVar 1) lNil)) (gVar 2) lb__law_is_labels_1)
  (sRet (eC (.bl true)))))
noncomputable def c__law_is_labels : List D → AH → ER := fsem 3 m__law_is_labels
noncomputable def lc__law_merged_1 : EM := (eLc (iVal (eVar 0)) (gVar 5) (eC (.bl true)) (eIf (eOp oEq (eVar 5) (eVar 4)) (eVar 3) (eVar 5)) [5])
noncomputable def m__law_merged : SM := (sSeq (sSet 3 (eCall cMin2 (lCons (eOp oIx (eVar 0) (eVar 1)) (lCons (eOp oIx (eVar 0) (eVar 2)) lNil))))
  (sSeq (sSet 4 (eCall cMax2 (lCons (eOp oIx (eVar 0) (eVar 1)) (lCons (eOp oIx (eVar 0) (eVar 2)) lNil))))
  (sSeq (sIf (eOp oEq (eVar 3) (eVar 4))
    (sRet (eVar 0))
    sPass)
  (sRet lc__law_merged_1))))
noncomputable def c__law_merged : List D → AH → ER := fsem 6 m__law_merged
noncomputable def lb__law_closure_1 : SM := (sSet 3 (eCall (argn 3 c__law_merged) (lCons (eVar 3) (lCons (eOp oIx (eVar 4) (eC (.int 0))) (lCons (eOp oIx (eVar 4) (eC (.int 1))) lNil)))))
noncomputable def lb__law_closure_4 : SM := (sSet 3 (eCall (argn 3 c__law_merged) (lCons (eVar 3) (lCons (eOp oIx (eVar 7) (eVar 8)) (lCons (eOp oIx (eVar 7) (eOp oIx (eVar 3) (eVar 8))) lNil)))))
noncomputable def lb__law_closure_3 : SM := (sFor (iRange1 (lCons (eVar 1) lNil)) (gVar 8) lb__law_closure_4)
noncomputable def lb__law_closure_2 : SM := (sSeq (sSet 6 (eVar 3))
  (sSeq (sFor (iVal (eVar 0)) (gVar 7) lb__law_closure_3)
  (sIf (eOp oEq (eVar 3) (eVar 6))
    sBreak
    sPass)))
noncomputable def m__law_closure : SM := (sSeq (sSet 3 (eRg1 false (eVar 1)))
  (sSeq (sFor (iVal (eVar 2)) (gVar 4) lb__law_closure_1)
  (sSeq (sFor (iRange1 (lCons (eVar 1) lNil)) (gVar 5) lb__law_closure_2)
  (sRet (eCall cTuple (lCons (eVar 3) lNil))))))
noncomputable def c__law_closure : List D → AH → ER := fsem 9 m__law_closure
noncomputable def lb__law_holds_1 : SM := (sIf (eOp oNe (eOp oIx (eVar 0) (eOp oIx (eVar 3) (eC (.int 0)))) (eOp oIx (eVar 0) (eOp oIx (eVar 3) (eC (.int 1)))))
    (sRet (eC (.bl false)))
    sPass)
noncomputable def lb__law_holds_3 : SM := (sIf (eOp oNe (eOp oIx (eVar 0) (eOp oIx (eVar 4) (eVar 5))) (eOp oIx (eVar 0) (eOp oIx (eVar 4) (eOp oIx (eVar 0) (eVar 5)))))
    (sRet (eC (.bl false)))
    sPass)
noncomputable def lb__law_holds_2 : SM := (sFor (iRange1 (lCons (eCall cLen (lCons (eVar 0) lNil)) lNil)) (gVar 5) lb__law_holds_3)
noncomputable def m__law_holds : SM := (sSeq (sFor (iVal (eVar 2)) (gVar 3) lb__law_holds_1)
  (sSeq (sFor (iVal (eVar 1)) (gVar 4) lb__law_holds_2)
  (sRet (eC (.bl true)))))
noncomputable def c__law_holds : List D → AH → ER := fsem 6 m__law_holds
noncomputable def lc__law_pair_1 : EM := (eLc (iRange1 (lCons (eCall cLen (lCons (eVar 1) lNil)) lNil)) (gVar 5) (eOp oEq (eOp oIx (eVar 1) (eVar 5)) (eOp oIx (eVar 1) (eVar 3))) (eVar 5) [5])
noncomputable def m__law_pair : SM := (sSeq (sSet 3 (eCall (argn 2 c__law_take) (lCons (eVar 0) (lCons (eCall cLen (lCons (eVar 1) lNil)) lNil))))
  (sSeq (sSet 4 lc__law_pair_1)
  (sSeq (sIf (eAnd (eOp oEq (eCall (argn 2 c__law_take) (lCons (eVar 0) (lCons (eC (.int 3)) lNil))) (eC (.int 0))) (eNot (eUn oTruth (eVar 2))))
    (sSet 4 (eRg1 false (eCall cLen (lCons (eVar 1) lNil))))
    sPass)
  (sRet (eTup (lCons (eVar 3) (lCons (eOp oIx (eVar 4) (eCall (argn 2 c__law_take) (lCons (eVar 0) (lCons (eCall cLen (lCons (eVar 4) lNil)) lNil)))) lNil)))))))
noncomputable def c__law_pair : List D → AH → ER := fsem 6 m__law_pair
noncomputable def m__law_is_index : SM := (sRet (eAnd (eCall (argn 1 c__law_is_whole) (lCons (eVar 0) lNil)) (eChain oLe oLt (eC (.int 0)) (eVar 0) (eVar 1))))
noncomputable def c__law_is_index : List D → AH → ER := fsem 2 m__law_is_index
noncomputable def m__law_limits : SM := (sSeq (sIf (eOp oEq (eVar 0) (eC (.str (Str.ofString "self"))))
    (sRet (eLst (lCons (eVar 1) lNil)))
    sPass)
  (sSeq (sIf (eOp oEq (eVar 0) (eC (.str (Str.ofString "told"))))
    (sRet (eLst (lCons (eVar 2) lNil)))
    sPass)
  (sSeq (sIf (eOp oEq (eVar 0) (eC (.str (Str.ofString "swap"))))
    (sRet (eLst (lCons (eVar 4) lNil)))
    sPass)
  (sSeq (sIf (eOp oEq (eVar 0) (eC (.str (Str.ofString "moved"))))
    (sRet (eLst (lCons (eVar 4) (lCons (eVar 3) lNil))))
    sPass)
  (sSeq (sIf (eOp oEq (eVar 0) (eC (.str (Str.ofString "through"))))
    (sRet (eLst (lCons (eVar 4) (lCons (eVar 4) lNil))))
    sPass)
  (sRet (eLst lNil)))))))
noncomputable def c__law_limits : List D → AH → ER := fsem 5 m__law_limits
noncomputable def lb__law_line_1 : SM := (sIf (eNot (eUn oTruth (eCall (argn 2 c__law_is_index) (lCons (eOp oIx (eVar 0) (eOp oAdd (eC (.int 1)) (eVar 6))) (lCons (eOp oIx (eVar 5) (eVar 6)) lNil)))))
    (sRet (eC .non))
    sPass)
noncomputable def m__law_line : SM := (sSeq (sIf (eOr (eNot (eUn oTruth (eCall cIsi (lCons (eVar 0) (lCons (eC (.ty "tuple")) lNil))))) (eOr (eOp oLt (eCall cLen (lCons (eVar 0) lNil)) (eC (.int 2))) (eNot (eUn oTruth (eCall cIsi (lCons (eOp oIx (eVar 0) (eC (.int 0))) (lCons (eC (.ty "str")) lNil)))))))
    (sRet (eC .non))
    sPass)
  (sSeq (sSet 5 (eCall (argn 5 c__law_limits) (lCons (eOp oIx (eVar 0) (eC (.int 0))) (lCons (eVar 3) (lCons (eCall cLen (lCons (eVar 4) lNil)) (lCons (eCall cLen (lCons (eVar 2) lNil)) (lCons (eCall cLen (lCons (eVar 1) lNil)) lNil)))))))
  (sSeq (sIf (eOp oNe (eCall cLen (lCons (eVar 0) lNil)) (eOp oAdd (eC (.int 1)) (eCall cLen (lCons (eVar 5) lNil))))
    (sRet (eC .non))
    sPass)
  (sSeq (sFor (iRange1 (lCons (eCall cLen (lCons (eVar 5) lNil)) lNil)) (gVar 6) lb__law_line_1)
  (sSeq (sIf (eOp oEq (eOp oIx (eVar 0) (eC (.int 0))) (eC (.str (Str.ofString "self"))))
    (sRet (eTup (lCons (eOp oIx (eVar 0) (eC (.int 1))) (lCons (eOp oIx (eVar 0) (eC (.int 1))) lNil))))
    sPass)
  (sSeq (sIf (eOp oEq (eOp oIx (eVar 0) (eC (.int 0))) (eC (.str (Str.ofString "told"))))
    (sRet (eTup (lCons (eOp oIx (eOp oIx (eVar 4) (eOp oIx (eVar 0) (eC (.int 1)))) (eC (.int 0))) (lCons (eOp oIx (eOp oIx (eVar 4) (eOp oIx (eVar 0) (eC (.int 1)))) (eC (.int 1))) lNil))))
    sPass)
  (sSeq (sSet 7 (eOp oIx (eVar 1) (eOp oIx (eVar 0) (eC (.int 1)))))
  (sSeq (sIf (eOp oEq (eOp oIx (eVar 0) (eC (.int 0))) (eC (.str (Str.ofString "swap"))))
    (sRet (eTup (lCons (eOp oIx (eVar 7) (eC (.int 1))) (lCons (eOp oIx (eVar 7) (eC (.int 0))) lNil))))
    sPass)
  (sSeq (sIf (eOp oEq (eOp oIx (eVar 0) (eC (.int 0))) (eC (.str (Str.ofString "moved"))))
    (sRet (eTup (lCons (eOp oIx (eOp oIx (eVar 2) (eOp oIx (eVar 0) (eC (.int 2)))) (eOp oIx (eVar 7) (eC (.int 0)))) (lCons (eOp oIx (eOp oIx (eVar 2) (eOp oIx (eVar 0) (eC (.int 2)))) (eOp oIx (eVar 7) (eC (.int 1)))) lNil))))
    sPass)
  (sSeq (sSet 8 (eOp oIx (eVar 1) (eOp oIx (eVar 0) (eC (.int 2)))))
  (sSeq (sIf (eOp oNe (eOp oIx (eVar 7) (eC (.int 1))) (eOp oIx (eVar 8) (eC (.int 0))))
    (sRet (eC .non))
    sPass)
  (sRet (eTup (lCons (eOp oIx (eVar 7) (eC (.int 0))) (lCons (eOp oIx (eVar 8) (eC (.int 1))) lNil)))))))))))))))
noncomputable def c__law_line : List D → AH → ER := fsem 9 m__law_line
noncomputable def lb__law_ends_1 : SM := (sSeq (sSet 6 (eCall (argn 5 c__law_line) (lCons (eVar 5) (lCons (eVar 4) (lCons (eVar 1) (lCons (eVar 2) (lCons (eVar 3) lNil)))))))
  (sSeq (sIf (eOp oIs (eVar 6) (eC .non))
    (sRet (eC .non))
    sPass)
  (sExpr (eMeth "list" mAppend (eVar 4) (lCons (eVar 6) lNil)))))
noncomputable def m__law_ends : SM := (sSeq (sIf (eOr (eNot (eUn oTruth (eCall cIsi (lCons (eVar 0) (lCons (eC (.ty "tuple")) lNil))))) (eOp oEq (eCall cLen (lCons (eVar 0) lNil)) (eC (.int 0))))
    (sRet (eC .non))
    sPass)
  (sSeq (sSet 4 (eLst lNil))
  (sSeq (sFor (iVal (eVar 0)) (gVar 5) lb__law_ends_1)
  (sRet (eOp oIx (eVar 4) (eOp oSub (eCall cLen (lCons (eVar 4) lNil)) (eC (.int 1))))))))
noncomputable def c__law_ends : List D → AH → ER := fsem 7 m__law_ends
noncomputable def lc__law_drawn_1 : EM := (eLc (iRange1 (lCons (eVar 6) lNil)) (gVar 11) (eOp oEq (eOp oIx (eOp oIx (eVar 5) (eVar 11)) (eC (.int 0))) (eOp oIx (eOp oIx (eVar 5) (eVar 9)) (eC (.int 1)))) (eVar 11) [11])
noncomputable def lb__law_drawn_1 : SM := (sSeq (sSet 7 (eCall (argn 2 c__law_take) (lCons (eVar 0) (lCons (eC (.int 5)) lNil))))
  (sSeq (sSet 8 (eTup (lCons (eC (.str (Str.ofString "self"))) (lCons (eCall (argn 2 c__law_take) (lCons (eVar 0) (lCons (eVar 2) lNil))) lNil))))
  (sSeq (sIf (eAnd (eOp oEq (eVar 7) (eC (.int 1))) (eOp oGt (eCall cLen (lCons (eVar 3) lNil)) (eC (.int 0))))
    (sSet 8 (eTup (lCons (eC (.str (Str.ofString "told"))) (lCons (eCall (argn 2 c__law_take) (lCons (eVar 0) (lCons (eCall cLen (lCons (eVar 3) lNil)) lNil))) lNil))))
    sPass)
  (sSeq (sIf (eAnd (eOp oEq (eVar 7) (eC (.int 2))) (eOp oGt (eVar 6) (eC (.int 0))))
    (sSet 8 (eTup (lCons (eC (.str (Str.ofString "swap"))) (lCons (eCall (argn 2 c__law_take) (lCons (eVar 0) (lCons (eVar 6) lNil))) lNil))))
    sPass)
  (sSeq (sIf (eAnd (eOp oEq (eVar 7) (eC (.int 3))) (eAnd (eOp oGt (eVar 6) (eC (.int 0))) (eOp oGt (eCall cLen (lCons (eVar 1) lNil)) (eC (.int 0)))))
    (sSet 8 (eTup (lCons (eC (.str (Str.ofString "moved"))) (lCons (eCall (argn 2 c__law_take) (lCons (eVar 0) (lCons (eVar 6) lNil))) (lCons (eCall (argn 2 c__law_take) (lCons (eVar 0) (lCons (eCall cLen (lCons (eVar 1) lNil)) lNil))) lNil)))))
    sPass)
  (sSeq (sIf (eAnd (eOp oEq (eVar 7) (eC (.int 4))) (eOp oGt (eVar 6) (eC (.int 0))))
    (sSeq (sSet 9 (eCall (argn 2 c__law_take) (lCons (eVar 0) (lCons (eVar 6) lNil))))
  (sSeq (sSet 10 lc__law_drawn_1)
  (sIf (eOp oGt (eCall cLen (lCons (eVar 10) lNil)) (eC (.int 0)))
    (sSet 8 (eTup (lCons (eC (.str (Str.ofString "through"))) (lCons (eVar 9) (lCons (eOp oIx (eVar 10) (eCall (argn 2 c__law_take) (lCons (eVar 0) (lCons (eCall cLen (lCons (eVar 10) lNil)) lNil)))) lNil)))))
    sPass)))
    sPass)
  (sSeq (sExpr (eMeth "list" mAppend (eVar 4) (lCons (eVar 8) lNil)))
  (sExpr (eMeth "list" mAppend (eVar 5) (lCons (eCall (argn 5 c__law_line) (lCons (eVar 8) (lCons (eVar 5) (lCons (eVar 1) (lCons (eVar 2) (lCons (eVar 3) lNil)))))) lNil))))))))))
noncomputable def m__law_drawn : SM := (sSeq (sSet 4 (eLst lNil))
  (sSeq (sSet 5 (eLst lNil))
  (sSeq (sFor (iRange1 (lCons (eOp oAdd (eC (.int 1)) (eCall (argn 2 c__law_take) (lCons (eVar 0) (lCons (eC (.int 10)) lNil)))) lNil)) (gVar 6) lb__law_drawn_1)
  (sRet (eCall cTuple (lCons (eVar 4) lNil))))))
noncomputable def c__law_drawn : List D → AH → ER := fsem 12 m__law_drawn
noncomputable def m__law_bent : SM := (sSeq (sSet 3 (eCall (argn 2 c__law_take) (lCons (eVar 0) (lCons (eC (.int 9)) lNil))))
  (sSeq (sSet 4 (eCall (argn 2 c__law_take) (lCons (eVar 0) (lCons (eCall cLen (lCons (eVar 1) lNil)) lNil))))
  (sSeq (sSet 5 (eOp oIx (eVar 1) (eVar 4)))
  (sSeq (sSet 6 (eLst (lCons (eUn oNeg (eC (.int 1))) (lCons (eVar 4) (lCons (eOp oAdd (eVar 4) (eC (.int 1))) (lCons (eCall cLen (lCons (eVar 1) lNil)) (lCons (eC (.int 0)) (lCons (eC (.int 1)) (lCons (eVar 2) (lCons (eC (.bl true)) (lCons (eC (.bl false)) (lCons (eC .non) (lCons (eC (.str (Str.ofString "self"))) (lCons (eC (.str (Str.ofString "told"))) (lCons (eC (.str (Str.ofString "swap"))) (lCons (eC (.str (Str.ofString "moved"))) lNil))))))))))))))))
  (sSeq (sSet 6 (eOp oAdd (eVar 6) (eLst (lCons (eC (.str (Str.ofString "through"))) (lCons (eC (.str (Str.ofString ""))) (lCons (eTup (lCons (eC (.int 0)) lNil)) (lCons (eC (.str (Str.ofString "Self"))) lNil)))))))
  (sSeq (sSet 7 (eOp oIx (eVar 6) (eCall (argn 2 c__law_take) (lCons (eVar 0) (lCons (eC (.int 18)) lNil)))))
  (sSeq (sIf (eOp oEq (eVar 3) (eC (.int 8)))
    (sSet 7 (eCall (argn 2 c__law_take) (lCons (eVar 0) (lCons (eOp oAdd (eVar 4) (eC (.int 1))) lNil))))
    sPass)
  (sSeq (sIf (eOp oEq (eVar 3) (eC (.int 0)))
    (sRet (eOp oAdd (eSl (eVar 1) none (some (eVar 4))) (eSl (eVar 1) (some (eOp oAdd (eVar 4) (eC (.int 1)))) none)))
    sPass)
  (sSeq (sIf (eOp oEq (eVar 3) (eC (.int 1)))
    (sRet (eOp oAdd (eOp oAdd (eSl (eVar 1) none (some (eVar 4))) (eTup (lCons (eVar 7) lNil))) (eSl (eVar 1) (some (eVar 4)) none)))
    sPass)
  (sSeq (sIf (eOp oEq (eVar 3) (eC (.int 2)))
    (sRet (eOp oAdd (eOp oAdd (eSl (eVar 1) none (some (eVar 4))) (eTup (lCons (eOp oAdd (eVar 5) (eTup (lCons (eVar 7) lNil))) lNil))) (eSl (eVar 1) (some (eOp oAdd (eVar 4) (eC (.int 1)))) none)))
    sPass)
  (sSeq (sIf (eOp oEq (eVar 3) (eC (.int 3)))
    (sRet (eOp oAdd (eOp oAdd (eSl (eVar 1) none (some (eVar 4))) (eTup (lCons (eSl (eVar 5) none (some (eOp oSub (eCall cLen (lCons (eVar 5) lNil)) (eC (.int 1))))) lNil))) (eSl (eVar 1) (some (eOp oAdd (eVar 4) (eC (.int 1)))) none)))
    sPass)
  (sSeq (sIf (eOp oEq (eVar 3) (eC (.int 4)))
    (sRet (eOp oIx (eLst (lCons (eC .non) (lCons (eTup lNil) (lCons (eC (.str (Str.ofString "self"))) (lCons (eC (.int 0)) (lCons (eC (.bl true)) (lCons (eTup (lCons (eC (.str (Str.ofString "self"))) (lCons (eC (.int 0)) lNil))) lNil))))))) (eCall (argn 2 c__law_take) (lCons (eVar 0) (lCons (eC (.int 6)) lNil)))))
    sPass)
  (sSeq (sIf (eOp oEq (eVar 3) (eC (.int 5)))
    (sSeq (sSet 8 (eOp oIx (eLst (lCons (eVar 5) (lCons (eTup (lCons (eC (.str (Str.ofString "self"))) (lCons (eCall (argn 2 c__law_take) (lCons (eVar 0) (lCons (eVar 2) lNil))) lNil))) lNil))) (eCall (argn 2 c__law_take) (lCons (eVar 0) (lCons (eC (.int 2)) lNil)))))
  (sRet (eOp oAdd (eOp oAdd (eSl (eVar 1) none (some (eVar 4))) (eTup (lCons (eVar 8) lNil))) (eSl (eVar 1) (some (eVar 4)) none))))
    sPass)
  (sSeq (sSet 9 (eCall (argn 2 c__law_take) (lCons (eVar 0) (lCons (eCall cLen (lCons (eVar 5) lNil)) lNil))))
  (sRet (eOp oAdd (eOp oAdd (eSl (eVar 1) none (some (eVar 4))) (eTup (lCons (eOp oAdd (eOp oAdd (eSl (eVar 5) none (some (eVar 9))) (eTup (lCons (eVar 7) lNil))) (eSl (eVar 5) (some (eOp oAdd (eVar 9) (eC (.int 1)))) none)) lNil))) (eSl (eVar 1) (some (eOp oAdd (eVar 4) (eC (.int 1)))) none)))))))))))))))))
noncomputable def c__law_bent : List D → AH → ER := fsem 10 m__law_bent
noncomputable def lb__law_joined_as_1 : SM := (sSeq (sSet 7 (eCall (argn 6 c_shows_joined) (lCons (eVar 1) (lCons (eVar 2) (lCons (eVar 3) (lCons (eOp oIx (eVar 6) (eC (.int 0))) (lCons (eOp oIx (eVar 6) (eC (.int 1))) (lCons (eVar 0) lNil))))))))
  (sIf (eNot (eUn oTruth (eCall (argn 2 c__law_is_truth) (lCons (eVar 7) (lCons (eOp oEq (eVar 5) (eVar 6)) lNil)))))
    (sRet (eC (.bl false)))
    sPass))
noncomputable def m__law_joined_as : SM := (sSeq (sSet 5 (eCall (argn 4 c__law_ends) (lCons (eVar 0) (lCons (eVar 1) (lCons (eVar 2) (lCons (eVar 3) lNil))))))
  (sSeq (sFor (iVal (eVar 4)) (gVar 6) lb__law_joined_as_1)
  (sRet (eOr (eOp oIs (eVar 5) (eC .non)) (eCall (argn 2 c__law_is_truth) (lCons (eCall (argn 6 c_shows_joined) (lCons (eVar 1) (lCons (eVar 2) (lCons (eVar 3) (lCons (eOp oIx (eVar 5) (eC (.int 0))) (lCons (eOp oIx (eVar 5) (eC (.int 1))) (lCons (eVar 0) lNil))))))) (lCons (eC (.bl true)) lNil)))))))
noncomputable def c__law_joined_as : List D → AH → ER := fsem 8 m__law_joined_as
noncomputable def lb__law_bends_hold_1 : SM := (sSeq (sSet 8 (eCall (argn 3 c__law_bent) (lCons (eVar 0) (lCons (eVar 4) (lCons (eVar 2) lNil)))))
  (sIf (eNot (eUn oTruth (eCall (argn 5 c__law_joined_as) (lCons (eVar 8) (lCons (eVar 1) (lCons (eVar 2) (lCons (eVar 3) (lCons (eVar 6) lNil))))))))
    (sRet (eC (.bl false)))
    sPass))
noncomputable def m__law_bends_hold : SM := (sSeq (sSet 5 (eCall (argn 4 c__law_ends) (lCons (eVar 4) (lCons (eVar 1) (lCons (eVar 2) (lCons (eVar 3) lNil))))))
  (sSeq (sIf (eOp oIs (eVar 5) (eC .non))
    (sRet (eC (.bl false)))
    sPass)
  (sSeq (sSet 6 (eLst (lCons (eVar 5) (lCons (eTup (lCons (eOp oIx (eVar 5) (eC (.int 1))) (lCons (eOp oIx (eVar 5) (eC (.int 0))) lNil))) (lCons (eTup (lCons (eCall (argn 2 c__law_take) (lCons (eVar 0) (lCons (eVar 2) lNil))) (lCons (eCall (argn 2 c__law_take) (lCons (eVar 0) (lCons (eVar 2) lNil))) lNil))) lNil)))))
  (sSeq (sIf (eNot (eUn oTruth (eCall (argn 5 c__law_joined_as) (lCons (eVar 4) (lCons (eVar 1) (lCons (eVar 2) (lCons (eVar 3) (lCons (eVar 6) lNil))))))))
    (sRet (eC (.bl false)))
    sPass)
  (sSeq (sFor (iRange1 (lCons (eC (.int 4)) lNil)) (gVar 7) lb__law_bends_hold_1)
  (sRet (eC (.bl true))))))))
noncomputable def c__law_bends_hold : List D → AH → ER := fsem 9 m__law_bends_hold
noncomputable def lb__law_lone_hold_1 : SM := (sIf (eNot (eUn oTruth (eCall (argn 5 c__law_joined_as) (lCons (eVar 8) (lCons (eVar 1) (lCons (eVar 2) (lCons (eVar 3) (lCons (eLst (lCons (eTup (lCons (eVar 4) (lCons (eVar 5) lNil))) (lCons (eTup (lCons (eVar 4) (lCons (eVar 4) lNil))) (lCons (eTup (lCons (eVar 5) (lCons (eVar 5) lNil))) lNil)))) lNil))))))))
    (sRet (eC (.bl false)))
    sPass)
noncomputable def m__law_lone_hold : SM := (sSeq (sSet 4 (eCall (argn 2 c__law_take) (lCons (eVar 0) (lCons (eVar 2) lNil))))
  (sSeq (sSet 5 (eOp oMod (eCall cInt (lCons (eOp oAdd (eOp oAdd (eVar 4) (eC (.int 1))) (eCall (argn 2 c__law_take) (lCons (eVar 0) (lCons (eCall cMax2 (lCons (eC (.int 1)) (lCons (eOp oSub (eVar 2) (eC (.int 1))) lNil))) lNil)))) lNil)) (eVar 2)))
  (sSeq (sSet 6 (eTup (lCons (eC (.str (Str.ofString "self"))) (lCons (eVar 4) lNil))))
  (sSeq (sSet 7 (eLst (lCons (eTup (lCons (eVar 6) lNil)) (lCons (eVar 6) (lCons (eTup (lCons (eTup (lCons (eC (.str (Str.ofString "self"))) (lCons (eVar 2) lNil))) lNil)) (lCons (eTup (lCons (eTup (lCons (eC (.str (Str.ofString "self"))) (lCons (eUn oNeg (eC (.int 1))) lNil))) lNil)) (lCons (eTup (lCons (eTup (lCons (eC (.str (Str.ofString "self"))) (lCons (eVar 4) (lCons (eVar 5) lNil)))) lNil)) (lCons (eTup (lCons (eTup (lCons (eC (.str (Str.ofString "swap"))) (lCons (eC (.int 0)) lNil))) lNil)) lNil))))))))
  (sSeq (sSet 7 (eOp oAdd (eVar 7) (eLst (lCons (eTup (lCons (eVar 6) (lCons (eTup (lCons (eC (.str (Str.ofString "swap"))) (lCons (eC (.int 1)) lNil))) lNil))) (lCons (eTup (lCons (eVar 6) (lCons (eTup (lCons (eC (.str (Str.ofString "swap"))) (lCons (eUn oNeg (eC (.int 1))) lNil))) lNil))) (lCons (eTup (lCons (eTup (lCons (eC (.str (Str.ofString "swap"))) (lCons (eC (.int 1)) lNil))) (lCons (eVar 6) lNil))) lNil))))))
  (sSeq (sSet 7 (eOp oAdd (eVar 7) (eLst (lCons (eTup (lCons (eTup (lCons (eC (.str (Str.ofString "told"))) (lCons (eCall cLen (lCons (eVar 3) lNil)) lNil))) lNil)) lNil))))
  (sSeq (sSet 7 (eOp oAdd (eVar 7) (eLst (lCons (eTup (lCons (eTup (lCons (eC (.str (Str.ofString "told"))) (lCons (eUn oNeg (eC (.int 1))) lNil))) lNil)) (lCons (eTup (lCons (eVar 6) (lCons (eTup (lCons (eC (.str (Str.ofString "moved"))) (lCons (eC (.int 0)) (lCons (eCall cLen (lCons (eVar 1) lNil)) lNil)))) lNil))) lNil)))))
  (sSeq (sSet 7 (eOp oAdd (eVar 7) (eLst (lCons (eTup (lCons (eVar 6) (lCons (eTup (lCons (eC (.str (Str.ofString "moved"))) (lCons (eC (.int 0)) (lCons (eUn oNeg (eC (.int 1))) lNil)))) lNil))) lNil))))
  (sSeq (sSet 7 (eOp oAdd (eVar 7) (eLst (lCons (eTup (lCons (eVar 6) (lCons (eTup (lCons (eC (.str (Str.ofString "self"))) (lCons (eVar 5) lNil))) (lCons (eTup (lCons (eC (.str (Str.ofString "through"))) (lCons (eC (.int 0)) (lCons (eC (.int 1)) lNil)))) lNil)))) (lCons (eTup (lCons (eVar 6) (lCons (eTup (lCons (eC (.str (Str.ofString "through"))) (lCons (eC (.int 0)) (lCons (eC (.int 1)) lNil)))) lNil))) (lCons (eTup (lCons (eTup (lCons (eC (.str (Str.ofString "told"))) (lCons (eVar 4) (lCons (eVar 5) lNil)))) lNil)) lNil))))))
  (sSeq (sSet 7 (eOp oAdd (eVar 7) (eLst (lCons (eTup (lCons (eVar 6) (lCons (eTup (lCons (eC (.str (Str.ofString "swap"))) (lCons (eC (.int 0)) lNil))) (lCons (eTup (lCons (eC (.str (Str.ofString "through"))) (lCons (eC (.int 1)) (lCons (eC (.int 0)) lNil)))) lNil)))) (lCons (eTup (lCons (eTup (lCons (eC (.str (Str.ofString "through"))) (lCons (eUn oNeg (eC (.int 1))) (lCons (eUn oNeg (eC (.int 1))) lNil)))) lNil)) (lCons (eTup (lCons (eVar 6) (lCons (eTup (lCons (eC (.str (Str.ofString "Self"))) (lCons (eVar 4) lNil))) lNil))) lNil))))))
  (sSeq (sSet 7 (eOp oAdd (eVar 7) (eLst (lCons (eTup (lCons (eVar 6) (lCons (eTup (lCons (eC (.str (Str.ofString "self"))) (lCons (eVar 5) lNil))) (lCons (eTup (lCons (eC (.str (Str.ofString "swap"))) (lCons (eC (.bl false)) lNil))) lNil)))) (lCons (eTup (lCons (eVar 6) (lCons (eTup (lCons (eC (.str (Str.ofString "swap"))) (lCons (eC (.int 0)) lNil))) (lCons (eTup (lCons (eC (.str (Str.ofString "swap"))) (lCons (eC (.bl true)) lNil))) lNil)))) lNil)))))
  (sSeq (sFor (iVal (eVar 7)) (gVar 8) lb__law_lone_hold_1)
  (sRet (eC (.bl true)))))))))))))))
noncomputable def c__law_lone_hold : List D → AH → ER := fsem 9 m__law_lone_hold
noncomputable def m__law_two_hold : SM := (sSeq (sSet 6 (eCall (argn 5 c_join_reason) (lCons (eVar 0) (lCons (eVar 1) (lCons (eVar 2) (lCons (eVar 3) (lCons (eVar 4) lNil)))))))
  (sSeq (sSet 7 (eCall (argn 6 c_shows_parted) (lCons (eVar 0) (lCons (eVar 1) (lCons (eVar 2) (lCons (eVar 3) (lCons (eVar 4) (lCons (eVar 5) lNil))))))))
  (sSeq (sSet 8 (eCall (argn 6 c_shows_joined) (lCons (eVar 0) (lCons (eVar 1) (lCons (eVar 2) (lCons (eVar 3) (lCons (eVar 4) (lCons (eVar 6) lNil))))))))
  (sSeq (sIf (eOp oNe (eOp oIx (eVar 5) (eVar 3)) (eOp oIx (eVar 5) (eVar 4)))
    (sRet (eAnd (eOp oIs (eVar 6) (eC .non)) (eAnd (eCall (argn 2 c__law_is_truth) (lCons (eVar 8) (lCons (eC (.bl false)) lNil))) (eCall (argn 2 c__law_is_truth) (lCons (eVar 7) (lCons (eC (.bl true)) lNil))))))
    sPass)
  (sSeq (sIf (eOp oNe (eCall (argn 4 c__law_ends) (lCons (eVar 6) (lCons (eVar 0) (lCons (eVar 1) (lCons (eVar 2) lNil))))) (eTup (lCons (eVar 3) (lCons (eVar 4) lNil))))
    (sRet (eC (.bl false)))
    sPass)
  (sRet (eAnd (eCall (argn 2 c__law_is_truth) (lCons (eVar 8) (lCons (eC (.bl true)) lNil))) (eCall (argn 2 c__law_is_truth) (lCons (eVar 7) (lCons (eC (.bl false)) lNil))))))))))
noncomputable def c__law_two_hold : List D → AH → ER := fsem 9 m__law_two_hold
noncomputable def m__law_parts : SM := (sSeq (sIf (eOr (eNot (eUn oTruth (eCall (argn 2 c__law_is_labels) (lCons (eVar 0) (lCons (eVar 2) lNil))))) (eNot (eUn oTruth (eCall (argn 3 c__law_holds) (lCons (eVar 0) (lCons (eVar 1) (lCons (eVar 3) lNil)))))))
    (sRet (eC (.bl false)))
    sPass)
  (sRet (eOp oNe (eOp oIx (eVar 0) (eVar 4)) (eOp oIx (eVar 0) (eVar 5)))))
noncomputable def c__law_parts : List D → AH → ER := fsem 6 m__law_parts
noncomputable def lc__law_parts_hold_1 : EM := (eLc (iRange1 (lCons (eVar 2) lNil)) (gVar 8) (eOp oNe (eOp oIx (eVar 4) (eVar 8)) (eOp oIx (eVar 4) (eVar 6))) (eVar 8) [8])
noncomputable def lc__law_parts_hold_2 : EM := (eLc (iRange1 (lCons (eVar 2) lNil)) (gVar 8) (eOp oEq (eOp oIx (eVar 4) (eVar 8)) (eOp oIx (eVar 4) (eVar 12))) (eVar 8) [8])
noncomputable def lb__law_parts_hold_1 : SM := (sAsg (eCall cMaxL (lCons lc__law_parts_hold_2 lNil)) (fun d e h => onlyNx ((gSub putL (eVar 11) (eVar 12)) d e h)))
noncomputable def lb__law_parts_hold_2 : SM := (sSeq (sSet 14 (eTup (lCons (eCall (argn 2 c__law_take) (lCons (eVar 0) (lCons (eVar 2) lNil))) (lCons (eCall (argn 2 c__law_take) (lCons (eVar 0) (lCons (eVar 2) lNil))) lNil))))
  (sSeq (sExpr (eMeth "list" mAppend (eVar 10) (lCons (eCall (argn 3 c__law_closure) (lCons (eVar 1) (lCons (eVar 2) (lCons (eOp oAdd (eVar 3) (eTup (lCons (eVar 14) lNil))) lNil)))) lNil)))
  (sExpr (eMeth "list" mAppend (eVar 10) (lCons (eCall (argn 3 c__law_closure) (lCons (eVar 1) (lCons (eVar 2) (lCons (eTup (lCons (eVar 14) lNil)) lNil)))) lNil)))))
noncomputable def lb__law_parts_hold_3 : SM := (sSeq (sSet 15 (eCall (argn 2 c__law_take) (lCons (eVar 0) (lCons (eVar 2) lNil))))
  (sSeq (sSet 16 (eLst (lCons (eUn oNeg (eC (.int 1))) (lCons (eVar 15) (lCons (eC (.int 0)) (lCons (eOp oIx (eVar 4) (eCall (argn 2 c__law_take) (lCons (eVar 0) (lCons (eVar 2) lNil)))) (lCons (eVar 2) (lCons (eC (.bl true)) (lCons (eC (.bl false)) (lCons (eC .non) (lCons (eC (.str (Str.ofString "0"))) (lCons (eTup (lCons (eC (.int 0)) lNil)) lNil))))))))))))
  (sExpr (eMeth "list" mAppend (eVar 10) (lCons (eOp oAdd (eOp oAdd (eSl (eVar 4) none (some (eVar 15))) (eTup (lCons (eOp oIx (eVar 16) (eCall (argn 2 c__law_take) (lCons (eVar 0) (lCons (eC (.int 10)) lNil)))) lNil))) (eSl (eVar 4) (some (eOp oAdd (eVar 15) (eC (.int 1)))) none)) lNil)))))
noncomputable def lb__law_parts_hold_5 : SM := (sSeq (sSet 18 (eCall (argn 6 c_shows_parted) (lCons (eVar 1) (lCons (eVar 2) (lCons (eVar 3) (lCons (eOp oIx (eVar 14) (eC (.int 0))) (lCons (eOp oIx (eVar 14) (eC (.int 1))) (lCons (eVar 17) lNil))))))))
  (sIf (eNot (eUn oTruth (eCall (argn 2 c__law_is_truth) (lCons (eVar 18) (lCons (eCall (argn 6 c__law_parts) (lCons (eVar 17) (lCons (eVar 1) (lCons (eVar 2) (lCons (eVar 3) (lCons (eOp oIx (eVar 14) (eC (.int 0))) (lCons (eOp oIx (eVar 14) (eC (.int 1))) lNil))))))) lNil)))))
    (sRet (eC (.bl false)))
    sPass))
noncomputable def lb__law_parts_hold_4 : SM := (sFor (iVal (eLst (lCons (eTup (lCons (eVar 6) (lCons (eVar 9) lNil))) (lCons (eTup (lCons (eVar 9) (lCons (eVar 6) lNil))) (lCons (eTup (lCons (eVar 6) (lCons (eVar 6) lNil))) lNil))))) (gVar 14) lb__law_parts_hold_5)
noncomputable def m__law_parts_hold : SM := (sSeq (sSet 6 (eCall (argn 2 c__law_take) (lCons (eVar 0) (lCons (eVar 2) lNil))))
  (sSeq (sSet 7 lc__law_parts_hold_1)
  (sSeq (sSet 9 (eCall (argn 2 c__law_take) (lCons (eVar 0) (lCons (eVar 2) lNil))))
  (sSeq (sIf (eOp oGt (eCall cLen (lCons (eVar 7) lNil)) (eC (.int 0)))
    (sSet 9 (eOp oIx (eVar 7) (eCall (argn 2 c__law_take) (lCons (eVar 0) (lCons (eCall cLen (lCons (eVar 7) lNil)) lNil)))))
    sPass)
  (sSeq (sSet 10 (eLst (lCons (eVar 4) (lCons (eVar 5) (lCons (eRg1 true (eVar 2)) (lCons (eOp oMulT (eTup (lCons (eC (.int 0)) lNil)) (eVar 2)) (lCons (eOp oAdd (eVar 4) (eTup (lCons (eC (.int 0)) lNil))) (lCons (eSl (eVar 4) none (some (eOp oSub (eVar 2) (eC (.int 1))))) lNil))))))))
  (sSeq (sSet 10 (eOp oAdd (eVar 10) (eLst (lCons (eC .non) (lCons (eTup lNil) (lCons (eC (.str (Str.ofString ""))) (lCons (eC (.int 0)) (lCons (eTup (lCons (eVar 4) lNil)) (lCons (eCall (argn 3 c__law_closure) (lCons (eTup lNil) (lCons (eVar 2) (lCons (eVar 3) lNil)))) lNil)))))))))
  (sSeq (sSet 11 (eOp oMul (eLst (lCons (eC (.int 0)) lNil)) (eVar 2)))
  (sSeq (sFor (iRange1 (lCons (eVar 2) lNil)) (gVar 12) lb__law_parts_hold_1)
  (sSeq (sExpr (eMeth "list" mAppend (eVar 10) (lCons (eCall cTuple (lCons (eVar 11) lNil)) lNil)))
  (sSeq (sFor (iRange1 (lCons (eC (.int 2)) lNil)) (gVar 13) lb__law_parts_hold_2)
  (sSeq (sFor (iRange1 (lCons (eC (.int 3)) lNil)) (gVar 13) lb__law_parts_hold_3)
  (sSeq (sFor (iVal (eVar 10)) (gVar 17) lb__law_parts_hold_4)
  (sRet (eC (.bl true)))))))))))))))
noncomputable def c__law_parts_hold : List D → AH → ER := fsem 19 m__law_parts_hold
noncomputable def lb__law_asked_1 : SM := (sExpr (eMeth "list" mAppend (eVar 2) (lCons (eTup (lCons (eCall (argn 2 c__law_take) (lCons (eVar 0) (lCons (eVar 1) lNil))) (lCons (eCall (argn 2 c__law_take) (lCons (eVar 0) (lCons (eVar 1) lNil))) lNil))) lNil)))
noncomputable def lb__law_asked_3 : SM := (sExpr (eMeth "list" mAppend (eVar 2) (lCons (eTup (lCons (eVar 4) (lCons (eVar 5) lNil))) lNil)))
noncomputable def lb__law_asked_2 : SM := (sFor (iRange1 (lCons (eVar 1) lNil)) (gVar 5) lb__law_asked_3)
noncomputable def m__law_asked : SM := (sSeq (sSet 2 (eLst lNil))
  (sSeq (sIf (eOp oGt (eVar 1) (eC (.int 5)))
    (sSeq (sFor (iRange1 (lCons (eC (.int 10)) lNil)) (gVar 3) lb__law_asked_1)
  (sRet (eVar 2)))
    sPass)
  (sSeq (sFor (iRange1 (lCons (eVar 1) lNil)) (gVar 4) lb__law_asked_2)
  (sRet (eVar 2)))))
noncomputable def c__law_asked : List D → AH → ER := fsem 6 m__law_asked
noncomputable def lc_law_1 : EM := (eLc (iRange1 (lCons (eVar 3) lNil)) (gVar 8) (eC (.bl true)) (eCall (argn 3 c__law_moving) (lCons (eCall (argn 2 c__law_bag) (lCons (eVar 0) (lCons (eOp oAdd (eC (.int 2)) (eVar 8)) lNil))) (lCons (eVar 6) (lCons (eVar 5) lNil)))) [8])
noncomputable def lc_law_2 : EM := (eLc (iRange1 (lCons (eVar 4) lNil)) (gVar 8) (eC (.bl true)) (eCall (argn 3 c__law_pair) (lCons (eCall (argn 2 c__law_bag) (lCons (eVar 0) (lCons (eOp oAdd (eC (.int 10)) (eVar 8)) lNil))) (lCons (eVar 6) (lCons (eVar 5) lNil)))) [8])
noncomputable def lb_law_1 : SM := (sIf (eNot (eUn oTruth (eCall (argn 6 c__law_two_hold) (lCons (eVar 7) (lCons (eVar 2) (lCons (eVar 9) (lCons (eOp oIx (eVar 12) (eC (.int 0))) (lCons (eOp oIx (eVar 12) (eC (.int 1))) (lCons (eVar 10) lNil)))))))))
    (sRet (eC (.bl false)))
    sPass)
noncomputable def lc_law_3 : EM := (eLc (iRange1 (lCons (eVar 2) lNil)) (gVar 15) (eOp oEq (eOp oIx (eVar 10) (eVar 15)) (eOp oIx (eVar 10) (eVar 13))) (eVar 15) [15])
noncomputable def m_law : SM := (sSeq (sSet 1 (eCall (argn 2 c__law_bag) (lCons (eVar 0) (lCons (eC (.int 0)) lNil))))
  (sSeq (sSet 2 (eOp oIx (eLst (lCons (eC (.int 2)) (lCons (eC (.int 3)) (lCons (eC (.int 4)) (lCons (eC (.int 5)) (lCons (eC (.int 3)) (lCons (eC (.int 4)) (lCons (eC (.int 5)) (lCons (eC (.int 1)) lNil))))))))) (eCall (argn 2 c__law_take) (lCons (eVar 1) (lCons (eC (.int 8)) lNil)))))
  (sSeq (sIf (eOp oEq (eCall (argn 2 c__law_take) (lCons (eVar 1) (lCons (eC (.int 8)) lNil))) (eC (.int 3)))
    (sSet 2 (eOp oAdd (eC (.int 6)) (eCall (argn 2 c__law_take) (lCons (eVar 1) (lCons (eC (.int 19)) lNil)))))
    sPass)
  (sSeq (sSet 3 (eCall (argn 2 c__law_take) (lCons (eVar 1) (lCons (eC (.int 4)) lNil))))
  (sSeq (sIf (eOp oEq (eCall (argn 2 c__law_take) (lCons (eVar 1) (lCons (eC (.int 8)) lNil))) (eC (.int 5)))
    (sSet 3 (eOp oAdd (eC (.int 4)) (eCall (argn 2 c__law_take) (lCons (eVar 1) (lCons (eC (.int 5)) lNil)))))
    sPass)
  (sSeq (sSet 4 (eCall (argn 2 c__law_take) (lCons (eVar 1) (lCons (eC (.int 5)) lNil))))
  (sSeq (sIf (eOp oEq (eCall (argn 2 c__law_take) (lCons (eVar 1) (lCons (eC (.int 8)) lNil))) (eC (.int 1)))
    (sSet 4 (eOp oAdd (eC (.int 5)) (eCall (argn 2 c__law_take) (lCons (eVar 1) (lCons (eC (.int 4)) lNil)))))
    sPass)
  (sSeq (sSet 5 (eOp oEq (eCall (argn 2 c__law_take) (lCons (eVar 1) (lCons (eC (.int 2)) lNil))) (eC (.int 1))))
  (sSeq (sSet 6 (eCall (argn 2 c__law_partition) (lCons (eCall (argn 2 c__law_bag) (lCons (eVar 0) (lCons (eC (.int 1)) lNil))) (lCons (eVar 2) lNil))))
  (sSeq (sSet 7 (eCall cTuple (lCons lc_law_1 lNil)))
  (sSeq (sSet 9 (eCall cTuple (lCons lc_law_2 lNil)))
  (sSeq (sSet 10 (eCall (argn 3 c__law_closure) (lCons (eVar 7) (lCons (eVar 2) (lCons (eVar 9) lNil)))))
  (sSeq (sIf (eNot (eUn oTruth (eCall (argn 2 c__law_is_row) (lCons (eCall (argn 3 c_least_blocks) (lCons (eVar 7) (lCons (eVar 2) (lCons (eVar 9) lNil)))) (lCons (eVar 10) lNil)))))
    (sRet (eC (.bl false)))
    sPass)
  (sSeq (sIf (eNot (eUn oTruth (eCall (argn 4 c__law_lone_hold) (lCons (eCall (argn 2 c__law_bag) (lCons (eVar 0) (lCons (eC (.int 26)) lNil))) (lCons (eVar 7) (lCons (eVar 2) (lCons (eVar 9) lNil)))))))
    (sRet (eC (.bl false)))
    sPass)
  (sSeq (sSet 11 (eCall (argn 4 c__law_drawn) (lCons (eCall (argn 2 c__law_bag) (lCons (eVar 0) (lCons (eC (.int 20)) lNil))) (lCons (eVar 7) (lCons (eVar 2) (lCons (eVar 9) lNil))))))
  (sSeq (sIf (eNot (eUn oTruth (eCall (argn 5 c__law_bends_hold) (lCons (eCall (argn 2 c__law_bag) (lCons (eVar 0) (lCons (eC (.int 21)) lNil))) (lCons (eVar 7) (lCons (eVar 2) (lCons (eVar 9) (lCons (eVar 11) lNil))))))))
    (sRet (eC (.bl false)))
    sPass)
  (sSeq (sFor (iVal (eCall (argn 2 c__law_asked) (lCons (eCall (argn 2 c__law_bag) (lCons (eVar 0) (lCons (eC (.int 24)) lNil))) (lCons (eVar 2) lNil)))) (gVar 12) lb_law_1)
  (sSeq (sSet 13 (eCall (argn 2 c__law_take) (lCons (eVar 1) (lCons (eVar 2) lNil))))
  (sSeq (sSet 14 lc_law_3)
  (sSeq (sSet 16 (eCall (argn 5 c_join_reason) (lCons (eVar 7) (lCons (eVar 2) (lCons (eVar 9) (lCons (eVar 13) (lCons (eOp oIx (eVar 14) (eCall (argn 2 c__law_take) (lCons (eVar 1) (lCons (eCall cLen (lCons (eVar 14) lNil)) lNil)))) lNil)))))))
  (sSeq (sIf (eNot (eUn oTruth (eCall (argn 5 c__law_bends_hold) (lCons (eCall (argn 2 c__law_bag) (lCons (eVar 0) (lCons (eC (.int 22)) lNil))) (lCons (eVar 7) (lCons (eVar 2) (lCons (eVar 9) (lCons (eVar 16) lNil))))))))
    (sRet (eC (.bl false)))
    sPass)
  (sSeq (sSet 17 (eCall (argn 2 c__law_partition) (lCons (eCall (argn 2 c__law_bag) (lCons (eVar 0) (lCons (eC (.int 25)) lNil))) (lCons (eVar 2) lNil))))
  (sRet (eCall (argn 6 c__law_parts_hold) (lCons (eCall (argn 2 c__law_bag) (lCons (eVar 0) (lCons (eC (.int 23)) lNil))) (lCons (eVar 7) (lCons (eVar 2) (lCons (eVar 9) (lCons (eVar 10) (lCons (eVar 17) lNil))))))))))))))))))))))))))))))
noncomputable def c_law : List D → AH → ER := fsem 18 m_law
end Law

set_option maxHeartbeats 4000000
/-! printed by mk.py: the walk of each def -/
namespace Law
open PySem PySem.Spec PyProof.Rows L2 Rf
def topS (i : Nat) : Stmt := PySem.Challenge.pw_tumbler_k12_whole_one_certificate_each.main.body.getD i (.Pass ⟨0, 0, 0, 0⟩)
abbrev s_is_whole : Stmt := topS 1
abbrev N_is_whole : List Str := ["value"]
theorem sc_is_whole : FnScope N_is_whole ["value"] (defScope s_is_whole) := ⟨rfl, rfl, rfl, by decide +kernel, rfl, by decide +kernel, by decide +kernel⟩
abbrev s_is_index : Stmt := topS 2
abbrev N_is_index : List Str := ["value", "limit"]
theorem sc_is_index : FnScope N_is_index ["value", "limit"] (defScope s_is_index) := ⟨rfl, rfl, rfl, by decide +kernel, rfl, by decide +kernel, by decide +kernel⟩
abbrev s_is_row : Stmt := topS 3
abbrev N_is_row : List Str := ["value", "length"]
theorem sc_is_row : FnScope N_is_row ["value", "length"] (defScope s_is_row) := ⟨rfl, rfl, rfl, by decide +kernel, rfl, by decide +kernel, by decide +kernel⟩
abbrev s_alone : Stmt := topS 5
abbrev N_alone : List Str := ["points"]
theorem sc_alone : FnScope N_alone ["points"] (defScope s_alone) := ⟨rfl, rfl, rfl, by decide +kernel, rfl, by decide +kernel, by decide +kernel⟩
abbrev s_merged : Stmt := topS 6
abbrev N_merged : List Str := ["labels", "i", "j", "low", "high", "label"]
theorem sc_merged : FnScope N_merged ["labels", "i", "j"] (defScope s_merged) := ⟨rfl, rfl, rfl, by decide +kernel, rfl, by decide +kernel, by decide +kernel⟩
abbrev s_is_labels : Stmt := topS 7
abbrev N_is_labels : List Str := ["value", "points", "point", "label"]
theorem sc_is_labels : FnScope N_is_labels ["value", "points"] (defScope s_is_labels) := ⟨rfl, rfl, rfl, by decide +kernel, rfl, by decide +kernel, by decide +kernel⟩
abbrev s_broken : Stmt := topS 8
abbrev N_broken : List Str := ["labels", "perms", "points", "k", "perm", "images", "i", "j", "point"]
theorem sc_broken : FnScope N_broken ["labels", "perms"] (defScope s_broken) := ⟨rfl, rfl, rfl, by decide +kernel, rfl, by decide +kernel, by decide +kernel⟩
abbrev s_least_blocks : Stmt := topS 10
abbrev N_least_blocks : List Str := ["perms", "points", "pairs", "labels", "line", "at", "a", "b", "perm"]
theorem sc_least_blocks : FnScope N_least_blocks ["perms", "points", "pairs"] (defScope s_least_blocks) := ⟨rfl, rfl, rfl, by decide +kernel, rfl, by decide +kernel, by decide +kernel⟩
abbrev s__followed : Stmt := topS 13
abbrev N__followed : List Str := ["lines", "path", "i", "told", "index", "backwards", "last"]
theorem sc__followed : FnScope N__followed ["lines", "path", "i"] (defScope s__followed) := ⟨rfl, rfl, rfl, by decide +kernel, rfl, by decide +kernel, by decide +kernel⟩
abbrev s__tree_path : Stmt := topS 12
abbrev N__tree_path : List Str := ["links", "points", "i", "j", "came", "line", "at", "here", "index", "a", "b", "path", "backwards"]
theorem sc__tree_path : FnScope N__tree_path ["links", "points", "i", "j"] (defScope s__tree_path) := ⟨rfl, rfl, rfl, by decide +kernel, rfl, by decide +kernel, by decide +kernel⟩
abbrev s_join_reason : Stmt := topS 11
abbrev N_join_reason : List Str := ["perms", "points", "pairs", "i", "j", "lines", "links", "labels", "waiting", "q", "a", "b", "at", "reason", "k", "perm"]
theorem sc_join_reason : FnScope N_join_reason ["perms", "points", "pairs", "i", "j"] (defScope s_join_reason) := ⟨rfl, rfl, rfl, by decide +kernel, rfl, by decide +kernel, by decide +kernel⟩
abbrev s__pair_of : Stmt := topS 14
abbrev N__pair_of : List Str := ["line", "earlier", "perms", "points", "pairs", "word", "index", "a", "b", "other"]
theorem sc__pair_of : FnScope N__pair_of ["line", "earlier", "perms", "points", "pairs"] (defScope s__pair_of) := ⟨rfl, rfl, rfl, by decide +kernel, rfl, by decide +kernel, by decide +kernel⟩
abbrev s_shows_joined : Stmt := topS 15
abbrev N_shows_joined : List Str := ["perms", "points", "pairs", "i", "j", "reason", "earlier", "line", "pair"]
theorem sc_shows_joined : FnScope N_shows_joined ["perms", "points", "pairs", "i", "j", "reason"] (defScope s_shows_joined) := ⟨rfl, rfl, rfl, by decide +kernel, rfl, by decide +kernel, by decide +kernel⟩
abbrev s_shows_parted : Stmt := topS 16
abbrev N_shows_parted : List Str := ["perms", "points", "pairs", "i", "j", "labels", "a", "b"]
theorem sc_shows_parted : FnScope N_shows_parted ["perms", "points", "pairs", "i", "j", "labels"] (defScope s_shows_parted) := ⟨rfl, rfl, rfl, by decide +kernel, rfl, by decide +kernel, by decide +kernel⟩
abbrev s__law_cell : Stmt := topS 18
abbrev N__law_cell : List Str := ["script", "k", "cells"]
theorem sc__law_cell : FnScope N__law_cell ["script", "k"] (defScope s__law_cell) := ⟨rfl, rfl, rfl, by decide +kernel, rfl, by decide +kernel, by decide +kernel⟩
abbrev s__law_bag : Stmt := topS 19
abbrev N__law_bag : List Str := ["script", "k", "cell"]
theorem sc__law_bag : FnScope N__law_bag ["script", "k"] (defScope s__law_bag) := ⟨rfl, rfl, rfl, by decide +kernel, rfl, by decide +kernel, by decide +kernel⟩
abbrev s__law_take : Stmt := topS 20
abbrev N__law_take : List Str := ["bag", "size", "digit", "mixed"]
theorem sc__law_take : FnScope N__law_take ["bag", "size"] (defScope s__law_take) := ⟨rfl, rfl, rfl, by decide +kernel, rfl, by decide +kernel, by decide +kernel⟩
abbrev s__law_shuffled : Stmt := topS 21
abbrev N__law_shuffled : List Str := ["bag", "many", "row", "k", "other", "held"]
theorem sc__law_shuffled : FnScope N__law_shuffled ["bag", "many"] (defScope s__law_shuffled) := ⟨rfl, rfl, rfl, by decide +kernel, rfl, by decide +kernel, by decide +kernel⟩
abbrev s__law_is_whole : Stmt := topS 22
abbrev N__law_is_whole : List Str := ["value"]
theorem sc__law_is_whole : FnScope N__law_is_whole ["value"] (defScope s__law_is_whole) := ⟨rfl, rfl, rfl, by decide +kernel, rfl, by decide +kernel, by decide +kernel⟩
abbrev s__law_is_truth : Stmt := topS 23
abbrev N__law_is_truth : List Str := ["actual", "due"]
theorem sc__law_is_truth : FnScope N__law_is_truth ["actual", "due"] (defScope s__law_is_truth) := ⟨rfl, rfl, rfl, by decide +kernel, rfl, by decide +kernel, by decide +kernel⟩
abbrev s__law_is_row : Stmt := topS 24
abbrev N__law_is_row : List Str := ["actual", "due", "k"]
theorem sc__law_is_row : FnScope N__law_is_row ["actual", "due"] (defScope s__law_is_row) := ⟨rfl, rfl, rfl, by decide +kernel, rfl, by decide +kernel, by decide +kernel⟩
abbrev s__law_partition : Stmt := topS 25
abbrev N__law_partition : List Str := ["bag", "points", "kind", "size", "row", "k", "x"]
theorem sc__law_partition : FnScope N__law_partition ["bag", "points"] (defScope s__law_partition) := ⟨rfl, rfl, rfl, by decide +kernel, rfl, by decide +kernel, by decide +kernel⟩
abbrev s__law_classes : Stmt := topS 26
abbrev N__law_classes : List Str := ["labels", "told", "x", "k"]
theorem sc__law_classes : FnScope N__law_classes ["labels"] (defScope s__law_classes) := ⟨rfl, rfl, rfl, by decide +kernel, rfl, by decide +kernel, by decide +kernel⟩
abbrev s__law_keeping : Stmt := topS 27
abbrev N__law_keeping : List Str := ["bag", "labels", "classes", "image", "used", "one", "free", "at", "order", "k", "x"]
theorem sc__law_keeping : FnScope N__law_keeping ["bag", "labels"] (defScope s__law_keeping) := ⟨rfl, rfl, rfl, by decide +kernel, rfl, by decide +kernel, by decide +kernel⟩
abbrev s__law_moving : Stmt := topS 28
abbrev N__law_moving : List Str := ["bag", "labels", "strict", "kind", "image", "at", "other", "held"]
theorem sc__law_moving : FnScope N__law_moving ["bag", "labels", "strict"] (defScope s__law_moving) := ⟨rfl, rfl, rfl, by decide +kernel, rfl, by decide +kernel, by decide +kernel⟩
abbrev s__law_is_labels : Stmt := topS 29
abbrev N__law_is_labels : List Str := ["value", "points", "k"]
theorem sc__law_is_labels : FnScope N__law_is_labels ["value", "points"] (defScope s__law_is_labels) := ⟨rfl, rfl, rfl, by decide +kernel, rfl, by decide +kernel, by decide +kernel⟩
abbrev s__law_merged : Stmt := topS 30
abbrev N__law_merged : List Str := ["row", "a", "b", "low", "high", "x"]
theorem sc__law_merged : FnScope N__law_merged ["row", "a", "b"] (defScope s__law_merged) := ⟨rfl, rfl, rfl, by decide +kernel, rfl, by decide +kernel, by decide +kernel⟩
abbrev s__law_closure : Stmt := topS 31
abbrev N__law_closure : List Str := ["perms", "points", "pairs", "row", "pair", "turn", "before", "perm", "k"]
theorem sc__law_closure : FnScope N__law_closure ["perms", "points", "pairs"] (defScope s__law_closure) := ⟨rfl, rfl, rfl, by decide +kernel, rfl, by decide +kernel, by decide +kernel⟩
abbrev s__law_holds : Stmt := topS 32
abbrev N__law_holds : List Str := ["labels", "perms", "pairs", "pair", "perm", "k"]
theorem sc__law_holds : FnScope N__law_holds ["labels", "perms", "pairs"] (defScope s__law_holds) := ⟨rfl, rfl, rfl, by decide +kernel, rfl, by decide +kernel, by decide +kernel⟩
abbrev s__law_pair : Stmt := topS 33
abbrev N__law_pair : List Str := ["bag", "base", "strict", "a", "mates", "x"]
theorem sc__law_pair : FnScope N__law_pair ["bag", "base", "strict"] (defScope s__law_pair) := ⟨rfl, rfl, rfl, by decide +kernel, rfl, by decide +kernel, by decide +kernel⟩
abbrev s__law_is_index : Stmt := topS 34
abbrev N__law_is_index : List Str := ["value", "limit"]
theorem sc__law_is_index : FnScope N__law_is_index ["value", "limit"] (defScope s__law_is_index) := ⟨rfl, rfl, rfl, by decide +kernel, rfl, by decide +kernel, by decide +kernel⟩
abbrev s__law_limits : Stmt := topS 35
abbrev N__law_limits : List Str := ["word", "points", "pairs", "perms", "lines"]
theorem sc__law_limits : FnScope N__law_limits ["word", "points", "pairs", "perms", "lines"] (defScope s__law_limits) := ⟨rfl, rfl, rfl, by decide +kernel, rfl, by decide +kernel, by decide +kernel⟩
abbrev s__law_line : Stmt := topS 36
abbrev N__law_line : List Str := ["line", "ends", "perms", "points", "pairs", "limits", "k", "one", "other"]
theorem sc__law_line : FnScope N__law_line ["line", "ends", "perms", "points", "pairs"] (defScope s__law_line) := ⟨rfl, rfl, rfl, by decide +kernel, rfl, by decide +kernel, by decide +kernel⟩
abbrev s__law_ends : Stmt := topS 37
abbrev N__law_ends : List Str := ["reason", "perms", "points", "pairs", "ends", "line", "pair"]
theorem sc__law_ends : FnScope N__law_ends ["reason", "perms", "points", "pairs"] (defScope s__law_ends) := ⟨rfl, rfl, rfl, by decide +kernel, rfl, by decide +kernel, by decide +kernel⟩
abbrev s__law_drawn : Stmt := topS 38
abbrev N__law_drawn : List Str := ["bag", "perms", "points", "pairs", "lines", "ends", "k", "kind", "line", "at", "fits", "x"]
theorem sc__law_drawn : FnScope N__law_drawn ["bag", "perms", "points", "pairs"] (defScope s__law_drawn) := ⟨rfl, rfl, rfl, by decide +kernel, rfl, by decide +kernel, by decide +kernel⟩
abbrev s__law_bent : Stmt := topS 39
abbrev N__law_bent : List Str := ["bag", "reason", "points", "kind", "at", "line", "odds", "odd", "extra", "part"]
theorem sc__law_bent : FnScope N__law_bent ["bag", "reason", "points"] (defScope s__law_bent) := ⟨rfl, rfl, rfl, by decide +kernel, rfl, by decide +kernel, by decide +kernel⟩
abbrev s__law_joined_as : Stmt := topS 40
abbrev N__law_joined_as : List Str := ["reason", "perms", "points", "pairs", "targets", "due", "target", "actual"]
theorem sc__law_joined_as : FnScope N__law_joined_as ["reason", "perms", "points", "pairs", "targets"] (defScope s__law_joined_as) := ⟨rfl, rfl, rfl, by decide +kernel, rfl, by decide +kernel, by decide +kernel⟩
abbrev s__law_bends_hold : Stmt := topS 41
abbrev N__law_bends_hold : List Str := ["bag", "perms", "points", "pairs", "reason", "end", "targets", "turn", "bent"]
theorem sc__law_bends_hold : FnScope N__law_bends_hold ["bag", "perms", "points", "pairs", "reason"] (defScope s__law_bends_hold) := ⟨rfl, rfl, rfl, by decide +kernel, rfl, by decide +kernel, by decide +kernel⟩
abbrev s__law_lone_hold : Stmt := topS 42
abbrev N__law_lone_hold : List Str := ["bag", "perms", "points", "pairs", "i", "j", "one", "reasons", "reason"]
theorem sc__law_lone_hold : FnScope N__law_lone_hold ["bag", "perms", "points", "pairs"] (defScope s__law_lone_hold) := ⟨rfl, rfl, rfl, by decide +kernel, rfl, by decide +kernel, by decide +kernel⟩
abbrev s__law_two_hold : Stmt := topS 43
abbrev N__law_two_hold : List Str := ["perms", "points", "pairs", "i", "j", "labels", "reason", "parted", "joined"]
theorem sc__law_two_hold : FnScope N__law_two_hold ["perms", "points", "pairs", "i", "j", "labels"] (defScope s__law_two_hold) := ⟨rfl, rfl, rfl, by decide +kernel, rfl, by decide +kernel, by decide +kernel⟩
abbrev s__law_parts : Stmt := topS 44
abbrev N__law_parts : List Str := ["value", "perms", "points", "pairs", "i", "j"]
theorem sc__law_parts : FnScope N__law_parts ["value", "perms", "points", "pairs", "i", "j"] (defScope s__law_parts) := ⟨rfl, rfl, rfl, by decide +kernel, rfl, by decide +kernel, by decide +kernel⟩
abbrev s__law_parts_hold : Stmt := topS 45
abbrev N__law_parts_hold : List Str := ["bag", "perms", "points", "pairs", "labels", "other", "i", "apart", "x", "j", "values", "greatest", "k", "turn", "pair", "at", "odds", "value", "actual"]
theorem sc__law_parts_hold : FnScope N__law_parts_hold ["bag", "perms", "points", "pairs", "labels", "other"] (defScope s__law_parts_hold) := ⟨rfl, rfl, rfl, by decide +kernel, rfl, by decide +kernel, by decide +kernel⟩
abbrev s__law_asked : Stmt := topS 46
abbrev N__law_asked : List Str := ["bag", "points", "asked", "k", "i", "j"]
theorem sc__law_asked : FnScope N__law_asked ["bag", "points"] (defScope s__law_asked) := ⟨rfl, rfl, rfl, by decide +kernel, rfl, by decide +kernel, by decide +kernel⟩
abbrev s_law : Stmt := topS 47
abbrev N_law : List Str := ["script", "bag", "points", "many", "told", "strict", "base", "perms", "k", "pairs", "labels", "made", "pair", "i", "mates", "x", "reason", "other"]
theorem sc_law : FnScope N_law ["script"] (defScope s_law) := ⟨rfl, rfl, rfl, by decide +kernel, rfl, by decide +kernel, by decide +kernel⟩
structure Txt (K : PySem.W.Frag) (mg : Str → Option Value) where
  f_is_whole : Addr
  fd_is_whole : FuncData
  d_is_whole : DA K mg "is_whole" s_is_whole ["value"] f_is_whole fd_is_whole
  f_is_index : Addr
  fd_is_index : FuncData
  d_is_index : DA K mg "is_index" s_is_index ["value", "limit"] f_is_index fd_is_index
  f_is_row : Addr
  fd_is_row : FuncData
  d_is_row : DA K mg "is_row" s_is_row ["value", "length"] f_is_row fd_is_row
  f_alone : Addr
  fd_alone : FuncData
  d_alone : DA K mg "alone" s_alone ["points"] f_alone fd_alone
  f_merged : Addr
  fd_merged : FuncData
  d_merged : DA K mg "merged" s_merged ["labels", "i", "j"] f_merged fd_merged
  f_is_labels : Addr
  fd_is_labels : FuncData
  d_is_labels : DA K mg "is_labels" s_is_labels ["value", "points"] f_is_labels fd_is_labels
  f_broken : Addr
  fd_broken : FuncData
  d_broken : DA K mg "broken" s_broken ["labels", "perms"] f_broken fd_broken
  f_least_blocks : Addr
  fd_least_blocks : FuncData
  d_least_blocks : DA K mg "least_blocks" s_least_blocks ["perms", "points", "pairs"] f_least_blocks fd_least_blocks
  f__followed : Addr
  fd__followed : FuncData
  d__followed : DA K mg "_followed" s__followed ["lines", "path", "i"] f__followed fd__followed
  f__tree_path : Addr
  fd__tree_path : FuncData
  d__tree_path : DA K mg "_tree_path" s__tree_path ["links", "points", "i", "j"] f__tree_path fd__tree_path
  f_join_reason : Addr
  fd_join_reason : FuncData
  d_join_reason : DA K mg "join_reason" s_join_reason ["perms", "points", "pairs", "i", "j"] f_join_reason fd_join_reason
  f__pair_of : Addr
  fd__pair_of : FuncData
  d__pair_of : DA K mg "_pair_of" s__pair_of ["line", "earlier", "perms", "points", "pairs"] f__pair_of fd__pair_of
  f_shows_joined : Addr
  fd_shows_joined : FuncData
  d_shows_joined : DA K mg "shows_joined" s_shows_joined ["perms", "points", "pairs", "i", "j", "reason"] f_shows_joined fd_shows_joined
  f_shows_parted : Addr
  fd_shows_parted : FuncData
  d_shows_parted : DA K mg "shows_parted" s_shows_parted ["perms", "points", "pairs", "i", "j", "labels"] f_shows_parted fd_shows_parted
  f__law_cell : Addr
  fd__law_cell : FuncData
  d__law_cell : DA K mg "_law_cell" s__law_cell ["script", "k"] f__law_cell fd__law_cell
  f__law_bag : Addr
  fd__law_bag : FuncData
  d__law_bag : DA K mg "_law_bag" s__law_bag ["script", "k"] f__law_bag fd__law_bag
  f__law_take : Addr
  fd__law_take : FuncData
  d__law_take : DA K mg "_law_take" s__law_take ["bag", "size"] f__law_take fd__law_take
  f__law_shuffled : Addr
  fd__law_shuffled : FuncData
  d__law_shuffled : DA K mg "_law_shuffled" s__law_shuffled ["bag", "many"] f__law_shuffled fd__law_shuffled
  f__law_is_whole : Addr
  fd__law_is_whole : FuncData
  d__law_is_whole : DA K mg "_law_is_whole" s__law_is_whole ["value"] f__law_is_whole fd__law_is_whole
  f__law_is_truth : Addr
  fd__law_is_truth : FuncData
  d__law_is_truth : DA K mg "_law_is_truth" s__law_is_truth ["actual", "due"] f__law_is_truth fd__law_is_truth
  f__law_is_row : Addr
  fd__law_is_row : FuncData
  d__law_is_row : DA K mg "_law_is_row" s__law_is_row ["actual", "due"] f__law_is_row fd__law_is_row
  f__law_partition : Addr
  fd__law_partition : FuncData
  d__law_partition : DA K mg "_law_partition" s__law_partition ["bag", "points"] f__law_partition fd__law_partition
  f__law_classes : Addr
  fd__law_classes : FuncData
  d__law_classes : DA K mg "_law_classes" s__law_classes ["labels"] f__law_classes fd__law_classes
  f__law_keeping : Addr
  fd__law_keeping : FuncData
  d__law_keeping : DA K mg "_law_keeping" s__law_keeping ["bag", "labels"] f__law_keeping fd__law_keeping
  f__law_moving : Addr
  fd__law_moving : FuncData
  d__law_moving : DA K mg "_law_moving" s__law_moving ["bag", "labels", "strict"] f__law_moving fd__law_moving
  f__law_is_labels : Addr
  fd__law_is_labels : FuncData
  d__law_is_labels : DA K mg "_law_is_labels" s__law_is_labels ["value", "points"] f__law_is_labels fd__law_is_labels
  f__law_merged : Addr
  fd__law_merged : FuncData
  d__law_merged : DA K mg "_law_merged" s__law_merged ["row", "a", "b"] f__law_merged fd__law_merged
  f__law_closure : Addr
  fd__law_closure : FuncData
  d__law_closure : DA K mg "_law_closure" s__law_closure ["perms", "points", "pairs"] f__law_closure fd__law_closure
  f__law_holds : Addr
  fd__law_holds : FuncData
  d__law_holds : DA K mg "_law_holds" s__law_holds ["labels", "perms", "pairs"] f__law_holds fd__law_holds
  f__law_pair : Addr
  fd__law_pair : FuncData
  d__law_pair : DA K mg "_law_pair" s__law_pair ["bag", "base", "strict"] f__law_pair fd__law_pair
  f__law_is_index : Addr
  fd__law_is_index : FuncData
  d__law_is_index : DA K mg "_law_is_index" s__law_is_index ["value", "limit"] f__law_is_index fd__law_is_index
  f__law_limits : Addr
  fd__law_limits : FuncData
  d__law_limits : DA K mg "_law_limits" s__law_limits ["word", "points", "pairs", "perms", "lines"] f__law_limits fd__law_limits
  f__law_line : Addr
  fd__law_line : FuncData
  d__law_line : DA K mg "_law_line" s__law_line ["line", "ends", "perms", "points", "pairs"] f__law_line fd__law_line
  f__law_ends : Addr
  fd__law_ends : FuncData
  d__law_ends : DA K mg "_law_ends" s__law_ends ["reason", "perms", "points", "pairs"] f__law_ends fd__law_ends
  f__law_drawn : Addr
  fd__law_drawn : FuncData
  d__law_drawn : DA K mg "_law_drawn" s__law_drawn ["bag", "perms", "points", "pairs"] f__law_drawn fd__law_drawn
  f__law_bent : Addr
  fd__law_bent : FuncData
  d__law_bent : DA K mg "_law_bent" s__law_bent ["bag", "reason", "points"] f__law_bent fd__law_bent
  f__law_joined_as : Addr
  fd__law_joined_as : FuncData
  d__law_joined_as : DA K mg "_law_joined_as" s__law_joined_as ["reason", "perms", "points", "pairs", "targets"] f__law_joined_as fd__law_joined_as
  f__law_bends_hold : Addr
  fd__law_bends_hold : FuncData
  d__law_bends_hold : DA K mg "_law_bends_hold" s__law_bends_hold ["bag", "perms", "points", "pairs", "reason"] f__law_bends_hold fd__law_bends_hold
  f__law_lone_hold : Addr
  fd__law_lone_hold : FuncData
  d__law_lone_hold : DA K mg "_law_lone_hold" s__law_lone_hold ["bag", "perms", "points", "pairs"] f__law_lone_hold fd__law_lone_hold
  f__law_two_hold : Addr
  fd__law_two_hold : FuncData
  d__law_two_hold : DA K mg "_law_two_hold" s__law_two_hold ["perms", "points", "pairs", "i", "j", "labels"] f__law_two_hold fd__law_two_hold
  f__law_parts : Addr
  fd__law_parts : FuncData
  d__law_parts : DA K mg "_law_parts" s__law_parts ["value", "perms", "points", "pairs", "i", "j"] f__law_parts fd__law_parts
  f__law_parts_hold : Addr
  fd__law_parts_hold : FuncData
  d__law_parts_hold : DA K mg "_law_parts_hold" s__law_parts_hold ["bag", "perms", "points", "pairs", "labels", "other"] f__law_parts_hold fd__law_parts_hold
  f__law_asked : Addr
  fd__law_asked : FuncData
  d__law_asked : DA K mg "_law_asked" s__law_asked ["bag", "points"] f__law_asked fd__law_asked
  f_law : Addr
  fd_law : FuncData
  d_law : DA K mg "law" s_law ["script"] f_law fd_law
  b_int : mg "int" = none
  b_isinstance : mg "isinstance" = none
  b_bool : mg "bool" = none
  b_tuple : mg "tuple" = none
  b_len : mg "len" = none
  b_range : mg "range" = none
  b_min : mg "min" = none
  b_max : mg "max" = none
  b_enumerate : mg "enumerate" = none
  b_list : mg "list" = none
  b_all : mg "all" = none
  b_sum : mg "sum" = none
  b_str : mg "str" = none
section
variable {P : Program} {w : World} {K : PySem.W.Frag} {mg : Str → Option Value} {base : Heap}
theorem w_is_whole (T : Txt K mg) : FnOk P w K mg base (L2.CX P w) 1 T.f_is_whole T.fd_is_whole ["value"] (spF K mg 1 c_is_whole) := by
  refine fn_ok (n := 1) (m := m_is_whole) T.d_is_whole.fn sc_is_whole rfl rfl fun cdv A outer s H E hr => ?_
  have tk : Takes (cxOf (L2.CX P w) P w K mg base N_is_whole "is_whole" (defScope s_is_whole) T.f_is_whole cdv A outer s H E) (fun cls d _ H => E cls d H) := takes_of rfl rfl rfl rfl
  have po := passes_of (X := cxOf (L2.CX P w) P w K mg base N_is_whole "is_whole" (defScope s_is_whole) T.f_is_whole cdv A outer s H E) rfl
  exact (mb_one (ms_ret (me_and (me_callB call_isi cs_isi T.b_isinstance (ma_cons (me_var 0) (ma_cons (me_ty T.b_int) ma_nil))) (me_one (me_not (me_callB call_isi cs_isi T.b_isinstance (ma_cons (me_var 0) (ma_cons (me_ty T.b_bool) ma_nil))))))))
theorem w_is_index (T : Txt K mg) : FnOk P w K mg base (L2.CX P w) 2 T.f_is_index T.fd_is_index ["value", "limit"] (spF K mg 2 c_is_index) := by
  refine fn_ok (n := 2) (m := m_is_index) T.d_is_index.fn sc_is_index rfl rfl fun cdv A outer s H E hr => ?_
  have tk : Takes (cxOf (L2.CX P w) P w K mg base N_is_index "is_index" (defScope s_is_index) T.f_is_index cdv A outer s H E) (fun cls d _ H => E cls d H) := takes_of rfl rfl rfl rfl
  have po := passes_of (X := cxOf (L2.CX P w) P w K mg base N_is_index "is_index" (defScope s_is_index) T.f_is_index cdv A outer s H E) rfl
  exact (mb_one (ms_ret (me_and (me_call (w_is_whole T) (hr.mono (by decide)) T.d_is_whole.mgf T.d_is_whole.fn.kp T.d_is_whole.bd tk (ma_cons (me_var 0) ma_nil)) (me_one (me_chain op_leAll os_le (op_ltAll hr.units0) os_lt me_int (me_var 0) (me_var 1))))))
theorem w_is_row (T : Txt K mg) : FnOk P w K mg base (L2.CX P w) 1 T.f_is_row T.fd_is_row ["value", "length"] (spF K mg 2 c_is_row) := by
  refine fn_ok (n := 2) (m := m_is_row) T.d_is_row.fn sc_is_row rfl rfl fun cdv A outer s H E hr => ?_
  have tk : Takes (cxOf (L2.CX P w) P w K mg base N_is_row "is_row" (defScope s_is_row) T.f_is_row cdv A outer s H E) (fun cls d _ H => E cls d H) := takes_of rfl rfl rfl rfl
  have po := passes_of (X := cxOf (L2.CX P w) P w K mg base N_is_row "is_row" (defScope s_is_row) T.f_is_row cdv A outer s H E) rfl
  exact (mb_one (ms_ret (me_and (me_callB call_isi cs_isi T.b_isinstance (ma_cons (me_var 0) (ma_cons (me_ty T.b_tuple) ma_nil))) (me_one (me_cmp (op_eqD hr.units) os_eq (me_callB cl_len cs_lenAll T.b_len (ma_cons (me_var 0) ma_nil)) (me_var 1) (nomark _))))))
theorem w_alone (T : Txt K mg) : FnOk P w K mg base (L2.CX P w) 1 T.f_alone T.fd_alone ["points"] (spF K mg 1 c_alone) := by
  refine fn_ok (n := 1) (m := m_alone) T.d_alone.fn sc_alone rfl rfl fun cdv A outer s H E hr => ?_
  have tk : Takes (cxOf (L2.CX P w) P w K mg base N_alone "alone" (defScope s_alone) T.f_alone cdv A outer s H E) (fun cls d _ H => E cls d H) := takes_of rfl rfl rfl rfl
  have po := passes_of (X := cxOf (L2.CX P w) P w K mg base N_alone "alone" (defScope s_alone) T.f_alone cdv A outer s H E) rfl
  exact (mb_one (ms_ret (me_tupRg1 rfl T.b_tuple T.b_range (me_var 0))))
theorem w_merged (T : Txt K mg) : FnOk P w K mg base (L2.CX P w) 1 T.f_merged T.fd_merged ["labels", "i", "j"] (spF K mg 3 c_merged) := by
  refine fn_ok (n := 6) (m := m_merged) T.d_merged.fn sc_merged rfl rfl fun cdv A outer s H E hr => ?_
  have tk : Takes (cxOf (L2.CX P w) P w K mg base N_merged "merged" (defScope s_merged) T.f_merged cdv A outer s H E) (fun cls d _ H => E cls d H) := takes_of rfl rfl rfl rfl
  have po := passes_of (X := cxOf (L2.CX P w) P w K mg base N_merged "merged" (defScope s_merged) T.f_merged cdv A outer s H E) rfl
  exact (mb_cons (ms_set (i := 3) sc_merged.nd rfl (.inr rfl) (me_callB (call_min2 rfl) cs_min2 T.b_min (ma_cons (me_ix ix_seq os_ix (me_var 0) (me_var 1)) (ma_cons (me_ix ix_seq os_ix (me_var 0) (me_var 2)) ma_nil))))
    (mb_cons (ms_set (i := 4) sc_merged.nd rfl (.inr rfl) (me_callB (call_max2 rfl) cs_max2 T.b_max (ma_cons (me_ix ix_seq os_ix (me_var 0) (me_var 1)) (ma_cons (me_ix ix_seq os_ix (me_var 0) (me_var 2)) ma_nil))))
    (mb_cons (ms_if (mt_cmp (op_eqD hr.units) os_eq (me_var 3) (me_var 4) (nomark _))
      (mb_one (ms_ret (me_var 0)))
      mb_nil)
    (mb_one (ms_ret (me_callTy call_tuple_of cs_tuple T.b_tuple (ma_cons (me_lc rfl sc_merged.nd (mi_val (me_var 0)) (blkOk_by (own := [("label", 5)]) (by show blkC N_merged (defScope s_merged) _ _ = true; decide +kernel)) (fun _ _ _ _ _ => (mgc_var sc_merged.nd rfl (.inl rfl) (by decide))) (fun _ _ _ _ _ => mts_nil) (fun _ _ _ _ _ => (me_if (mt_cmp (op_eqD hr.units) os_eq (me_var 5) (me_var 4) (nomark _)) (me_var 3) (me_var 5)))) ma_nil)))))))
theorem w_is_labels (T : Txt K mg) : FnOk P w K mg base (L2.CX P w) 3 T.f_is_labels T.fd_is_labels ["value", "points"] (spF K mg 2 c_is_labels) := by
  refine fn_ok (n := 4) (m := m_is_labels) T.d_is_labels.fn sc_is_labels rfl rfl fun cdv A outer s H E hr => ?_
  have tk : Takes (cxOf (L2.CX P w) P w K mg base N_is_labels "is_labels" (defScope s_is_labels) T.f_is_labels cdv A outer s H E) (fun cls d _ H => E cls d H) := takes_of rfl rfl rfl rfl
  have po := passes_of (X := cxOf (L2.CX P w) P w K mg base N_is_labels "is_labels" (defScope s_is_labels) T.f_is_labels cdv A outer s H E) rfl
  exact (mb_cons (ms_if (mt_not (mt_truth ts_truth (me_call (w_is_row T) (hr.mono (by decide)) T.d_is_row.mgf T.d_is_row.fn.kp T.d_is_row.bd tk (ma_cons (me_var 0) (ma_cons (me_var 1) ma_nil)))))
      (mb_one (ms_ret me_bl))
      mb_nil)
    (mb_cons (ms_for po rfl (mi_enum2 T.b_enumerate (me_var 0)) (mg_tup rfl (mgs_cons (mg_var sc_is_labels.nd rfl (.inl rfl)) (mgs_cons (mg_var sc_is_labels.nd rfl (.inl rfl)) mgs_nil)))
      (mb_one (ms_if (MW.mt (mw_or (mt_not (mt_truth ts_truth (me_call (w_is_index T) (hr.mono (by decide)) T.d_is_index.mgf T.d_is_index.fn.kp T.d_is_index.bd tk (ma_cons (me_var 3) (ma_cons (me_op op_addAll os_add (me_var 2) me_int) ma_nil))))) (mw_or1 (mt_cmp (op_neD hr.units) os_ne (me_ix ix_seq os_ix (me_var 0) (me_var 3)) (me_var 3) (nomark _)))))
      (mb_one (ms_ret me_bl))
      mb_nil)))
    (mb_one (ms_ret me_bl))))
theorem w_broken (T : Txt K mg) : FnOk P w K mg base (L2.CX P w) 1 T.f_broken T.fd_broken ["labels", "perms"] (spF K mg 2 c_broken) := by
  refine fn_ok (n := 9) (m := m_broken) T.d_broken.fn sc_broken rfl rfl fun cdv A outer s H E hr => ?_
  have tk : Takes (cxOf (L2.CX P w) P w K mg base N_broken "broken" (defScope s_broken) T.f_broken cdv A outer s H E) (fun cls d _ H => E cls d H) := takes_of rfl rfl rfl rfl
  have po := passes_of (X := cxOf (L2.CX P w) P w K mg base N_broken "broken" (defScope s_broken) T.f_broken cdv A outer s H E) rfl
  exact (mb_cons (ms_set (i := 2) sc_broken.nd rfl (.inl rfl) (me_callB cl_len cs_lenAll T.b_len (ma_cons (me_var 0) ma_nil)))
    (mb_cons (ms_for po rfl (mi_enum2 T.b_enumerate (me_var 1)) (mg_tup rfl (mgs_cons (mg_var sc_broken.nd rfl (.inl rfl)) (mgs_cons (mg_var sc_broken.nd rfl (.inl rfl)) mgs_nil)))
      (mb_cons (ms_setLc (i := 5) rfl sc_broken.nd rfl rfl (sw_true rfl rfl rfl (by decide +kernel)) (mi_val (me_var 4)) (blkOk_by (own := [("point", 8)]) (by show blkC N_broken (defScope s_broken) _ _ = true; decide +kernel)) (fun _ _ _ _ _ => (mgc_var sc_broken.nd rfl (.inl rfl) (by decide))) (fun _ _ _ _ _ => mts_nil) (fun _ _ _ _ _ => (me_ix ix_seq os_ix (me_var 0) (me_var 8))))
    (mb_one (ms_for po rfl (mi_range1 T.b_range (ma_cons (me_var 2) ma_nil)) (mg_var sc_broken.nd rfl (.inl rfl))
      (mb_one (ms_for po rfl (mi_range2 T.b_range (ma_cons (me_op op_addAll os_add (me_var 6) me_int) (ma_cons (me_var 2) ma_nil))) (mg_var sc_broken.nd rfl (.inl rfl))
      (mb_one (ms_if (MW.mt (mw_and (mt_cmp (op_eqD hr.units) os_eq (me_ix ix_seq os_ix (me_var 0) (me_var 6)) (me_ix ix_seq os_ix (me_var 0) (me_var 7)) (nomark _)) (mw_and1 (mt_cmp (op_neD hr.units) os_ne (me_ix ix_seq os_ix (me_var 5) (me_var 6)) (me_ix ix_seq os_ix (me_var 5) (me_var 7)) (nomark _)))))
      (mb_one (ms_ret (me_tup (ma_cons (me_var 3) (ma_cons (me_var 6) (ma_cons (me_var 7) ma_nil))))))
      mb_nil))))))))
    (mb_one (ms_ret me_non))))
theorem w_least_blocks (T : Txt K mg) : FnOk P w K mg base (L2.CX P w) 2 T.f_least_blocks T.fd_least_blocks ["perms", "points", "pairs"] (spF K mg 3 c_least_blocks) := by
  refine fn_ok (n := 9) (m := m_least_blocks) T.d_least_blocks.fn sc_least_blocks rfl rfl fun cdv A outer s H E hr => ?_
  have tk : Takes (cxOf (L2.CX P w) P w K mg base N_least_blocks "least_blocks" (defScope s_least_blocks) T.f_least_blocks cdv A outer s H E) (fun cls d _ H => E cls d H) := takes_of rfl rfl rfl rfl
  have po := passes_of (X := cxOf (L2.CX P w) P w K mg base N_least_blocks "least_blocks" (defScope s_least_blocks) T.f_least_blocks cdv A outer s H E) rfl
  exact (mb_cons (ms_set (i := 3) sc_least_blocks.nd rfl (.inl rfl) (me_call (w_alone T) (hr.mono (by decide)) T.d_alone.mgf T.d_alone.fn.kp T.d_alone.bd tk (ma_cons (me_var 1) ma_nil)))
    (mb_cons (ms_set (i := 4) sc_least_blocks.nd rfl (.inl rfl) (me_callTy call_list_of cs_list T.b_list (ma_cons (me_var 2) ma_nil)))
    (mb_cons (ms_set (i := 5) sc_least_blocks.nd rfl (.inl rfl) me_int)
    (mb_cons (ms_while po (mt_cmp (op_ltAll hr.units0) os_lt (me_var 5) (me_callB cl_len cs_lenAll T.b_len (ma_cons (me_var 4) ma_nil)) (nomark _))
      (mb_cons (ms_asg (me_ix ix_seq os_ix (me_var 4) (me_var 5)) (mg_tup rfl (mgs_cons (mg_var sc_least_blocks.nd rfl (.inl rfl)) (mgs_cons (mg_var sc_least_blocks.nd rfl (.inl rfl)) mgs_nil))))
    (mb_cons (ms_set (i := 5) sc_least_blocks.nd rfl (.inl rfl) (me_op op_addAll os_add (me_var 5) me_int))
    (mb_one (ms_if (mt_cmp (op_neD hr.units) os_ne (me_ix ix_seq os_ix (me_var 3) (me_var 6)) (me_ix ix_seq os_ix (me_var 3) (me_var 7)) (nomark _))
      (mb_cons (ms_set (i := 3) sc_least_blocks.nd rfl (.inl rfl) (me_call (w_merged T) (hr.mono (by decide)) T.d_merged.mgf T.d_merged.fn.kp T.d_merged.bd tk (ma_cons (me_var 3) (ma_cons (me_var 6) (ma_cons (me_var 7) ma_nil)))))
    (mb_one (ms_for po rfl (mi_val (me_var 0)) (mg_var sc_least_blocks.nd rfl (.inl rfl))
      (mb_one (ms_expr (me_meth PySem.F.plainAttrs_list PySem.F.slot_list_append PySem.F.type_list_append mt_append ms_append (me_var 4) (ma_cons (me_tup (ma_cons (me_ix ix_seq os_ix (me_var 8) (me_var 6)) (ma_cons (me_ix ix_seq os_ix (me_var 8) (me_var 7)) ma_nil))) ma_nil)))))))
      mb_nil)))))
    (mb_one (ms_ret (me_var 3)))))))
theorem w__followed (T : Txt K mg) : FnOk P w K mg base (L2.CX P w) 1 T.f__followed T.fd__followed ["lines", "path", "i"] (spF K mg 3 c__followed) := by
  refine fn_ok (n := 7) (m := m__followed) T.d__followed.fn sc__followed rfl rfl fun cdv A outer s H E hr => ?_
  have tk : Takes (cxOf (L2.CX P w) P w K mg base N__followed "_followed" (defScope s__followed) T.f__followed cdv A outer s H E) (fun cls d _ H => E cls d H) := takes_of rfl rfl rfl rfl
  have po := passes_of (X := cxOf (L2.CX P w) P w K mg base N__followed "_followed" (defScope s__followed) T.f__followed cdv A outer s H E) rfl
  exact (mb_cons (ms_set (i := 3) sc__followed.nd rfl (.inl rfl) (me_lst (ma_star (me_var 0) (ma_cons (me_tup (ma_cons me_str (ma_cons (me_var 2) ma_nil))) ma_nil))))
    (mb_cons (ms_for po rfl (mi_val (me_var 1)) (mg_tup rfl (mgs_cons (mg_var sc__followed.nd rfl (.inl rfl)) (mgs_cons (mg_var sc__followed.nd rfl (.inl rfl)) mgs_nil)))
      (mb_cons (ms_set (i := 6) sc__followed.nd rfl (.inl rfl) (me_op op_sub os_sub (me_callB cl_len cs_lenAll T.b_len (ma_cons (me_var 3) ma_nil)) me_int))
    (mb_one (ms_if (mt_truth ts_truth (me_var 5))
      (mb_cons (ms_expr (me_meth PySem.F.plainAttrs_list PySem.F.slot_list_append PySem.F.type_list_append mt_append ms_append (me_var 3) (ma_cons (me_tup (ma_cons me_str (ma_cons (me_var 4) ma_nil))) ma_nil)))
    (mb_one (ms_expr (me_meth PySem.F.plainAttrs_list PySem.F.slot_list_append PySem.F.type_list_append mt_append ms_append (me_var 3) (ma_cons (me_tup (ma_cons me_str (ma_cons (me_var 6) (ma_cons (me_op op_addAll os_add (me_var 6) me_int) ma_nil)))) ma_nil)))))
      (mb_one (ms_expr (me_meth PySem.F.plainAttrs_list PySem.F.slot_list_append PySem.F.type_list_append mt_append ms_append (me_var 3) (ma_cons (me_tup (ma_cons me_str (ma_cons (me_var 6) (ma_cons (me_var 4) ma_nil)))) ma_nil))))))))
    (mb_one (ms_ret (me_callTy call_tuple_of cs_tuple T.b_tuple (ma_cons (me_var 3) ma_nil))))))
theorem w__tree_path (T : Txt K mg) : FnOk P w K mg base (L2.CX P w) 1 T.f__tree_path T.fd__tree_path ["links", "points", "i", "j"] (spF K mg 4 c__tree_path) := by
  refine fn_ok (n := 13) (m := m__tree_path) T.d__tree_path.fn sc__tree_path rfl rfl fun cdv A outer s H E hr => ?_
  have tk : Takes (cxOf (L2.CX P w) P w K mg base N__tree_path "_tree_path" (defScope s__tree_path) T.f__tree_path cdv A outer s H E) (fun cls d _ H => E cls d H) := takes_of rfl rfl rfl rfl
  have po := passes_of (X := cxOf (L2.CX P w) P w K mg base N__tree_path "_tree_path" (defScope s__tree_path) T.f__tree_path cdv A outer s H E) rfl
  exact (mb_cons (ms_set (i := 4) sc__tree_path.nd rfl (.inl rfl) (me_op op_mulAll os_mul (me_lst (ma_cons me_non ma_nil)) (me_var 1)))
    (mb_cons (ms_asg (me_tup (ma_cons (me_var 2) (ma_cons me_int (ma_cons me_bl ma_nil)))) (mg_sub set_list ss_list (me_var 4) (me_var 2)))
    (mb_cons (ms_set (i := 5) sc__tree_path.nd rfl (.inl rfl) (me_lst (ma_cons (me_var 2) ma_nil)))
    (mb_cons (ms_set (i := 6) sc__tree_path.nd rfl (.inl rfl) me_int)
    (mb_cons (ms_while po (mt_cmp (op_ltAll hr.units0) os_lt (me_var 6) (me_callB cl_len cs_lenAll T.b_len (ma_cons (me_var 5) ma_nil)) (nomark _))
      (mb_cons (ms_set (i := 7) sc__tree_path.nd rfl (.inl rfl) (me_ix ix_seq os_ix (me_var 5) (me_var 6)))
    (mb_cons (ms_for po rfl (mi_enum2 T.b_enumerate (me_var 0)) (mg_tup rfl (mgs_cons (mg_var sc__tree_path.nd rfl (.inl rfl)) (mgs_cons (mg_tup rfl (mgs_cons (mg_var sc__tree_path.nd rfl (.inl rfl)) (mgs_cons (mg_var sc__tree_path.nd rfl (.inl rfl)) mgs_nil))) mgs_nil)))
      (mb_cons (ms_if (MW.mt (mw_and (mt_cmp (op_eqD hr.units) os_eq (me_var 9) (me_var 7) (nomark _)) (mw_and1 (mt_cmp op_isN os_is (me_ix ix_seq os_ix (me_var 4) (me_var 10)) me_non (nomark _)))))
      (mb_cons (ms_asg (me_tup (ma_cons (me_var 7) (ma_cons (me_var 8) (ma_cons me_bl ma_nil)))) (mg_sub set_list ss_list (me_var 4) (me_var 10)))
    (mb_one (ms_expr (me_meth PySem.F.plainAttrs_list PySem.F.slot_list_append PySem.F.type_list_append mt_append ms_append (me_var 5) (ma_cons (me_var 10) ma_nil)))))
      mb_nil)
    (mb_one (ms_if (MW.mt (mw_and (mt_cmp (op_eqD hr.units) os_eq (me_var 10) (me_var 7) (nomark _)) (mw_and1 (mt_cmp op_isN os_is (me_ix ix_seq os_ix (me_var 4) (me_var 9)) me_non (nomark _)))))
      (mb_cons (ms_asg (me_tup (ma_cons (me_var 7) (ma_cons (me_var 8) (ma_cons me_bl ma_nil)))) (mg_sub set_list ss_list (me_var 4) (me_var 9)))
    (mb_one (ms_expr (me_meth PySem.F.plainAttrs_list PySem.F.slot_list_append PySem.F.type_list_append mt_append ms_append (me_var 5) (ma_cons (me_var 9) ma_nil)))))
      mb_nil))))
    (mb_one (ms_set (i := 6) sc__tree_path.nd rfl (.inl rfl) (me_op op_addAll os_add (me_var 6) me_int))))))
    (mb_cons (ms_set (i := 11) sc__tree_path.nd rfl (.inl rfl) (me_lst ma_nil))
    (mb_cons (ms_set (i := 7) sc__tree_path.nd rfl (.inl rfl) (me_var 3))
    (mb_cons (ms_while po (mt_cmp (op_neD hr.units) os_ne (me_var 7) (me_var 2) (nomark _))
      (mb_cons (ms_asg (me_ix ix_seq os_ix (me_var 4) (me_var 7)) (mg_tup rfl (mgs_cons (mg_var sc__tree_path.nd rfl (.inl rfl)) (mgs_cons (mg_var sc__tree_path.nd rfl (.inl rfl)) (mgs_cons (mg_var sc__tree_path.nd rfl (.inl rfl)) mgs_nil)))))
    (mb_one (ms_expr (me_meth PySem.F.plainAttrs_list PySem.F.slot_list_append PySem.F.type_list_append mt_append ms_append (me_var 11) (ma_cons (me_tup (ma_cons (me_var 8) (ma_cons (me_var 12) ma_nil))) ma_nil))))))
    (mb_one (ms_ret (me_rev (me_var 11))))))))))))
theorem w_join_reason (T : Txt K mg) : FnOk P w K mg base (L2.CX P w) 2 T.f_join_reason T.fd_join_reason ["perms", "points", "pairs", "i", "j"] (spF K mg 5 c_join_reason) := by
  refine fn_ok (n := 16) (m := m_join_reason) T.d_join_reason.fn sc_join_reason rfl rfl fun cdv A outer s H E hr => ?_
  have tk : Takes (cxOf (L2.CX P w) P w K mg base N_join_reason "join_reason" (defScope s_join_reason) T.f_join_reason cdv A outer s H E) (fun cls d _ H => E cls d H) := takes_of rfl rfl rfl rfl
  have po := passes_of (X := cxOf (L2.CX P w) P w K mg base N_join_reason "join_reason" (defScope s_join_reason) T.f_join_reason cdv A outer s H E) rfl
  exact (mb_cons (ms_set (i := 5) sc_join_reason.nd rfl (.inl rfl) (me_lst ma_nil))
    (mb_cons (ms_set (i := 6) sc_join_reason.nd rfl (.inl rfl) (me_lst ma_nil))
    (mb_cons (ms_set (i := 7) sc_join_reason.nd rfl (.inl rfl) (me_call (w_alone T) (hr.mono (by decide)) T.d_alone.mgf T.d_alone.fn.kp T.d_alone.bd tk (ma_cons (me_var 1) ma_nil)))
    (mb_cons (ms_setLc (i := 8) rfl sc_join_reason.nd rfl rfl (sw_true rfl rfl rfl (by decide +kernel)) (mi_enum2 T.b_enumerate (me_var 2)) (blkOk_by (own := [("q", 9), ("a", 10), ("b", 11)]) (by show blkC N_join_reason (defScope s_join_reason) _ _ = true; decide +kernel)) (fun _ _ _ _ _ => (mgc_nest (K := K) rfl (mgc_var sc_join_reason.nd rfl (.inl rfl) (by decide)) (mgc_var sc_join_reason.nd rfl (.inl rfl) (by decide)) (mgc_var sc_join_reason.nd rfl (.inl rfl) (by decide)))) (fun _ _ _ _ _ => mts_nil) (fun _ _ _ _ _ => (me_tup (ma_cons (me_var 10) (ma_cons (me_var 11) (ma_cons (me_tup (ma_cons me_str (ma_cons (me_var 9) ma_nil))) ma_nil))))))
    (mb_cons (ms_set (i := 12) sc_join_reason.nd rfl (.inl rfl) me_int)
    (mb_cons (ms_while po (MW.mt (mw_and (mt_cmp (op_ltAll hr.units0) os_lt (me_var 12) (me_callB cl_len cs_lenAll T.b_len (ma_cons (me_var 8) ma_nil)) (nomark _)) (mw_and1 (mt_cmp (op_neD hr.units) os_ne (me_ix ix_seq os_ix (me_var 7) (me_var 3)) (me_ix ix_seq os_ix (me_var 7) (me_var 4)) (nomark _)))))
      (mb_cons (ms_asg (me_ix ix_seq os_ix (me_var 8) (me_var 12)) (mg_tup rfl (mgs_cons (mg_var sc_join_reason.nd rfl (.inl rfl)) (mgs_cons (mg_var sc_join_reason.nd rfl (.inl rfl)) (mgs_cons (mg_var sc_join_reason.nd rfl (.inl rfl)) mgs_nil)))))
    (mb_cons (ms_set (i := 12) sc_join_reason.nd rfl (.inl rfl) (me_op op_addAll os_add (me_var 12) me_int))
    (mb_one (ms_if (mt_cmp (op_neD hr.units) os_ne (me_ix ix_seq os_ix (me_var 7) (me_var 10)) (me_ix ix_seq os_ix (me_var 7) (me_var 11)) (nomark _))
      (mb_cons (ms_set (i := 7) sc_join_reason.nd rfl (.inl rfl) (me_call (w_merged T) (hr.mono (by decide)) T.d_merged.mgf T.d_merged.fn.kp T.d_merged.bd tk (ma_cons (me_var 7) (ma_cons (me_var 10) (ma_cons (me_var 11) ma_nil)))))
    (mb_cons (ms_for po rfl (mi_enum2 T.b_enumerate (me_var 0)) (mg_tup rfl (mgs_cons (mg_var sc_join_reason.nd rfl (.inl rfl)) (mgs_cons (mg_var sc_join_reason.nd rfl (.inl rfl)) mgs_nil)))
      (mb_one (ms_expr (me_meth PySem.F.plainAttrs_list PySem.F.slot_list_append PySem.F.type_list_append mt_append ms_append (me_var 8) (ma_cons (me_tup (ma_cons (me_ix ix_seq os_ix (me_var 15) (me_var 10)) (ma_cons (me_ix ix_seq os_ix (me_var 15) (me_var 11)) (ma_cons (me_tup (ma_cons me_str (ma_cons (me_callB cl_len cs_lenAll T.b_len (ma_cons (me_var 5) ma_nil)) (ma_cons (me_var 14) ma_nil)))) ma_nil)))) ma_nil)))))
    (mb_cons (ms_expr (me_meth PySem.F.plainAttrs_list PySem.F.slot_list_append PySem.F.type_list_append mt_append ms_append (me_var 5) (ma_cons (me_var 13) ma_nil)))
    (mb_one (ms_expr (me_meth PySem.F.plainAttrs_list PySem.F.slot_list_append PySem.F.type_list_append mt_append ms_append (me_var 6) (ma_cons (me_tup (ma_cons (me_var 10) (ma_cons (me_var 11) ma_nil))) ma_nil)))))))
      mb_nil)))))
    (mb_cons (ms_if (mt_cmp (op_neD hr.units) os_ne (me_ix ix_seq os_ix (me_var 7) (me_var 3)) (me_ix ix_seq os_ix (me_var 7) (me_var 4)) (nomark _))
      (mb_one (ms_ret me_non))
      mb_nil)
    (mb_one (ms_ret (me_call (w__followed T) (hr.mono (by decide)) T.d__followed.mgf T.d__followed.fn.kp T.d__followed.bd tk (ma_cons (me_var 5) (ma_cons (me_call (w__tree_path T) (hr.mono (by decide)) T.d__tree_path.mgf T.d__tree_path.fn.kp T.d__tree_path.bd tk (ma_cons (me_var 6) (ma_cons (me_var 1) (ma_cons (me_var 3) (ma_cons (me_var 4) ma_nil))))) (ma_cons (me_var 3) ma_nil)))))))))))))
theorem w__pair_of (T : Txt K mg) : FnOk P w K mg base (L2.CX P w) 3 T.f__pair_of T.fd__pair_of ["line", "earlier", "perms", "points", "pairs"] (spF K mg 5 c__pair_of) := by
  refine fn_ok (n := 10) (m := m__pair_of) T.d__pair_of.fn sc__pair_of rfl rfl fun cdv A outer s H E hr => ?_
  have tk : Takes (cxOf (L2.CX P w) P w K mg base N__pair_of "_pair_of" (defScope s__pair_of) T.f__pair_of cdv A outer s H E) (fun cls d _ H => E cls d H) := takes_of rfl rfl rfl rfl
  have po := passes_of (X := cxOf (L2.CX P w) P w K mg base N__pair_of "_pair_of" (defScope s__pair_of) T.f__pair_of cdv A outer s H E) rfl
  exact (mb_cons (ms_if (mt_truth ts_truth (me_call (w_is_row T) (hr.mono (by decide)) T.d_is_row.mgf T.d_is_row.fn.kp T.d_is_row.bd tk (ma_cons (me_var 0) (ma_cons me_int ma_nil))))
      (mb_cons (ms_asg (me_var 0) (mg_tup rfl (mgs_cons (mg_var sc__pair_of.nd rfl (.inl rfl)) (mgs_cons (mg_var sc__pair_of.nd rfl (.inl rfl)) mgs_nil))))
    (mb_cons (ms_if (MW.mt (mw_and (mt_cmp (op_eqD hr.units) os_eq (me_var 5) me_str (nomark _)) (mw_and1 (mt_truth ts_truth (me_call (w_is_index T) (hr.mono (by decide)) T.d_is_index.mgf T.d_is_index.fn.kp T.d_is_index.bd tk (ma_cons (me_var 6) (ma_cons (me_var 3) ma_nil)))))))
      (mb_one (ms_ret (me_tup (ma_cons (me_var 6) (ma_cons (me_var 6) ma_nil)))))
      mb_nil)
    (mb_cons (ms_if (MW.mt (mw_and (mt_cmp (op_eqD hr.units) os_eq (me_var 5) me_str (nomark _)) (mw_and1 (mt_truth ts_truth (me_call (w_is_index T) (hr.mono (by decide)) T.d_is_index.mgf T.d_is_index.fn.kp T.d_is_index.bd tk (ma_cons (me_var 6) (ma_cons (me_callB cl_len cs_lenAll T.b_len (ma_cons (me_var 4) ma_nil)) ma_nil)))))))
      (mb_one (ms_ret (me_ix ix_seq os_ix (me_var 4) (me_var 6))))
      mb_nil)
    (mb_cons (ms_if (MW.mt (mw_and (mt_cmp (op_eqD hr.units) os_eq (me_var 5) me_str (nomark _)) (mw_and1 (mt_truth ts_truth (me_call (w_is_index T) (hr.mono (by decide)) T.d_is_index.mgf T.d_is_index.fn.kp T.d_is_index.bd tk (ma_cons (me_var 6) (ma_cons (me_callB cl_len cs_lenAll T.b_len (ma_cons (me_var 1) ma_nil)) ma_nil)))))))
      (mb_cons (ms_asg (me_ix ix_seq os_ix (me_var 1) (me_var 6)) (mg_tup rfl (mgs_cons (mg_var sc__pair_of.nd rfl (.inl rfl)) (mgs_cons (mg_var sc__pair_of.nd rfl (.inl rfl)) mgs_nil))))
    (mb_one (ms_ret (me_tup (ma_cons (me_var 8) (ma_cons (me_var 7) ma_nil))))))
      mb_nil)
    (mb_one (ms_ret me_non))))))
      mb_nil)
    (mb_cons (ms_if (mt_not (mt_truth ts_truth (me_call (w_is_row T) (hr.mono (by decide)) T.d_is_row.mgf T.d_is_row.fn.kp T.d_is_row.bd tk (ma_cons (me_var 0) (ma_cons me_int ma_nil)))))
      (mb_one (ms_ret me_non))
      mb_nil)
    (mb_cons (ms_asg (me_var 0) (mg_tup rfl (mgs_cons (mg_var sc__pair_of.nd rfl (.inl rfl)) (mgs_cons (mg_var sc__pair_of.nd rfl (.inl rfl)) (mgs_cons (mg_var sc__pair_of.nd rfl (.inl rfl)) mgs_nil)))))
    (mb_cons (ms_if (mt_not (mt_truth ts_truth (me_call (w_is_index T) (hr.mono (by decide)) T.d_is_index.mgf T.d_is_index.fn.kp T.d_is_index.bd tk (ma_cons (me_var 6) (ma_cons (me_callB cl_len cs_lenAll T.b_len (ma_cons (me_var 1) ma_nil)) ma_nil)))))
      (mb_one (ms_ret me_non))
      mb_nil)
    (mb_cons (ms_asg (me_ix ix_seq os_ix (me_var 1) (me_var 6)) (mg_tup rfl (mgs_cons (mg_var sc__pair_of.nd rfl (.inl rfl)) (mgs_cons (mg_var sc__pair_of.nd rfl (.inl rfl)) mgs_nil))))
    (mb_cons (ms_if (MW.mt (mw_and (mt_cmp (op_eqD hr.units) os_eq (me_var 5) me_str (nomark _)) (mw_and1 (mt_truth ts_truth (me_call (w_is_index T) (hr.mono (by decide)) T.d_is_index.mgf T.d_is_index.fn.kp T.d_is_index.bd tk (ma_cons (me_var 9) (ma_cons (me_callB cl_len cs_lenAll T.b_len (ma_cons (me_var 2) ma_nil)) ma_nil)))))))
      (mb_one (ms_ret (me_tup (ma_cons (me_ix ix_seq os_ix (me_ix ix_seq os_ix (me_var 2) (me_var 9)) (me_var 7)) (ma_cons (me_ix ix_seq os_ix (me_ix ix_seq os_ix (me_var 2) (me_var 9)) (me_var 8)) ma_nil)))))
      mb_nil)
    (mb_cons (ms_if (MW.mt (mw_and (mt_cmp (op_eqD hr.units) os_eq (me_var 5) me_str (nomark _)) (mw_and (mt_truth ts_truth (me_call (w_is_index T) (hr.mono (by decide)) T.d_is_index.mgf T.d_is_index.fn.kp T.d_is_index.bd tk (ma_cons (me_var 9) (ma_cons (me_callB cl_len cs_lenAll T.b_len (ma_cons (me_var 1) ma_nil)) ma_nil)))) (mw_and1 (mt_cmp (op_eqD hr.units) os_eq (me_ix ix_seq os_ix (me_ix ix_seq os_ix (me_var 1) (me_var 9)) me_int) (me_var 8) (nomark _))))))
      (mb_one (ms_ret (me_tup (ma_cons (me_var 7) (ma_cons (me_ix ix_seq os_ix (me_ix ix_seq os_ix (me_var 1) (me_var 9)) me_int) ma_nil)))))
      mb_nil)
    (mb_one (ms_ret me_non)))))))))
theorem w_shows_joined (T : Txt K mg) : FnOk P w K mg base (L2.CX P w) 4 T.f_shows_joined T.fd_shows_joined ["perms", "points", "pairs", "i", "j", "reason"] (spF K mg 6 c_shows_joined) := by
  refine fn_ok (n := 9) (m := m_shows_joined) T.d_shows_joined.fn sc_shows_joined rfl rfl fun cdv A outer s H E hr => ?_
  have tk : Takes (cxOf (L2.CX P w) P w K mg base N_shows_joined "shows_joined" (defScope s_shows_joined) T.f_shows_joined cdv A outer s H E) (fun cls d _ H => E cls d H) := takes_of rfl rfl rfl rfl
  have po := passes_of (X := cxOf (L2.CX P w) P w K mg base N_shows_joined "shows_joined" (defScope s_shows_joined) T.f_shows_joined cdv A outer s H E) rfl
  exact (mb_cons (ms_if (MW.mt (mw_or (mt_not (mt_truth ts_truth (me_callB call_isi cs_isi T.b_isinstance (ma_cons (me_var 5) (ma_cons (me_ty T.b_tuple) ma_nil))))) (mw_or1 (mt_cmp (op_eqD hr.units) os_eq (me_callB cl_len cs_lenAll T.b_len (ma_cons (me_var 5) ma_nil)) me_int (nomark _)))))
      (mb_one (ms_ret me_bl))
      mb_nil)
    (mb_cons (ms_set (i := 6) sc_shows_joined.nd rfl (.inl rfl) (me_lst ma_nil))
    (mb_cons (ms_for po rfl (mi_val (me_var 5)) (mg_var sc_shows_joined.nd rfl (.inl rfl))
      (mb_cons (ms_set (i := 8) sc_shows_joined.nd rfl (.inl rfl) (me_call (w__pair_of T) (hr.mono (by decide)) T.d__pair_of.mgf T.d__pair_of.fn.kp T.d__pair_of.bd tk (ma_cons (me_var 7) (ma_cons (me_var 6) (ma_cons (me_var 0) (ma_cons (me_var 1) (ma_cons (me_var 2) ma_nil)))))))
    (mb_cons (ms_if (mt_cmp op_isN os_is (me_var 8) me_non (nomark _))
      (mb_one (ms_ret me_bl))
      mb_nil)
    (mb_one (ms_expr (me_meth PySem.F.plainAttrs_list PySem.F.slot_list_append PySem.F.type_list_append mt_append ms_append (me_var 6) (ma_cons (me_var 8) ma_nil)))))))
    (mb_one (ms_ret (me_cmp (op_eqD hr.units) os_eq (me_ix ix_seq os_ix (me_var 6) (me_un un_neg us_neg me_int)) (me_tup (ma_cons (me_var 3) (ma_cons (me_var 4) ma_nil))) (nomark _)))))))
theorem w_shows_parted (T : Txt K mg) : FnOk P w K mg base (L2.CX P w) 4 T.f_shows_parted T.fd_shows_parted ["perms", "points", "pairs", "i", "j", "labels"] (spF K mg 6 c_shows_parted) := by
  refine fn_ok (n := 8) (m := m_shows_parted) T.d_shows_parted.fn sc_shows_parted rfl rfl fun cdv A outer s H E hr => ?_
  have tk : Takes (cxOf (L2.CX P w) P w K mg base N_shows_parted "shows_parted" (defScope s_shows_parted) T.f_shows_parted cdv A outer s H E) (fun cls d _ H => E cls d H) := takes_of rfl rfl rfl rfl
  have po := passes_of (X := cxOf (L2.CX P w) P w K mg base N_shows_parted "shows_parted" (defScope s_shows_parted) T.f_shows_parted cdv A outer s H E) rfl
  exact (mb_cons (ms_if (MW.mt (mw_or (mt_not (mt_truth ts_truth (me_call (w_is_labels T) (hr.mono (by decide)) T.d_is_labels.mgf T.d_is_labels.fn.kp T.d_is_labels.bd tk (ma_cons (me_var 5) (ma_cons (me_var 1) ma_nil))))) (mw_or1 (mt_cmp op_notN os_isNot (me_call (w_broken T) (hr.mono (by decide)) T.d_broken.mgf T.d_broken.fn.kp T.d_broken.bd tk (ma_cons (me_var 5) (ma_cons (me_var 0) ma_nil))) me_non (nomark _)))))
      (mb_one (ms_ret me_bl))
      mb_nil)
    (mb_cons (ms_if (mt_cmp (op_eqD hr.units) os_eq (me_ix ix_seq os_ix (me_var 5) (me_var 3)) (me_ix ix_seq os_ix (me_var 5) (me_var 4)) (nomark _))
      (mb_one (ms_ret me_bl))
      mb_nil)
    (mb_one (ms_ret (me_callB (cr_all rfl) cs_all T.b_all (ma_cons (me_lc rfl sc_shows_parted.nd (mi_val (me_var 2)) (blkOk_by (own := [("a", 6), ("b", 7)]) (by show blkC N_shows_parted (defScope s_shows_parted) _ _ = true; decide +kernel)) (fun _ _ _ _ _ => (mgc_tupK (K := K) rfl (mgcs_cons (mgc_var sc_shows_parted.nd rfl (.inl rfl) (by decide)) (mgcs_cons (mgc_var sc_shows_parted.nd rfl (.inl rfl) (by decide)) mgcs_nil (mono := mono_name)) (mono := mono_name)))) (fun _ _ _ _ _ => mts_nil) (fun _ _ _ _ _ => (me_cmp (op_eqD hr.units) os_eq (me_ix ix_seq os_ix (me_var 5) (me_var 6)) (me_ix ix_seq os_ix (me_var 5) (me_var 7)) (nomark _)))) ma_nil))))))
theorem w__law_cell (T : Txt K mg) : FnOk P w K mg base (L2.CX P w) 1 T.f__law_cell T.fd__law_cell ["script", "k"] (spF K mg 2 c__law_cell) := by
  refine fn_ok (n := 3) (m := m__law_cell) T.d__law_cell.fn sc__law_cell rfl rfl fun cdv A outer s H E hr => ?_
  have tk : Takes (cxOf (L2.CX P w) P w K mg base N__law_cell "_law_cell" (defScope s__law_cell) T.f__law_cell cdv A outer s H E) (fun cls d _ H => E cls d H) := takes_of rfl rfl rfl rfl
  have po := passes_of (X := cxOf (L2.CX P w) P w K mg base N__law_cell "_law_cell" (defScope s__law_cell) T.f__law_cell cdv A outer s H E) rfl
  exact (mb_cons (ms_set (i := 2) sc__law_cell.nd rfl (.inl rfl) (me_slice (me_var 0) mo_none (mo_some me_int)))
    (mb_cons (ms_if (mt_cmp (op_ltAll hr.units0) os_lt (me_var 1) (me_callB cl_len cs_lenAll T.b_len (ma_cons (me_var 2) ma_nil)) (nomark _))
      (mb_one (ms_ret (me_op op_mod os_mod (me_callTy call_int1 cs_int T.b_int (ma_cons (me_ix ix_seq os_ix (me_var 2) (me_var 1)) ma_nil)) (me_op op_pow os_pow me_int me_int))))
      mb_nil)
    (mb_one (ms_ret (me_op op_mod os_mod (me_callTy call_int1 cs_int T.b_int (ma_cons (me_op op_addAll os_add (me_op op_mulAll os_mul (me_op op_mod os_mod (me_callTy call_int1 cs_int T.b_int (ma_cons (me_callB (cr_sum rfl) cs_sum T.b_sum (ma_cons (me_var 2) ma_nil)) ma_nil)) me_int) me_int) (me_op op_mulAll os_mul me_int (me_var 1))) ma_nil)) (me_op op_pow os_pow me_int me_int))))))
theorem w__law_bag (T : Txt K mg) : FnOk P w K mg base (L2.CX P w) 2 T.f__law_bag T.fd__law_bag ["script", "k"] (spF K mg 2 c__law_bag) := by
  refine fn_ok (n := 3) (m := m__law_bag) T.d__law_bag.fn sc__law_bag rfl rfl fun cdv A outer s H E hr => ?_
  have tk : Takes (cxOf (L2.CX P w) P w K mg base N__law_bag "_law_bag" (defScope s__law_bag) T.f__law_bag cdv A outer s H E) (fun cls d _ H => E cls d H) := takes_of rfl rfl rfl rfl
  have po := passes_of (X := cxOf (L2.CX P w) P w K mg base N__law_bag "_law_bag" (defScope s__law_bag) T.f__law_bag cdv A outer s H E) rfl
  exact (mb_cons (ms_set (i := 2) sc__law_bag.nd rfl (.inl rfl) (me_call (w__law_cell T) (hr.mono (by decide)) T.d__law_cell.mgf T.d__law_cell.fn.kp T.d__law_cell.bd tk (ma_cons (me_var 0) (ma_cons (me_var 1) ma_nil))))
    (mb_one (ms_ret (me_lst (ma_cons (me_var 2) (ma_cons (me_var 2) (ma_cons (me_op op_mulAll os_mul me_int (me_var 1)) ma_nil)))))))
theorem w__law_take (T : Txt K mg) : FnOk P w K mg base (L2.CX P w) 1 T.f__law_take T.fd__law_take ["bag", "size"] (spF K mg 2 c__law_take) := by
  refine fn_ok (n := 4) (m := m__law_take) T.d__law_take.fn sc__law_take rfl rfl fun cdv A outer s H E hr => ?_
  have tk : Takes (cxOf (L2.CX P w) P w K mg base N__law_take "_law_take" (defScope s__law_take) T.f__law_take cdv A outer s H E) (fun cls d _ H => E cls d H) := takes_of rfl rfl rfl rfl
  have po := passes_of (X := cxOf (L2.CX P w) P w K mg base N__law_take "_law_take" (defScope s__law_take) T.f__law_take cdv A outer s H E) rfl
  exact (mb_cons (ms_asg (me_op op_addAll os_add (me_ix ix_seq os_ix (me_var 0) me_int) me_int) (mg_sub set_list ss_list (me_var 0) me_int))
    (mb_cons (ms_if (MW.mt (mw_and (mt_cmp op_ge os_ge (me_ix ix_seq os_ix (me_var 0) me_int) (me_op op_pow os_pow me_int me_int) (nomark _)) (mw_and1 (mt_cmp op_gt os_gt (me_ix ix_seq os_ix (me_var 0) me_int) me_int (nomark _)))))
      (mb_cons (ms_set (i := 2) sc__law_take.nd rfl (.inl rfl) (me_op op_mod os_mod (me_callTy call_int1 cs_int T.b_int (ma_cons (me_ix ix_seq os_ix (me_var 0) me_int) ma_nil)) (me_var 1)))
    (mb_cons (ms_asg (me_op op_fdivW os_div (me_ix ix_seq os_ix (me_var 0) me_int) (me_var 1)) (mg_sub set_list ss_list (me_var 0) me_int))
    (mb_one (ms_ret (me_var 2)))))
      mb_nil)
    (mb_cons (ms_set (i := 3) sc__law_take.nd rfl (.inl rfl) (me_op op_mod os_mod (me_callTy call_int1 cs_int T.b_int (ma_cons (me_op op_mulAll os_mul (me_op op_addAll os_add (me_ix ix_seq os_ix (me_var 0) me_int) (me_op op_mulAll os_mul me_int (me_ix ix_seq os_ix (me_var 0) me_int))) me_int) ma_nil)) me_int))
    (mb_cons (ms_set (i := 3) sc__law_take.nd rfl (.inl rfl) (me_op op_mod os_mod (me_callTy call_int1 cs_int T.b_int (ma_cons (me_op op_mulAll os_mul (me_op op_addAll os_add (me_op op_fdivW os_div (me_var 3) me_int) (me_op op_mulAll os_mul me_int (me_ix ix_seq os_ix (me_var 0) me_int))) me_int) ma_nil)) me_int))
    (mb_one (ms_ret (me_op op_mod os_mod (me_callTy call_int1 cs_int T.b_int (ma_cons (me_op op_fdivW os_div (me_var 3) me_int) ma_nil)) (me_var 1))))))))
theorem w__law_shuffled (T : Txt K mg) : FnOk P w K mg base (L2.CX P w) 2 T.f__law_shuffled T.fd__law_shuffled ["bag", "many"] (spF K mg 2 c__law_shuffled) := by
  refine fn_ok (n := 6) (m := m__law_shuffled) T.d__law_shuffled.fn sc__law_shuffled rfl rfl fun cdv A outer s H E hr => ?_
  have tk : Takes (cxOf (L2.CX P w) P w K mg base N__law_shuffled "_law_shuffled" (defScope s__law_shuffled) T.f__law_shuffled cdv A outer s H E) (fun cls d _ H => E cls d H) := takes_of rfl rfl rfl rfl
  have po := passes_of (X := cxOf (L2.CX P w) P w K mg base N__law_shuffled "_law_shuffled" (defScope s__law_shuffled) T.f__law_shuffled cdv A outer s H E) rfl
  exact (mb_cons (ms_set (i := 2) sc__law_shuffled.nd rfl (.inl rfl) (me_listRg1 rfl T.b_list T.b_range (me_var 1)))
    (mb_cons (ms_for po rfl (mi_range1 T.b_range (ma_cons (me_op op_sub os_sub (me_var 1) me_int) ma_nil)) (mg_var sc__law_shuffled.nd rfl (.inl rfl))
      (mb_cons (ms_set (i := 4) sc__law_shuffled.nd rfl (.inl rfl) (me_op op_addAll os_add (me_var 3) (me_call (w__law_take T) (hr.mono (by decide)) T.d__law_take.mgf T.d__law_take.fn.kp T.d__law_take.bd tk (ma_cons (me_var 0) (ma_cons (me_op op_sub os_sub (me_var 1) (me_var 3)) ma_nil)))))
    (mb_cons (ms_set (i := 5) sc__law_shuffled.nd rfl (.inl rfl) (me_ix ix_seq os_ix (me_var 2) (me_var 3)))
    (mb_cons (ms_asg (me_ix ix_seq os_ix (me_var 2) (me_var 4)) (mg_sub set_list ss_list (me_var 2) (me_var 3)))
    (mb_one (ms_asg (me_var 5) (mg_sub set_list ss_list (me_var 2) (me_var 4))))))))
    (mb_one (ms_ret (me_var 2)))))
theorem w__law_is_whole (T : Txt K mg) : FnOk P w K mg base (L2.CX P w) 1 T.f__law_is_whole T.fd__law_is_whole ["value"] (spF K mg 1 c__law_is_whole) := by
  refine fn_ok (n := 1) (m := m__law_is_whole) T.d__law_is_whole.fn sc__law_is_whole rfl rfl fun cdv A outer s H E hr => ?_
  have tk : Takes (cxOf (L2.CX P w) P w K mg base N__law_is_whole "_law_is_whole" (defScope s__law_is_whole) T.f__law_is_whole cdv A outer s H E) (fun cls d _ H => E cls d H) := takes_of rfl rfl rfl rfl
  have po := passes_of (X := cxOf (L2.CX P w) P w K mg base N__law_is_whole "_law_is_whole" (defScope s__law_is_whole) T.f__law_is_whole cdv A outer s H E) rfl
  exact (mb_one (ms_ret (me_and (me_callB call_isi cs_isi T.b_isinstance (ma_cons (me_var 0) (ma_cons (me_ty T.b_int) ma_nil))) (me_one (me_not (me_callB call_isi cs_isi T.b_isinstance (ma_cons (me_var 0) (ma_cons (me_ty T.b_bool) ma_nil))))))))
theorem w__law_is_truth (T : Txt K mg) : FnOk P w K mg base (L2.CX P w) 1 T.f__law_is_truth T.fd__law_is_truth ["actual", "due"] (spF K mg 2 c__law_is_truth) := by
  refine fn_ok (n := 2) (m := m__law_is_truth) T.d__law_is_truth.fn sc__law_is_truth rfl rfl fun cdv A outer s H E hr => ?_
  have tk : Takes (cxOf (L2.CX P w) P w K mg base N__law_is_truth "_law_is_truth" (defScope s__law_is_truth) T.f__law_is_truth cdv A outer s H E) (fun cls d _ H => E cls d H) := takes_of rfl rfl rfl rfl
  have po := passes_of (X := cxOf (L2.CX P w) P w K mg base N__law_is_truth "_law_is_truth" (defScope s__law_is_truth) T.f__law_is_truth cdv A outer s H E) rfl
  exact (mb_one (ms_ret (me_and (me_callB call_isi cs_isi T.b_isinstance (ma_cons (me_var 0) (ma_cons (me_ty T.b_bool) ma_nil))) (me_one (me_cmp (op_eqD hr.units) os_eq (me_var 0) (me_var 1) (nomark _))))))
theorem w__law_is_row (T : Txt K mg) : FnOk P w K mg base (L2.CX P w) 2 T.f__law_is_row T.fd__law_is_row ["actual", "due"] (spF K mg 2 c__law_is_row) := by
  refine fn_ok (n := 3) (m := m__law_is_row) T.d__law_is_row.fn sc__law_is_row rfl rfl fun cdv A outer s H E hr => ?_
  have tk : Takes (cxOf (L2.CX P w) P w K mg base N__law_is_row "_law_is_row" (defScope s__law_is_row) T.f__law_is_row cdv A outer s H E) (fun cls d _ H => E cls d H) := takes_of rfl rfl rfl rfl
  have po := passes_of (X := cxOf (L2.CX P w) P w K mg base N__law_is_row "_law_is_row" (defScope s__law_is_row) T.f__law_is_row cdv A outer s H E) rfl
  exact (mb_cons (ms_if (MW.mt (mw_or (mt_not (mt_truth ts_truth (me_callB call_isi cs_isi T.b_isinstance (ma_cons (me_var 0) (ma_cons (me_ty T.b_tuple) ma_nil))))) (mw_or1 (mt_cmp (op_neD hr.units) os_ne (me_callB cl_len cs_lenAll T.b_len (ma_cons (me_var 0) ma_nil)) (me_callB cl_len cs_lenAll T.b_len (ma_cons (me_var 1) ma_nil)) (nomark _)))))
      (mb_one (ms_ret me_bl))
      mb_nil)
    (mb_cons (ms_for po rfl (mi_range1 T.b_range (ma_cons (me_callB cl_len cs_lenAll T.b_len (ma_cons (me_var 1) ma_nil)) ma_nil)) (mg_var sc__law_is_row.nd rfl (.inl rfl))
      (mb_one (ms_if (MW.mt (mw_or (mt_not (mt_truth ts_truth (me_call (w__law_is_whole T) (hr.mono (by decide)) T.d__law_is_whole.mgf T.d__law_is_whole.fn.kp T.d__law_is_whole.bd tk (ma_cons (me_ix ix_seq os_ix (me_var 0) (me_var 2)) ma_nil)))) (mw_or1 (mt_cmp (op_neD hr.units) os_ne (me_ix ix_seq os_ix (me_var 0) (me_var 2)) (me_ix ix_seq os_ix (me_var 1) (me_var 2)) (nomark _)))))
      (mb_one (ms_ret me_bl))
      mb_nil)))
    (mb_one (ms_ret me_bl))))
theorem w__law_partition (T : Txt K mg) : FnOk P w K mg base (L2.CX P w) 2 T.f__law_partition T.fd__law_partition ["bag", "points"] (spF K mg 2 c__law_partition) := by
  refine fn_ok (n := 7) (m := m__law_partition) T.d__law_partition.fn sc__law_partition rfl rfl fun cdv A outer s H E hr => ?_
  have tk : Takes (cxOf (L2.CX P w) P w K mg base N__law_partition "_law_partition" (defScope s__law_partition) T.f__law_partition cdv A outer s H E) (fun cls d _ H => E cls d H) := takes_of rfl rfl rfl rfl
  have po := passes_of (X := cxOf (L2.CX P w) P w K mg base N__law_partition "_law_partition" (defScope s__law_partition) T.f__law_partition cdv A outer s H E) rfl
  exact (mb_cons (ms_set (i := 2) sc__law_partition.nd rfl (.inl rfl) (me_call (w__law_take T) (hr.mono (by decide)) T.d__law_take.mgf T.d__law_take.fn.kp T.d__law_take.bd tk (ma_cons (me_var 0) (ma_cons me_int ma_nil))))
    (mb_cons (ms_set (i := 3) sc__law_partition.nd rfl (.inl rfl) (me_op op_addAll os_add me_int (me_call (w__law_take T) (hr.mono (by decide)) T.d__law_take.mgf T.d__law_take.fn.kp T.d__law_take.bd tk (ma_cons (me_var 0) (ma_cons (me_var 1) ma_nil)))))
    (mb_cons (ms_set (i := 4) sc__law_partition.nd rfl (.inl rfl) (me_lst ma_nil))
    (mb_cons (ms_for po rfl (mi_range1 T.b_range (ma_cons (me_var 1) ma_nil)) (mg_var sc__law_partition.nd rfl (.inl rfl))
      (mb_cons (ms_set (i := 6) sc__law_partition.nd rfl (.inl rfl) (me_call (w__law_take T) (hr.mono (by decide)) T.d__law_take.mgf T.d__law_take.fn.kp T.d__law_take.bd tk (ma_cons (me_var 0) (ma_cons (me_op op_addAll os_add (me_var 5) me_int) ma_nil))))
    (mb_cons (ms_if (MW.mt (mw_and (mt_cmp (op_eqD hr.units) os_eq (me_var 2) me_int (nomark _)) (mw_and1 (mt_cmp (op_eqD hr.units) os_eq (me_call (w__law_take T) (hr.mono (by decide)) T.d__law_take.mgf T.d__law_take.fn.kp T.d__law_take.bd tk (ma_cons (me_var 0) (ma_cons me_int ma_nil))) me_int (nomark _)))))
      (mb_one (ms_set (i := 6) sc__law_partition.nd rfl (.inl rfl) (me_var 5)))
      mb_nil)
    (mb_cons (ms_if (mt_cmp (op_eqD hr.units) os_eq (me_var 2) me_int (nomark _))
      (mb_one (ms_set (i := 6) sc__law_partition.nd rfl (.inl rfl) (me_op op_sub os_sub (me_var 5) (me_op op_mod os_mod (me_callTy call_int1 cs_int T.b_int (ma_cons (me_var 5) ma_nil)) (me_var 3)))))
      mb_nil)
    (mb_cons (ms_if (mt_cmp (op_eqD hr.units) os_eq (me_var 2) me_int (nomark _))
      (mb_one (ms_set (i := 6) sc__law_partition.nd rfl (.inl rfl) (me_op op_mod os_mod (me_callTy call_int1 cs_int T.b_int (ma_cons (me_var 5) ma_nil)) (me_var 3))))
      mb_nil)
    (mb_cons (ms_if (mt_cmp (op_ltAll hr.units0) os_lt (me_var 6) (me_var 5) (nomark _))
      (mb_one (ms_set (i := 6) sc__law_partition.nd rfl (.inl rfl) (me_ix ix_seq os_ix (me_var 4) (me_var 6))))
      mb_nil)
    (mb_one (ms_expr (me_meth PySem.F.plainAttrs_list PySem.F.slot_list_append PySem.F.type_list_append mt_append ms_append (me_var 4) (ma_cons (me_var 6) ma_nil))))))))))
    (mb_one (ms_ret (me_callTy call_tuple_of cs_tuple T.b_tuple (ma_cons (me_var 4) ma_nil))))))))
theorem w__law_classes (T : Txt K mg) : FnOk P w K mg base (L2.CX P w) 1 T.f__law_classes T.fd__law_classes ["labels"] (spF K mg 1 c__law_classes) := by
  refine fn_ok (n := 4) (m := m__law_classes) T.d__law_classes.fn sc__law_classes rfl rfl fun cdv A outer s H E hr => ?_
  have tk : Takes (cxOf (L2.CX P w) P w K mg base N__law_classes "_law_classes" (defScope s__law_classes) T.f__law_classes cdv A outer s H E) (fun cls d _ H => E cls d H) := takes_of rfl rfl rfl rfl
  have po := passes_of (X := cxOf (L2.CX P w) P w K mg base N__law_classes "_law_classes" (defScope s__law_classes) T.f__law_classes cdv A outer s H E) rfl
  exact (mb_cons (ms_set (i := 1) sc__law_classes.nd rfl (.inl rfl) (me_lst ma_nil))
    (mb_cons (ms_for po rfl (mi_range1 T.b_range (ma_cons (me_callB cl_len cs_lenAll T.b_len (ma_cons (me_var 0) ma_nil)) ma_nil)) (mg_var sc__law_classes.nd rfl (.inr rfl))
      (mb_one (ms_if (mt_cmp (op_eqD hr.units) os_eq (me_ix ix_seq os_ix (me_var 0) (me_var 2)) (me_var 2) (nomark _))
      (mb_one (ms_expr (me_meth PySem.F.plainAttrs_list PySem.F.slot_list_append PySem.F.type_list_append mt_append ms_append (me_var 1) (ma_cons (me_callTy call_tuple_of cs_tuple T.b_tuple (ma_cons (me_lc rfl sc__law_classes.nd (mi_range1 T.b_range (ma_cons (me_callB cl_len cs_lenAll T.b_len (ma_cons (me_var 0) ma_nil)) ma_nil)) (blkOk_by (own := [("k", 3)]) (by show blkC N__law_classes (defScope s__law_classes) _ _ = true; decide +kernel)) (fun _ _ _ _ _ => (mgc_var sc__law_classes.nd rfl (.inl rfl) (by decide))) (fun _ _ _ _ _ => (mts_one (mt_cmp (op_eqD hr.units) os_eq (me_ix ix_seq os_ix (me_var 0) (me_var 3)) (me_var 2) (nomark _)))) (fun _ _ _ _ _ => (me_var 3))) ma_nil)) ma_nil))))
      mb_nil)))
    (mb_one (ms_ret (me_var 1)))))
theorem w__law_keeping (T : Txt K mg) : FnOk P w K mg base (L2.CX P w) 3 T.f__law_keeping T.fd__law_keeping ["bag", "labels"] (spF K mg 2 c__law_keeping) := by
  refine fn_ok (n := 11) (m := m__law_keeping) T.d__law_keeping.fn sc__law_keeping rfl rfl fun cdv A outer s H E hr => ?_
  have tk : Takes (cxOf (L2.CX P w) P w K mg base N__law_keeping "_law_keeping" (defScope s__law_keeping) T.f__law_keeping cdv A outer s H E) (fun cls d _ H => E cls d H) := takes_of rfl rfl rfl rfl
  have po := passes_of (X := cxOf (L2.CX P w) P w K mg base N__law_keeping "_law_keeping" (defScope s__law_keeping) T.f__law_keeping cdv A outer s H E) rfl
  exact (mb_cons (ms_set (i := 2) sc__law_keeping.nd rfl (.inr rfl) (me_call (w__law_classes T) (hr.mono (by decide)) T.d__law_classes.mgf T.d__law_classes.fn.kp T.d__law_classes.bd tk (ma_cons (me_var 1) ma_nil)))
    (mb_cons (ms_set (i := 3) sc__law_keeping.nd rfl (.inl rfl) (me_op op_mulAll os_mul (me_lst (ma_cons me_int ma_nil)) (me_callB cl_len cs_lenAll T.b_len (ma_cons (me_var 1) ma_nil))))
    (mb_cons (ms_set (i := 4) sc__law_keeping.nd rfl (.inr rfl) (me_lst ma_nil))
    (mb_cons (ms_for po rfl (mi_val (me_var 2)) (mg_var sc__law_keeping.nd rfl (.inr rfl))
      (mb_cons (ms_setLc (i := 6) rfl sc__law_keeping.nd rfl rfl (sw_true rfl rfl rfl (by decide +kernel)) (mi_range1 T.b_range (ma_cons (me_callB cl_len cs_lenAll T.b_len (ma_cons (me_var 2) ma_nil)) ma_nil)) (blkOk_by (own := [("x", 10)]) (by show blkC N__law_keeping (defScope s__law_keeping) _ _ = true; decide +kernel)) (fun _ _ _ _ _ => (mgc_var sc__law_keeping.nd rfl (.inl rfl) (by decide))) (fun _ _ _ _ _ => (mts_one (MW.mt (mw_and (mt_cmp (op_notIn2 (units65 hr)) os_notIn2 (me_var 10) (me_var 4) rfl) (mw_and1 (mt_cmp (op_eqD hr.units) os_eq (me_callB cl_len cs_lenAll T.b_len (ma_cons (me_ix ix_seq os_ix (me_var 2) (me_var 10)) ma_nil)) (me_callB cl_len cs_lenAll T.b_len (ma_cons (me_var 5) ma_nil)) (nomark _))))))) (fun _ _ _ _ _ => (me_var 10)))
    (mb_cons (ms_set (i := 7) sc__law_keeping.nd rfl (.inl rfl) (me_ix ix_seq os_ix (me_var 6) (me_call (w__law_take T) (hr.mono (by decide)) T.d__law_take.mgf T.d__law_take.fn.kp T.d__law_take.bd tk (ma_cons (me_var 0) (ma_cons (me_callB cl_len cs_lenAll T.b_len (ma_cons (me_var 6) ma_nil)) ma_nil)))))
    (mb_cons (ms_expr (me_meth PySem.F.plainAttrs_list PySem.F.slot_list_append PySem.F.type_list_append mt_append ms_append (me_var 4) (ma_cons (me_var 7) ma_nil)))
    (mb_cons (ms_set (i := 8) sc__law_keeping.nd rfl (.inl rfl) (me_call (w__law_shuffled T) (hr.mono (by decide)) T.d__law_shuffled.mgf T.d__law_shuffled.fn.kp T.d__law_shuffled.bd tk (ma_cons (me_var 0) (ma_cons (me_callB cl_len cs_lenAll T.b_len (ma_cons (me_var 5) ma_nil)) ma_nil))))
    (mb_one (ms_for po rfl (mi_range1 T.b_range (ma_cons (me_callB cl_len cs_lenAll T.b_len (ma_cons (me_var 5) ma_nil)) ma_nil)) (mg_var sc__law_keeping.nd rfl (.inl rfl))
      (mb_one (ms_asg (me_ix ix_seq os_ix (me_ix ix_seq os_ix (me_var 2) (me_var 7)) (me_ix ix_seq os_ix (me_var 8) (me_var 9))) (mg_sub set_list ss_list (me_var 3) (me_ix ix_seq os_ix (me_var 5) (me_var 9))))))))))))
    (mb_one (ms_ret (me_var 3)))))))
theorem w__law_moving (T : Txt K mg) : FnOk P w K mg base (L2.CX P w) 4 T.f__law_moving T.fd__law_moving ["bag", "labels", "strict"] (spF K mg 3 c__law_moving) := by
  refine fn_ok (n := 8) (m := m__law_moving) T.d__law_moving.fn sc__law_moving rfl rfl fun cdv A outer s H E hr => ?_
  have tk : Takes (cxOf (L2.CX P w) P w K mg base N__law_moving "_law_moving" (defScope s__law_moving) T.f__law_moving cdv A outer s H E) (fun cls d _ H => E cls d H) := takes_of rfl rfl rfl rfl
  have po := passes_of (X := cxOf (L2.CX P w) P w K mg base N__law_moving "_law_moving" (defScope s__law_moving) T.f__law_moving cdv A outer s H E) rfl
  exact (mb_cons (ms_set (i := 3) sc__law_moving.nd rfl (.inl rfl) (me_call (w__law_take T) (hr.mono (by decide)) T.d__law_take.mgf T.d__law_take.fn.kp T.d__law_take.bd tk (ma_cons (me_var 0) (ma_cons me_int ma_nil))))
    (mb_cons (ms_if (mt_truth ts_truth (me_var 2))
      (mb_one (ms_set (i := 3) sc__law_moving.nd rfl (.inl rfl) me_int))
      mb_nil)
    (mb_cons (ms_if (mt_cmp (op_eqD hr.units) os_eq (me_var 3) me_int (nomark _))
      (mb_one (ms_ret (me_callTy call_tuple_of cs_tuple T.b_tuple (ma_cons (me_call (w__law_shuffled T) (hr.mono (by decide)) T.d__law_shuffled.mgf T.d__law_shuffled.fn.kp T.d__law_shuffled.bd tk (ma_cons (me_var 0) (ma_cons (me_callB cl_len cs_lenAll T.b_len (ma_cons (me_var 1) ma_nil)) ma_nil))) ma_nil))))
      mb_nil)
    (mb_cons (ms_set (i := 4) sc__law_moving.nd rfl (.inl rfl) (me_call (w__law_keeping T) (hr.mono (by decide)) T.d__law_keeping.mgf T.d__law_keeping.fn.kp T.d__law_keeping.bd tk (ma_cons (me_var 0) (ma_cons (me_var 1) ma_nil))))
    (mb_cons (ms_if (mt_cmp (op_eqD hr.units) os_eq (me_var 3) me_int (nomark _))
      (mb_cons (ms_set (i := 5) sc__law_moving.nd rfl (.inl rfl) (me_call (w__law_take T) (hr.mono (by decide)) T.d__law_take.mgf T.d__law_take.fn.kp T.d__law_take.bd tk (ma_cons (me_var 0) (ma_cons (me_callB cl_len cs_lenAll T.b_len (ma_cons (me_var 1) ma_nil)) ma_nil))))
    (mb_cons (ms_set (i := 6) sc__law_moving.nd rfl (.inl rfl) (me_call (w__law_take T) (hr.mono (by decide)) T.d__law_take.mgf T.d__law_take.fn.kp T.d__law_take.bd tk (ma_cons (me_var 0) (ma_cons (me_callB cl_len cs_lenAll T.b_len (ma_cons (me_var 1) ma_nil)) ma_nil))))
    (mb_cons (ms_set (i := 7) sc__law_moving.nd rfl (.inl rfl) (me_ix ix_seq os_ix (me_var 4) (me_var 5)))
    (mb_cons (ms_asg (me_ix ix_seq os_ix (me_var 4) (me_var 6)) (mg_sub set_list ss_list (me_var 4) (me_var 5)))
    (mb_one (ms_asg (me_var 7) (mg_sub set_list ss_list (me_var 4) (me_var 6))))))))
      mb_nil)
    (mb_one (ms_ret (me_callTy call_tuple_of cs_tuple T.b_tuple (ma_cons (me_var 4) ma_nil)))))))))
theorem w__law_is_labels (T : Txt K mg) : FnOk P w K mg base (L2.CX P w) 2 T.f__law_is_labels T.fd__law_is_labels ["value", "points"] (spF K mg 2 c__law_is_labels) := by
  refine fn_ok (n := 3) (m := m__law_is_labels) T.d__law_is_labels.fn sc__law_is_labels rfl rfl fun cdv A outer s H E hr => ?_
  have tk : Takes (cxOf (L2.CX P w) P w K mg base N__law_is_labels "_law_is_labels" (defScope s__law_is_labels) T.f__law_is_labels cdv A outer s H E) (fun cls d _ H => E cls d H) := takes_of rfl rfl rfl rfl
  have po := passes_of (X := cxOf (L2.CX P w) P w K mg base N__law_is_labels "_law_is_labels" (defScope s__law_is_labels) T.f__law_is_labels cdv A outer s H E) rfl
  exact (mb_cons (ms_if (MW.mt (mw_or (mt_not (mt_truth ts_truth (me_callB call_isi cs_isi T.b_isinstance (ma_cons (me_var 0) (ma_cons (me_ty T.b_tuple) ma_nil))))) (mw_or1 (mt_cmp (op_neD hr.units) os_ne (me_callB cl_len cs_lenAll T.b_len (ma_cons (me_var 0) ma_nil)) (me_var 1) (nomark _)))))
      (mb_one (ms_ret me_bl))
      mb_nil)
    (mb_cons (ms_for po rfl (mi_range1 T.b_range (ma_cons (me_var 1) ma_nil)) (mg_var sc__law_is_labels.nd rfl (.inl rfl))
      (mb_cons (ms_if (MW.mt (mw_or (mt_not (mt_truth ts_truth (me_call (w__law_is_whole T) (hr.mono (by decide)) T.d__law_is_whole.mgf T.d__law_is_whole.fn.kp T.d__law_is_whole.bd tk (ma_cons (me_ix ix_seq os_ix (me_var 0) (me_var 2)) ma_nil)))) (mw_or (mt_cmp (op_ltAll hr.units0) os_lt (me_ix ix_seq os_ix (me_var 0) (me_var 2)) me_int (nomark _)) (mw_or1 (mt_cmp op_gt os_gt (me_ix ix_seq os_ix (me_var 0) (me_var 2)) (me_var 2) (nomark _))))))
      (mb_one (ms_ret me_bl))
      mb_nil)
    (mb_one (ms_if (mt_cmp (op_neD hr.units) os_ne (me_ix ix_seq os_ix (me_var 0) (me_ix ix_seq os_ix (me_var 0) (me_var 2))) (me_ix ix_seq os_ix (me_var 0) (me_var 2)) (nomark _))
      (mb_one (ms_ret me_bl))
      mb_nil))))
    (mb_one (ms_ret me_bl))))
theorem w__law_merged (T : Txt K mg) : FnOk P w K mg base (L2.CX P w) 1 T.f__law_merged T.fd__law_merged ["row", "a", "b"] (spF K mg 3 c__law_merged) := by
  refine fn_ok (n := 6) (m := m__law_merged) T.d__law_merged.fn sc__law_merged rfl rfl fun cdv A outer s H E hr => ?_
  have tk : Takes (cxOf (L2.CX P w) P w K mg base N__law_merged "_law_merged" (defScope s__law_merged) T.f__law_merged cdv A outer s H E) (fun cls d _ H => E cls d H) := takes_of rfl rfl rfl rfl
  have po := passes_of (X := cxOf (L2.CX P w) P w K mg base N__law_merged "_law_merged" (defScope s__law_merged) T.f__law_merged cdv A outer s H E) rfl
  exact (mb_cons (ms_set (i := 3) sc__law_merged.nd rfl (.inr rfl) (me_callB (call_min2 rfl) cs_min2 T.b_min (ma_cons (me_ix ix_seq os_ix (me_var 0) (me_var 1)) (ma_cons (me_ix ix_seq os_ix (me_var 0) (me_var 2)) ma_nil))))
    (mb_cons (ms_set (i := 4) sc__law_merged.nd rfl (.inr rfl) (me_callB (call_max2 rfl) cs_max2 T.b_max (ma_cons (me_ix ix_seq os_ix (me_var 0) (me_var 1)) (ma_cons (me_ix ix_seq os_ix (me_var 0) (me_var 2)) ma_nil))))
    (mb_cons (ms_if (mt_cmp (op_eqD hr.units) os_eq (me_var 3) (me_var 4) (nomark _))
      (mb_one (ms_ret (me_var 0)))
      mb_nil)
    (mb_one (ms_ret (me_lc rfl sc__law_merged.nd (mi_val (me_var 0)) (blkOk_by (own := [("x", 5)]) (by show blkC N__law_merged (defScope s__law_merged) _ _ = true; decide +kernel)) (fun _ _ _ _ _ => (mgc_var sc__law_merged.nd rfl (.inl rfl) (by decide))) (fun _ _ _ _ _ => mts_nil) (fun _ _ _ _ _ => (me_if (mt_cmp (op_eqD hr.units) os_eq (me_var 5) (me_var 4) (nomark _)) (me_var 3) (me_var 5)))))))))
theorem w__law_closure (T : Txt K mg) : FnOk P w K mg base (L2.CX P w) 2 T.f__law_closure T.fd__law_closure ["perms", "points", "pairs"] (spF K mg 3 c__law_closure) := by
  refine fn_ok (n := 9) (m := m__law_closure) T.d__law_closure.fn sc__law_closure rfl rfl fun cdv A outer s H E hr => ?_
  have tk : Takes (cxOf (L2.CX P w) P w K mg base N__law_closure "_law_closure" (defScope s__law_closure) T.f__law_closure cdv A outer s H E) (fun cls d _ H => E cls d H) := takes_of rfl rfl rfl rfl
  have po := passes_of (X := cxOf (L2.CX P w) P w K mg base N__law_closure "_law_closure" (defScope s__law_closure) T.f__law_closure cdv A outer s H E) rfl
  exact (mb_cons (ms_set (i := 3) sc__law_closure.nd rfl (.inl rfl) (me_listRg1 rfl T.b_list T.b_range (me_var 1)))
    (mb_cons (ms_for po rfl (mi_val (me_var 2)) (mg_var sc__law_closure.nd rfl (.inl rfl))
      (mb_one (ms_set (i := 3) sc__law_closure.nd rfl (.inl rfl) (me_call (w__law_merged T) (hr.mono (by decide)) T.d__law_merged.mgf T.d__law_merged.fn.kp T.d__law_merged.bd tk (ma_cons (me_var 3) (ma_cons (me_ix ix_seq os_ix (me_var 4) me_int) (ma_cons (me_ix ix_seq os_ix (me_var 4) me_int) ma_nil)))))))
    (mb_cons (ms_for po rfl (mi_range1 T.b_range (ma_cons (me_var 1) ma_nil)) (mg_var sc__law_closure.nd rfl (.inl rfl))
      (mb_cons (ms_set (i := 6) sc__law_closure.nd rfl (.inl rfl) (me_var 3))
    (mb_cons (ms_for po rfl (mi_val (me_var 0)) (mg_var sc__law_closure.nd rfl (.inl rfl))
      (mb_one (ms_for po rfl (mi_range1 T.b_range (ma_cons (me_var 1) ma_nil)) (mg_var sc__law_closure.nd rfl (.inl rfl))
      (mb_one (ms_set (i := 3) sc__law_closure.nd rfl (.inl rfl) (me_call (w__law_merged T) (hr.mono (by decide)) T.d__law_merged.mgf T.d__law_merged.fn.kp T.d__law_merged.bd tk (ma_cons (me_var 3) (ma_cons (me_ix ix_seq os_ix (me_var 7) (me_var 8)) (ma_cons (me_ix ix_seq os_ix (me_var 7) (me_ix ix_seq os_ix (me_var 3) (me_var 8))) ma_nil)))))))))
    (mb_one (ms_if (mt_cmp (op_eqD hr.units) os_eq (me_var 3) (me_var 6) (nomark _))
      (mb_one ms_break)
      mb_nil)))))
    (mb_one (ms_ret (me_callTy call_tuple_of cs_tuple T.b_tuple (ma_cons (me_var 3) ma_nil)))))))
theorem w__law_holds (T : Txt K mg) : FnOk P w K mg base (L2.CX P w) 1 T.f__law_holds T.fd__law_holds ["labels", "perms", "pairs"] (spF K mg 3 c__law_holds) := by
  refine fn_ok (n := 6) (m := m__law_holds) T.d__law_holds.fn sc__law_holds rfl rfl fun cdv A outer s H E hr => ?_
  have tk : Takes (cxOf (L2.CX P w) P w K mg base N__law_holds "_law_holds" (defScope s__law_holds) T.f__law_holds cdv A outer s H E) (fun cls d _ H => E cls d H) := takes_of rfl rfl rfl rfl
  have po := passes_of (X := cxOf (L2.CX P w) P w K mg base N__law_holds "_law_holds" (defScope s__law_holds) T.f__law_holds cdv A outer s H E) rfl
  exact (mb_cons (ms_for po rfl (mi_val (me_var 2)) (mg_var sc__law_holds.nd rfl (.inl rfl))
      (mb_one (ms_if (mt_cmp (op_neD hr.units) os_ne (me_ix ix_seq os_ix (me_var 0) (me_ix ix_seq os_ix (me_var 3) me_int)) (me_ix ix_seq os_ix (me_var 0) (me_ix ix_seq os_ix (me_var 3) me_int)) (nomark _))
      (mb_one (ms_ret me_bl))
      mb_nil)))
    (mb_cons (ms_for po rfl (mi_val (me_var 1)) (mg_var sc__law_holds.nd rfl (.inl rfl))
      (mb_one (ms_for po rfl (mi_range1 T.b_range (ma_cons (me_callB cl_len cs_lenAll T.b_len (ma_cons (me_var 0) ma_nil)) ma_nil)) (mg_var sc__law_holds.nd rfl (.inl rfl))
      (mb_one (ms_if (mt_cmp (op_neD hr.units) os_ne (me_ix ix_seq os_ix (me_var 0) (me_ix ix_seq os_ix (me_var 4) (me_var 5))) (me_ix ix_seq os_ix (me_var 0) (me_ix ix_seq os_ix (me_var 4) (me_ix ix_seq os_ix (me_var 0) (me_var 5)))) (nomark _))
      (mb_one (ms_ret me_bl))
      mb_nil)))))
    (mb_one (ms_ret me_bl))))
theorem w__law_pair (T : Txt K mg) : FnOk P w K mg base (L2.CX P w) 2 T.f__law_pair T.fd__law_pair ["bag", "base", "strict"] (spF K mg 3 c__law_pair) := by
  refine fn_ok (n := 6) (m := m__law_pair) T.d__law_pair.fn sc__law_pair rfl rfl fun cdv A outer s H E hr => ?_
  have tk : Takes (cxOf (L2.CX P w) P w K mg base N__law_pair "_law_pair" (defScope s__law_pair) T.f__law_pair cdv A outer s H E) (fun cls d _ H => E cls d H) := takes_of rfl rfl rfl rfl
  have po := passes_of (X := cxOf (L2.CX P w) P w K mg base N__law_pair "_law_pair" (defScope s__law_pair) T.f__law_pair cdv A outer s H E) rfl
  exact (mb_cons (ms_set (i := 3) sc__law_pair.nd rfl (.inr rfl) (me_call (w__law_take T) (hr.mono (by decide)) T.d__law_take.mgf T.d__law_take.fn.kp T.d__law_take.bd tk (ma_cons (me_var 0) (ma_cons (me_callB cl_len cs_lenAll T.b_len (ma_cons (me_var 1) ma_nil)) ma_nil))))
    (mb_cons (ms_setLc (i := 4) rfl sc__law_pair.nd rfl rfl (sw_true rfl rfl rfl (by decide +kernel)) (mi_range1 T.b_range (ma_cons (me_callB cl_len cs_lenAll T.b_len (ma_cons (me_var 1) ma_nil)) ma_nil)) (blkOk_by (own := [("x", 5)]) (by show blkC N__law_pair (defScope s__law_pair) _ _ = true; decide +kernel)) (fun _ _ _ _ _ => (mgc_var sc__law_pair.nd rfl (.inl rfl) (by decide))) (fun _ _ _ _ _ => (mts_one (mt_cmp (op_eqD hr.units) os_eq (me_ix ix_seq os_ix (me_var 1) (me_var 5)) (me_ix ix_seq os_ix (me_var 1) (me_var 3)) (nomark _)))) (fun _ _ _ _ _ => (me_var 5)))
    (mb_cons (ms_if (MW.mt (mw_and (mt_cmp (op_eqD hr.units) os_eq (me_call (w__law_take T) (hr.mono (by decide)) T.d__law_take.mgf T.d__law_take.fn.kp T.d__law_take.bd tk (ma_cons (me_var 0) (ma_cons me_int ma_nil))) me_int (nomark _)) (mw_and1 (mt_not (mt_truth ts_truth (me_var 2))))))
      (mb_one (ms_set (i := 4) sc__law_pair.nd rfl (.inl rfl) (me_listRg1 rfl T.b_list T.b_range (me_callB cl_len cs_lenAll T.b_len (ma_cons (me_var 1) ma_nil)))))
      mb_nil)
    (mb_one (ms_ret (me_tup (ma_cons (me_var 3) (ma_cons (me_ix ix_seq os_ix (me_var 4) (me_call (w__law_take T) (hr.mono (by decide)) T.d__law_take.mgf T.d__law_take.fn.kp T.d__law_take.bd tk (ma_cons (me_var 0) (ma_cons (me_callB cl_len cs_lenAll T.b_len (ma_cons (me_var 4) ma_nil)) ma_nil)))) ma_nil))))))))
theorem w__law_is_index (T : Txt K mg) : FnOk P w K mg base (L2.CX P w) 2 T.f__law_is_index T.fd__law_is_index ["value", "limit"] (spF K mg 2 c__law_is_index) := by
  refine fn_ok (n := 2) (m := m__law_is_index) T.d__law_is_index.fn sc__law_is_index rfl rfl fun cdv A outer s H E hr => ?_
  have tk : Takes (cxOf (L2.CX P w) P w K mg base N__law_is_index "_law_is_index" (defScope s__law_is_index) T.f__law_is_index cdv A outer s H E) (fun cls d _ H => E cls d H) := takes_of rfl rfl rfl rfl
  have po := passes_of (X := cxOf (L2.CX P w) P w K mg base N__law_is_index "_law_is_index" (defScope s__law_is_index) T.f__law_is_index cdv A outer s H E) rfl
  exact (mb_one (ms_ret (me_and (me_call (w__law_is_whole T) (hr.mono (by decide)) T.d__law_is_whole.mgf T.d__law_is_whole.fn.kp T.d__law_is_whole.bd tk (ma_cons (me_var 0) ma_nil)) (me_one (me_chain op_leAll os_le (op_ltAll hr.units0) os_lt me_int (me_var 0) (me_var 1))))))
theorem w__law_limits (T : Txt K mg) : FnOk P w K mg base (L2.CX P w) 1 T.f__law_limits T.fd__law_limits ["word", "points", "pairs", "perms", "lines"] (spF K mg 5 c__law_limits) := by
  refine fn_ok (n := 5) (m := m__law_limits) T.d__law_limits.fn sc__law_limits rfl rfl fun cdv A outer s H E hr => ?_
  have tk : Takes (cxOf (L2.CX P w) P w K mg base N__law_limits "_law_limits" (defScope s__law_limits) T.f__law_limits cdv A outer s H E) (fun cls d _ H => E cls d H) := takes_of rfl rfl rfl rfl
  have po := passes_of (X := cxOf (L2.CX P w) P w K mg base N__law_limits "_law_limits" (defScope s__law_limits) T.f__law_limits cdv A outer s H E) rfl
  exact (mb_cons (ms_if (mt_cmp (op_eqD hr.units) os_eq (me_var 0) me_str (nomark _))
      (mb_one (ms_ret (me_lst (ma_cons (me_var 1) ma_nil))))
      mb_nil)
    (mb_cons (ms_if (mt_cmp (op_eqD hr.units) os_eq (me_var 0) me_str (nomark _))
      (mb_one (ms_ret (me_lst (ma_cons (me_var 2) ma_nil))))
      mb_nil)
    (mb_cons (ms_if (mt_cmp (op_eqD hr.units) os_eq (me_var 0) me_str (nomark _))
      (mb_one (ms_ret (me_lst (ma_cons (me_var 4) ma_nil))))
      mb_nil)
    (mb_cons (ms_if (mt_cmp (op_eqD hr.units) os_eq (me_var 0) me_str (nomark _))
      (mb_one (ms_ret (me_lst (ma_cons (me_var 4) (ma_cons (me_var 3) ma_nil)))))
      mb_nil)
    (mb_cons (ms_if (mt_cmp (op_eqD hr.units) os_eq (me_var 0) me_str (nomark _))
      (mb_one (ms_ret (me_lst (ma_cons (me_var 4) (ma_cons (me_var 4) ma_nil)))))
      mb_nil)
    (mb_one (ms_ret (me_lst ma_nil))))))))
theorem w__law_line (T : Txt K mg) : FnOk P w K mg base (L2.CX P w) 3 T.f__law_line T.fd__law_line ["line", "ends", "perms", "points", "pairs"] (spF K mg 5 c__law_line) := by
  refine fn_ok (n := 9) (m := m__law_line) T.d__law_line.fn sc__law_line rfl rfl fun cdv A outer s H E hr => ?_
  have tk : Takes (cxOf (L2.CX P w) P w K mg base N__law_line "_law_line" (defScope s__law_line) T.f__law_line cdv A outer s H E) (fun cls d _ H => E cls d H) := takes_of rfl rfl rfl rfl
  have po := passes_of (X := cxOf (L2.CX P w) P w K mg base N__law_line "_law_line" (defScope s__law_line) T.f__law_line cdv A outer s H E) rfl
  exact (mb_cons (ms_if (MW.mt (mw_or (mt_not (mt_truth ts_truth (me_callB call_isi cs_isi T.b_isinstance (ma_cons (me_var 0) (ma_cons (me_ty T.b_tuple) ma_nil))))) (mw_or (mt_cmp (op_ltAll hr.units0) os_lt (me_callB cl_len cs_lenAll T.b_len (ma_cons (me_var 0) ma_nil)) me_int (nomark _)) (mw_or1 (mt_not (mt_truth ts_truth (me_callB call_isi cs_isi T.b_isinstance (ma_cons (me_ix ix_seq os_ix (me_var 0) me_int) (ma_cons (me_ty T.b_str) ma_nil)))))))))
      (mb_one (ms_ret me_non))
      mb_nil)
    (mb_cons (ms_set (i := 5) sc__law_line.nd rfl (.inl rfl) (me_call (w__law_limits T) (hr.mono (by decide)) T.d__law_limits.mgf T.d__law_limits.fn.kp T.d__law_limits.bd tk (ma_cons (me_ix ix_seq os_ix (me_var 0) me_int) (ma_cons (me_var 3) (ma_cons (me_callB cl_len cs_lenAll T.b_len (ma_cons (me_var 4) ma_nil)) (ma_cons (me_callB cl_len cs_lenAll T.b_len (ma_cons (me_var 2) ma_nil)) (ma_cons (me_callB cl_len cs_lenAll T.b_len (ma_cons (me_var 1) ma_nil)) ma_nil)))))))
    (mb_cons (ms_if (mt_cmp (op_neD hr.units) os_ne (me_callB cl_len cs_lenAll T.b_len (ma_cons (me_var 0) ma_nil)) (me_op op_addAll os_add me_int (me_callB cl_len cs_lenAll T.b_len (ma_cons (me_var 5) ma_nil))) (nomark _))
      (mb_one (ms_ret me_non))
      mb_nil)
    (mb_cons (ms_for po rfl (mi_range1 T.b_range (ma_cons (me_callB cl_len cs_lenAll T.b_len (ma_cons (me_var 5) ma_nil)) ma_nil)) (mg_var sc__law_line.nd rfl (.inl rfl))
      (mb_one (ms_if (mt_not (mt_truth ts_truth (me_call (w__law_is_index T) (hr.mono (by decide)) T.d__law_is_index.mgf T.d__law_is_index.fn.kp T.d__law_is_index.bd tk (ma_cons (me_ix ix_seq os_ix (me_var 0) (me_op op_addAll os_add me_int (me_var 6))) (ma_cons (me_ix ix_seq os_ix (me_var 5) (me_var 6)) ma_nil)))))
      (mb_one (ms_ret me_non))
      mb_nil)))
    (mb_cons (ms_if (mt_cmp (op_eqD hr.units) os_eq (me_ix ix_seq os_ix (me_var 0) me_int) me_str (nomark _))
      (mb_one (ms_ret (me_tup (ma_cons (me_ix ix_seq os_ix (me_var 0) me_int) (ma_cons (me_ix ix_seq os_ix (me_var 0) me_int) ma_nil)))))
      mb_nil)
    (mb_cons (ms_if (mt_cmp (op_eqD hr.units) os_eq (me_ix ix_seq os_ix (me_var 0) me_int) me_str (nomark _))
      (mb_one (ms_ret (me_tup (ma_cons (me_ix ix_seq os_ix (me_ix ix_seq os_ix (me_var 4) (me_ix ix_seq os_ix (me_var 0) me_int)) me_int) (ma_cons (me_ix ix_seq os_ix (me_ix ix_seq os_ix (me_var 4) (me_ix ix_seq os_ix (me_var 0) me_int)) me_int) ma_nil)))))
      mb_nil)
    (mb_cons (ms_set (i := 7) sc__law_line.nd rfl (.inl rfl) (me_ix ix_seq os_ix (me_var 1) (me_ix ix_seq os_ix (me_var 0) me_int)))
    (mb_cons (ms_if (mt_cmp (op_eqD hr.units) os_eq (me_ix ix_seq os_ix (me_var 0) me_int) me_str (nomark _))
      (mb_one (ms_ret (me_tup (ma_cons (me_ix ix_seq os_ix (me_var 7) me_int) (ma_cons (me_ix ix_seq os_ix (me_var 7) me_int) ma_nil)))))
      mb_nil)
    (mb_cons (ms_if (mt_cmp (op_eqD hr.units) os_eq (me_ix ix_seq os_ix (me_var 0) me_int) me_str (nomark _))
      (mb_one (ms_ret (me_tup (ma_cons (me_ix ix_seq os_ix (me_ix ix_seq os_ix (me_var 2) (me_ix ix_seq os_ix (me_var 0) me_int)) (me_ix ix_seq os_ix (me_var 7) me_int)) (ma_cons (me_ix ix_seq os_ix (me_ix ix_seq os_ix (me_var 2) (me_ix ix_seq os_ix (me_var 0) me_int)) (me_ix ix_seq os_ix (me_var 7) me_int)) ma_nil)))))
      mb_nil)
    (mb_cons (ms_set (i := 8) sc__law_line.nd rfl (.inl rfl) (me_ix ix_seq os_ix (me_var 1) (me_ix ix_seq os_ix (me_var 0) me_int)))
    (mb_cons (ms_if (mt_cmp (op_neD hr.units) os_ne (me_ix ix_seq os_ix (me_var 7) me_int) (me_ix ix_seq os_ix (me_var 8) me_int) (nomark _))
      (mb_one (ms_ret me_non))
      mb_nil)
    (mb_one (ms_ret (me_tup (ma_cons (me_ix ix_seq os_ix (me_var 7) me_int) (ma_cons (me_ix ix_seq os_ix (me_var 8) me_int) ma_nil))))))))))))))))
theorem w__law_ends (T : Txt K mg) : FnOk P w K mg base (L2.CX P w) 4 T.f__law_ends T.fd__law_ends ["reason", "perms", "points", "pairs"] (spF K mg 4 c__law_ends) := by
  refine fn_ok (n := 7) (m := m__law_ends) T.d__law_ends.fn sc__law_ends rfl rfl fun cdv A outer s H E hr => ?_
  have tk : Takes (cxOf (L2.CX P w) P w K mg base N__law_ends "_law_ends" (defScope s__law_ends) T.f__law_ends cdv A outer s H E) (fun cls d _ H => E cls d H) := takes_of rfl rfl rfl rfl
  have po := passes_of (X := cxOf (L2.CX P w) P w K mg base N__law_ends "_law_ends" (defScope s__law_ends) T.f__law_ends cdv A outer s H E) rfl
  exact (mb_cons (ms_if (MW.mt (mw_or (mt_not (mt_truth ts_truth (me_callB call_isi cs_isi T.b_isinstance (ma_cons (me_var 0) (ma_cons (me_ty T.b_tuple) ma_nil))))) (mw_or1 (mt_cmp (op_eqD hr.units) os_eq (me_callB cl_len cs_lenAll T.b_len (ma_cons (me_var 0) ma_nil)) me_int (nomark _)))))
      (mb_one (ms_ret me_non))
      mb_nil)
    (mb_cons (ms_set (i := 4) sc__law_ends.nd rfl (.inl rfl) (me_lst ma_nil))
    (mb_cons (ms_for po rfl (mi_val (me_var 0)) (mg_var sc__law_ends.nd rfl (.inl rfl))
      (mb_cons (ms_set (i := 6) sc__law_ends.nd rfl (.inl rfl) (me_call (w__law_line T) (hr.mono (by decide)) T.d__law_line.mgf T.d__law_line.fn.kp T.d__law_line.bd tk (ma_cons (me_var 5) (ma_cons (me_var 4) (ma_cons (me_var 1) (ma_cons (me_var 2) (ma_cons (me_var 3) ma_nil)))))))
    (mb_cons (ms_if (mt_cmp op_isN os_is (me_var 6) me_non (nomark _))
      (mb_one (ms_ret me_non))
      mb_nil)
    (mb_one (ms_expr (me_meth PySem.F.plainAttrs_list PySem.F.slot_list_append PySem.F.type_list_append mt_append ms_append (me_var 4) (ma_cons (me_var 6) ma_nil)))))))
    (mb_one (ms_ret (me_ix ix_seq os_ix (me_var 4) (me_op op_sub os_sub (me_callB cl_len cs_lenAll T.b_len (ma_cons (me_var 4) ma_nil)) me_int)))))))
theorem w__law_drawn (T : Txt K mg) : FnOk P w K mg base (L2.CX P w) 4 T.f__law_drawn T.fd__law_drawn ["bag", "perms", "points", "pairs"] (spF K mg 4 c__law_drawn) := by
  refine fn_ok (n := 12) (m := m__law_drawn) T.d__law_drawn.fn sc__law_drawn rfl rfl fun cdv A outer s H E hr => ?_
  have tk : Takes (cxOf (L2.CX P w) P w K mg base N__law_drawn "_law_drawn" (defScope s__law_drawn) T.f__law_drawn cdv A outer s H E) (fun cls d _ H => E cls d H) := takes_of rfl rfl rfl rfl
  have po := passes_of (X := cxOf (L2.CX P w) P w K mg base N__law_drawn "_law_drawn" (defScope s__law_drawn) T.f__law_drawn cdv A outer s H E) rfl
  exact (mb_cons (ms_set (i := 4) sc__law_drawn.nd rfl (.inl rfl) (me_lst ma_nil))
    (mb_cons (ms_set (i := 5) sc__law_drawn.nd rfl (.inr rfl) (me_lst ma_nil))
    (mb_cons (ms_for po rfl (mi_range1 T.b_range (ma_cons (me_op op_addAll os_add me_int (me_call (w__law_take T) (hr.mono (by decide)) T.d__law_take.mgf T.d__law_take.fn.kp T.d__law_take.bd tk (ma_cons (me_var 0) (ma_cons me_int ma_nil)))) ma_nil)) (mg_var sc__law_drawn.nd rfl (.inl rfl))
      (mb_cons (ms_set (i := 7) sc__law_drawn.nd rfl (.inl rfl) (me_call (w__law_take T) (hr.mono (by decide)) T.d__law_take.mgf T.d__law_take.fn.kp T.d__law_take.bd tk (ma_cons (me_var 0) (ma_cons me_int ma_nil))))
    (mb_cons (ms_set (i := 8) sc__law_drawn.nd rfl (.inl rfl) (me_tup (ma_cons me_str (ma_cons (me_call (w__law_take T) (hr.mono (by decide)) T.d__law_take.mgf T.d__law_take.fn.kp T.d__law_take.bd tk (ma_cons (me_var 0) (ma_cons (me_var 2) ma_nil))) ma_nil))))
    (mb_cons (ms_if (MW.mt (mw_and (mt_cmp (op_eqD hr.units) os_eq (me_var 7) me_int (nomark _)) (mw_and1 (mt_cmp op_gt os_gt (me_callB cl_len cs_lenAll T.b_len (ma_cons (me_var 3) ma_nil)) me_int (nomark _)))))
      (mb_one (ms_set (i := 8) sc__law_drawn.nd rfl (.inl rfl) (me_tup (ma_cons me_str (ma_cons (me_call (w__law_take T) (hr.mono (by decide)) T.d__law_take.mgf T.d__law_take.fn.kp T.d__law_take.bd tk (ma_cons (me_var 0) (ma_cons (me_callB cl_len cs_lenAll T.b_len (ma_cons (me_var 3) ma_nil)) ma_nil))) ma_nil)))))
      mb_nil)
    (mb_cons (ms_if (MW.mt (mw_and (mt_cmp (op_eqD hr.units) os_eq (me_var 7) me_int (nomark _)) (mw_and1 (mt_cmp op_gt os_gt (me_var 6) me_int (nomark _)))))
      (mb_one (ms_set (i := 8) sc__law_drawn.nd rfl (.inl rfl) (me_tup (ma_cons me_str (ma_cons (me_call (w__law_take T) (hr.mono (by decide)) T.d__law_take.mgf T.d__law_take.fn.kp T.d__law_take.bd tk (ma_cons (me_var 0) (ma_cons (me_var 6) ma_nil))) ma_nil)))))
      mb_nil)
    (mb_cons (ms_if (MW.mt (mw_and (mt_cmp (op_eqD hr.units) os_eq (me_var 7) me_int (nomark _)) (mw_and (mt_cmp op_gt os_gt (me_var 6) me_int (nomark _)) (mw_and1 (mt_cmp op_gt os_gt (me_callB cl_len cs_lenAll T.b_len (ma_cons (me_var 1) ma_nil)) me_int (nomark _))))))
      (mb_one (ms_set (i := 8) sc__law_drawn.nd rfl (.inl rfl) (me_tup (ma_cons me_str (ma_cons (me_call (w__law_take T) (hr.mono (by decide)) T.d__law_take.mgf T.d__law_take.fn.kp T.d__law_take.bd tk (ma_cons (me_var 0) (ma_cons (me_var 6) ma_nil))) (ma_cons (me_call (w__law_take T) (hr.mono (by decide)) T.d__law_take.mgf T.d__law_take.fn.kp T.d__law_take.bd tk (ma_cons (me_var 0) (ma_cons (me_callB cl_len cs_lenAll T.b_len (ma_cons (me_var 1) ma_nil)) ma_nil))) ma_nil))))))
      mb_nil)
    (mb_cons (ms_if (MW.mt (mw_and (mt_cmp (op_eqD hr.units) os_eq (me_var 7) me_int (nomark _)) (mw_and1 (mt_cmp op_gt os_gt (me_var 6) me_int (nomark _)))))
      (mb_cons (ms_set (i := 9) sc__law_drawn.nd rfl (.inr rfl) (me_call (w__law_take T) (hr.mono (by decide)) T.d__law_take.mgf T.d__law_take.fn.kp T.d__law_take.bd tk (ma_cons (me_var 0) (ma_cons (me_var 6) ma_nil))))
    (mb_cons (ms_setLc (i := 10) rfl sc__law_drawn.nd rfl rfl (sw_true rfl rfl rfl (by decide +kernel)) (mi_range1 T.b_range (ma_cons (me_var 6) ma_nil)) (blkOk_by (own := [("x", 11)]) (by show blkC N__law_drawn (defScope s__law_drawn) _ _ = true; decide +kernel)) (fun _ _ _ _ _ => (mgc_var sc__law_drawn.nd rfl (.inl rfl) (by decide))) (fun _ _ _ _ _ => (mts_one (mt_cmp (op_eqD hr.units) os_eq (me_ix ix_seq os_ix (me_ix ix_seq os_ix (me_var 5) (me_var 11)) me_int) (me_ix ix_seq os_ix (me_ix ix_seq os_ix (me_var 5) (me_var 9)) me_int) (nomark _)))) (fun _ _ _ _ _ => (me_var 11)))
    (mb_one (ms_if (mt_cmp op_gt os_gt (me_callB cl_len cs_lenAll T.b_len (ma_cons (me_var 10) ma_nil)) me_int (nomark _))
      (mb_one (ms_set (i := 8) sc__law_drawn.nd rfl (.inl rfl) (me_tup (ma_cons me_str (ma_cons (me_var 9) (ma_cons (me_ix ix_seq os_ix (me_var 10) (me_call (w__law_take T) (hr.mono (by decide)) T.d__law_take.mgf T.d__law_take.fn.kp T.d__law_take.bd tk (ma_cons (me_var 0) (ma_cons (me_callB cl_len cs_lenAll T.b_len (ma_cons (me_var 10) ma_nil)) ma_nil)))) ma_nil))))))
      mb_nil))))
      mb_nil)
    (mb_cons (ms_expr (me_meth PySem.F.plainAttrs_list PySem.F.slot_list_append PySem.F.type_list_append mt_append ms_append (me_var 4) (ma_cons (me_var 8) ma_nil)))
    (mb_one (ms_expr (me_meth PySem.F.plainAttrs_list PySem.F.slot_list_append PySem.F.type_list_append mt_append ms_append (me_var 5) (ma_cons (me_call (w__law_line T) (hr.mono (by decide)) T.d__law_line.mgf T.d__law_line.fn.kp T.d__law_line.bd tk (ma_cons (me_var 8) (ma_cons (me_var 5) (ma_cons (me_var 1) (ma_cons (me_var 2) (ma_cons (me_var 3) ma_nil)))))) ma_nil))))))))))))
    (mb_one (ms_ret (me_callTy call_tuple_of cs_tuple T.b_tuple (ma_cons (me_var 4) ma_nil)))))))
theorem w__law_bent (T : Txt K mg) : FnOk P w K mg base (L2.CX P w) 2 T.f__law_bent T.fd__law_bent ["bag", "reason", "points"] (spF K mg 3 c__law_bent) := by
  refine fn_ok (n := 10) (m := m__law_bent) T.d__law_bent.fn sc__law_bent rfl rfl fun cdv A outer s H E hr => ?_
  have tk : Takes (cxOf (L2.CX P w) P w K mg base N__law_bent "_law_bent" (defScope s__law_bent) T.f__law_bent cdv A outer s H E) (fun cls d _ H => E cls d H) := takes_of rfl rfl rfl rfl
  have po := passes_of (X := cxOf (L2.CX P w) P w K mg base N__law_bent "_law_bent" (defScope s__law_bent) T.f__law_bent cdv A outer s H E) rfl
  exact (mb_cons (ms_set (i := 3) sc__law_bent.nd rfl (.inl rfl) (me_call (w__law_take T) (hr.mono (by decide)) T.d__law_take.mgf T.d__law_take.fn.kp T.d__law_take.bd tk (ma_cons (me_var 0) (ma_cons me_int ma_nil))))
    (mb_cons (ms_set (i := 4) sc__law_bent.nd rfl (.inl rfl) (me_call (w__law_take T) (hr.mono (by decide)) T.d__law_take.mgf T.d__law_take.fn.kp T.d__law_take.bd tk (ma_cons (me_var 0) (ma_cons (me_callB cl_len cs_lenAll T.b_len (ma_cons (me_var 1) ma_nil)) ma_nil))))
    (mb_cons (ms_set (i := 5) sc__law_bent.nd rfl (.inl rfl) (me_ix ix_seq os_ix (me_var 1) (me_var 4)))
    (mb_cons (ms_set (i := 6) sc__law_bent.nd rfl (.inl rfl) (me_lst (ma_cons (me_un un_neg us_neg me_int) (ma_cons (me_var 4) (ma_cons (me_op op_addAll os_add (me_var 4) me_int) (ma_cons (me_callB cl_len cs_lenAll T.b_len (ma_cons (me_var 1) ma_nil)) (ma_cons me_int (ma_cons me_int (ma_cons (me_var 2) (ma_cons me_bl (ma_cons me_bl (ma_cons me_non (ma_cons me_str (ma_cons me_str (ma_cons me_str (ma_cons me_str ma_nil))))))))))))))))
    (mb_cons (ms_set (i := 6) sc__law_bent.nd rfl (.inl rfl) (me_op op_addAll os_add (me_var 6) (me_lst (ma_cons me_str (ma_cons me_str (ma_cons (me_tup (ma_cons me_int ma_nil)) (ma_cons me_str ma_nil)))))))
    (mb_cons (ms_set (i := 7) sc__law_bent.nd rfl (.inl rfl) (me_ix ix_seq os_ix (me_var 6) (me_call (w__law_take T) (hr.mono (by decide)) T.d__law_take.mgf T.d__law_take.fn.kp T.d__law_take.bd tk (ma_cons (me_var 0) (ma_cons me_int ma_nil)))))
    (mb_cons (ms_if (mt_cmp (op_eqD hr.units) os_eq (me_var 3) me_int (nomark _))
      (mb_one (ms_set (i := 7) sc__law_bent.nd rfl (.inl rfl) (me_call (w__law_take T) (hr.mono (by decide)) T.d__law_take.mgf T.d__law_take.fn.kp T.d__law_take.bd tk (ma_cons (me_var 0) (ma_cons (me_op op_addAll os_add (me_var 4) me_int) ma_nil)))))
      mb_nil)
    (mb_cons (ms_if (mt_cmp (op_eqD hr.units) os_eq (me_var 3) me_int (nomark _))
      (mb_one (ms_ret (me_op op_addAll os_add (me_slice (me_var 1) mo_none (mo_some (me_var 4))) (me_slice (me_var 1) (mo_some (me_op op_addAll os_add (me_var 4) me_int)) mo_none))))
      mb_nil)
    (mb_cons (ms_if (mt_cmp (op_eqD hr.units) os_eq (me_var 3) me_int (nomark _))
      (mb_one (ms_ret (me_op op_addAll os_add (me_op op_addAll os_add (me_slice (me_var 1) mo_none (mo_some (me_var 4))) (me_tup (ma_cons (me_var 7) ma_nil))) (me_slice (me_var 1) (mo_some (me_var 4)) mo_none))))
      mb_nil)
    (mb_cons (ms_if (mt_cmp (op_eqD hr.units) os_eq (me_var 3) me_int (nomark _))
      (mb_one (ms_ret (me_op op_addAll os_add (me_op op_addAll os_add (me_slice (me_var 1) mo_none (mo_some (me_var 4))) (me_tup (ma_cons (me_op op_addAll os_add (me_var 5) (me_tup (ma_cons (me_var 7) ma_nil))) ma_nil))) (me_slice (me_var 1) (mo_some (me_op op_addAll os_add (me_var 4) me_int)) mo_none))))
      mb_nil)
    (mb_cons (ms_if (mt_cmp (op_eqD hr.units) os_eq (me_var 3) me_int (nomark _))
      (mb_one (ms_ret (me_op op_addAll os_add (me_op op_addAll os_add (me_slice (me_var 1) mo_none (mo_some (me_var 4))) (me_tup (ma_cons (me_slice (me_var 5) mo_none (mo_some (me_op op_sub os_sub (me_callB cl_len cs_lenAll T.b_len (ma_cons (me_var 5) ma_nil)) me_int))) ma_nil))) (me_slice (me_var 1) (mo_some (me_op op_addAll os_add (me_var 4) me_int)) mo_none))))
      mb_nil)
    (mb_cons (ms_if (mt_cmp (op_eqD hr.units) os_eq (me_var 3) me_int (nomark _))
      (mb_one (ms_ret (me_ix ix_seq os_ix (me_lst (ma_cons me_non (ma_cons (me_tup ma_nil) (ma_cons me_str (ma_cons me_int (ma_cons me_bl (ma_cons (me_tup (ma_cons me_str (ma_cons me_int ma_nil))) ma_nil))))))) (me_call (w__law_take T) (hr.mono (by decide)) T.d__law_take.mgf T.d__law_take.fn.kp T.d__law_take.bd tk (ma_cons (me_var 0) (ma_cons me_int ma_nil))))))
      mb_nil)
    (mb_cons (ms_if (mt_cmp (op_eqD hr.units) os_eq (me_var 3) me_int (nomark _))
      (mb_cons (ms_set (i := 8) sc__law_bent.nd rfl (.inl rfl) (me_ix ix_seq os_ix (me_lst (ma_cons (me_var 5) (ma_cons (me_tup (ma_cons me_str (ma_cons (me_call (w__law_take T) (hr.mono (by decide)) T.d__law_take.mgf T.d__law_take.fn.kp T.d__law_take.bd tk (ma_cons (me_var 0) (ma_cons (me_var 2) ma_nil))) ma_nil))) ma_nil))) (me_call (w__law_take T) (hr.mono (by decide)) T.d__law_take.mgf T.d__law_take.fn.kp T.d__law_take.bd tk (ma_cons (me_var 0) (ma_cons me_int ma_nil)))))
    (mb_one (ms_ret (me_op op_addAll os_add (me_op op_addAll os_add (me_slice (me_var 1) mo_none (mo_some (me_var 4))) (me_tup (ma_cons (me_var 8) ma_nil))) (me_slice (me_var 1) (mo_some (me_var 4)) mo_none)))))
      mb_nil)
    (mb_cons (ms_set (i := 9) sc__law_bent.nd rfl (.inl rfl) (me_call (w__law_take T) (hr.mono (by decide)) T.d__law_take.mgf T.d__law_take.fn.kp T.d__law_take.bd tk (ma_cons (me_var 0) (ma_cons (me_callB cl_len cs_lenAll T.b_len (ma_cons (me_var 5) ma_nil)) ma_nil))))
    (mb_one (ms_ret (me_op op_addAll os_add (me_op op_addAll os_add (me_slice (me_var 1) mo_none (mo_some (me_var 4))) (me_tup (ma_cons (me_op op_addAll os_add (me_op op_addAll os_add (me_slice (me_var 5) mo_none (mo_some (me_var 9))) (me_tup (ma_cons (me_var 7) ma_nil))) (me_slice (me_var 5) (mo_some (me_op op_addAll os_add (me_var 9) me_int)) mo_none)) ma_nil))) (me_slice (me_var 1) (mo_some (me_op op_addAll os_add (me_var 4) me_int)) mo_none))))))))))))))))))
theorem w__law_joined_as (T : Txt K mg) : FnOk P w K mg base (L2.CX P w) 5 T.f__law_joined_as T.fd__law_joined_as ["reason", "perms", "points", "pairs", "targets"] (spF K mg 5 c__law_joined_as) := by
  refine fn_ok (n := 8) (m := m__law_joined_as) T.d__law_joined_as.fn sc__law_joined_as rfl rfl fun cdv A outer s H E hr => ?_
  have tk : Takes (cxOf (L2.CX P w) P w K mg base N__law_joined_as "_law_joined_as" (defScope s__law_joined_as) T.f__law_joined_as cdv A outer s H E) (fun cls d _ H => E cls d H) := takes_of rfl rfl rfl rfl
  have po := passes_of (X := cxOf (L2.CX P w) P w K mg base N__law_joined_as "_law_joined_as" (defScope s__law_joined_as) T.f__law_joined_as cdv A outer s H E) rfl
  exact (mb_cons (ms_set (i := 5) sc__law_joined_as.nd rfl (.inl rfl) (me_call (w__law_ends T) (hr.mono (by decide)) T.d__law_ends.mgf T.d__law_ends.fn.kp T.d__law_ends.bd tk (ma_cons (me_var 0) (ma_cons (me_var 1) (ma_cons (me_var 2) (ma_cons (me_var 3) ma_nil))))))
    (mb_cons (ms_for po rfl (mi_val (me_var 4)) (mg_var sc__law_joined_as.nd rfl (.inl rfl))
      (mb_cons (ms_set (i := 7) sc__law_joined_as.nd rfl (.inl rfl) (me_call (w_shows_joined T) (hr.mono (by decide)) T.d_shows_joined.mgf T.d_shows_joined.fn.kp T.d_shows_joined.bd tk (ma_cons (me_var 1) (ma_cons (me_var 2) (ma_cons (me_var 3) (ma_cons (me_ix ix_seq os_ix (me_var 6) me_int) (ma_cons (me_ix ix_seq os_ix (me_var 6) me_int) (ma_cons (me_var 0) ma_nil))))))))
    (mb_one (ms_if (mt_not (mt_truth ts_truth (me_call (w__law_is_truth T) (hr.mono (by decide)) T.d__law_is_truth.mgf T.d__law_is_truth.fn.kp T.d__law_is_truth.bd tk (ma_cons (me_var 7) (ma_cons (me_cmp (op_eqD hr.units) os_eq (me_var 5) (me_var 6) (nomark _)) ma_nil)))))
      (mb_one (ms_ret me_bl))
      mb_nil))))
    (mb_one (ms_ret (me_or (me_cmp op_isN os_is (me_var 5) me_non (nomark _)) (me_one (me_call (w__law_is_truth T) (hr.mono (by decide)) T.d__law_is_truth.mgf T.d__law_is_truth.fn.kp T.d__law_is_truth.bd tk (ma_cons (me_call (w_shows_joined T) (hr.mono (by decide)) T.d_shows_joined.mgf T.d_shows_joined.fn.kp T.d_shows_joined.bd tk (ma_cons (me_var 1) (ma_cons (me_var 2) (ma_cons (me_var 3) (ma_cons (me_ix ix_seq os_ix (me_var 5) me_int) (ma_cons (me_ix ix_seq os_ix (me_var 5) me_int) (ma_cons (me_var 0) ma_nil))))))) (ma_cons me_bl ma_nil)))))))))
theorem w__law_bends_hold (T : Txt K mg) : FnOk P w K mg base (L2.CX P w) 6 T.f__law_bends_hold T.fd__law_bends_hold ["bag", "perms", "points", "pairs", "reason"] (spF K mg 5 c__law_bends_hold) := by
  refine fn_ok (n := 9) (m := m__law_bends_hold) T.d__law_bends_hold.fn sc__law_bends_hold rfl rfl fun cdv A outer s H E hr => ?_
  have tk : Takes (cxOf (L2.CX P w) P w K mg base N__law_bends_hold "_law_bends_hold" (defScope s__law_bends_hold) T.f__law_bends_hold cdv A outer s H E) (fun cls d _ H => E cls d H) := takes_of rfl rfl rfl rfl
  have po := passes_of (X := cxOf (L2.CX P w) P w K mg base N__law_bends_hold "_law_bends_hold" (defScope s__law_bends_hold) T.f__law_bends_hold cdv A outer s H E) rfl
  exact (mb_cons (ms_set (i := 5) sc__law_bends_hold.nd rfl (.inl rfl) (me_call (w__law_ends T) (hr.mono (by decide)) T.d__law_ends.mgf T.d__law_ends.fn.kp T.d__law_ends.bd tk (ma_cons (me_var 4) (ma_cons (me_var 1) (ma_cons (me_var 2) (ma_cons (me_var 3) ma_nil))))))
    (mb_cons (ms_if (mt_cmp op_isN os_is (me_var 5) me_non (nomark _))
      (mb_one (ms_ret me_bl))
      mb_nil)
    (mb_cons (ms_set (i := 6) sc__law_bends_hold.nd rfl (.inl rfl) (me_lst (ma_cons (me_var 5) (ma_cons (me_tup (ma_cons (me_ix ix_seq os_ix (me_var 5) me_int) (ma_cons (me_ix ix_seq os_ix (me_var 5) me_int) ma_nil))) (ma_cons (me_tup (ma_cons (me_call (w__law_take T) (hr.mono (by decide)) T.d__law_take.mgf T.d__law_take.fn.kp T.d__law_take.bd tk (ma_cons (me_var 0) (ma_cons (me_var 2) ma_nil))) (ma_cons (me_call (w__law_take T) (hr.mono (by decide)) T.d__law_take.mgf T.d__law_take.fn.kp T.d__law_take.bd tk (ma_cons (me_var 0) (ma_cons (me_var 2) ma_nil))) ma_nil))) ma_nil)))))
    (mb_cons (ms_if (mt_not (mt_truth ts_truth (me_call (w__law_joined_as T) (hr.mono (by decide)) T.d__law_joined_as.mgf T.d__law_joined_as.fn.kp T.d__law_joined_as.bd tk (ma_cons (me_var 4) (ma_cons (me_var 1) (ma_cons (me_var 2) (ma_cons (me_var 3) (ma_cons (me_var 6) ma_nil))))))))
      (mb_one (ms_ret me_bl))
      mb_nil)
    (mb_cons (ms_for po rfl (mi_range1 T.b_range (ma_cons me_int ma_nil)) (mg_var sc__law_bends_hold.nd rfl (.inl rfl))
      (mb_cons (ms_set (i := 8) sc__law_bends_hold.nd rfl (.inl rfl) (me_call (w__law_bent T) (hr.mono (by decide)) T.d__law_bent.mgf T.d__law_bent.fn.kp T.d__law_bent.bd tk (ma_cons (me_var 0) (ma_cons (me_var 4) (ma_cons (me_var 2) ma_nil)))))
    (mb_one (ms_if (mt_not (mt_truth ts_truth (me_call (w__law_joined_as T) (hr.mono (by decide)) T.d__law_joined_as.mgf T.d__law_joined_as.fn.kp T.d__law_joined_as.bd tk (ma_cons (me_var 8) (ma_cons (me_var 1) (ma_cons (me_var 2) (ma_cons (me_var 3) (ma_cons (me_var 6) ma_nil))))))))
      (mb_one (ms_ret me_bl))
      mb_nil))))
    (mb_one (ms_ret me_bl)))))))
theorem w__law_lone_hold (T : Txt K mg) : FnOk P w K mg base (L2.CX P w) 6 T.f__law_lone_hold T.fd__law_lone_hold ["bag", "perms", "points", "pairs"] (spF K mg 4 c__law_lone_hold) := by
  refine fn_ok (n := 9) (m := m__law_lone_hold) T.d__law_lone_hold.fn sc__law_lone_hold rfl rfl fun cdv A outer s H E hr => ?_
  have tk : Takes (cxOf (L2.CX P w) P w K mg base N__law_lone_hold "_law_lone_hold" (defScope s__law_lone_hold) T.f__law_lone_hold cdv A outer s H E) (fun cls d _ H => E cls d H) := takes_of rfl rfl rfl rfl
  have po := passes_of (X := cxOf (L2.CX P w) P w K mg base N__law_lone_hold "_law_lone_hold" (defScope s__law_lone_hold) T.f__law_lone_hold cdv A outer s H E) rfl
  exact (mb_cons (ms_set (i := 4) sc__law_lone_hold.nd rfl (.inl rfl) (me_call (w__law_take T) (hr.mono (by decide)) T.d__law_take.mgf T.d__law_take.fn.kp T.d__law_take.bd tk (ma_cons (me_var 0) (ma_cons (me_var 2) ma_nil))))
    (mb_cons (ms_set (i := 5) sc__law_lone_hold.nd rfl (.inl rfl) (me_op op_mod os_mod (me_callTy call_int1 cs_int T.b_int (ma_cons (me_op op_addAll os_add (me_op op_addAll os_add (me_var 4) me_int) (me_call (w__law_take T) (hr.mono (by decide)) T.d__law_take.mgf T.d__law_take.fn.kp T.d__law_take.bd tk (ma_cons (me_var 0) (ma_cons (me_callB (call_max2 rfl) cs_max2 T.b_max (ma_cons me_int (ma_cons (me_op op_sub os_sub (me_var 2) me_int) ma_nil))) ma_nil)))) ma_nil)) (me_var 2)))
    (mb_cons (ms_set (i := 6) sc__law_lone_hold.nd rfl (.inl rfl) (me_tup (ma_cons me_str (ma_cons (me_var 4) ma_nil))))
    (mb_cons (ms_set (i := 7) sc__law_lone_hold.nd rfl (.inl rfl) (me_lst (ma_cons (me_tup (ma_cons (me_var 6) ma_nil)) (ma_cons (me_var 6) (ma_cons (me_tup (ma_cons (me_tup (ma_cons me_str (ma_cons (me_var 2) ma_nil))) ma_nil)) (ma_cons (me_tup (ma_cons (me_tup (ma_cons me_str (ma_cons (me_un un_neg us_neg me_int) ma_nil))) ma_nil)) (ma_cons (me_tup (ma_cons (me_tup (ma_cons me_str (ma_cons (me_var 4) (ma_cons (me_var 5) ma_nil)))) ma_nil)) (ma_cons (me_tup (ma_cons (me_tup (ma_cons me_str (ma_cons me_int ma_nil))) ma_nil)) ma_nil))))))))
    (mb_cons (ms_set (i := 7) sc__law_lone_hold.nd rfl (.inl rfl) (me_op op_addAll os_add (me_var 7) (me_lst (ma_cons (me_tup (ma_cons (me_var 6) (ma_cons (me_tup (ma_cons me_str (ma_cons me_int ma_nil))) ma_nil))) (ma_cons (me_tup (ma_cons (me_var 6) (ma_cons (me_tup (ma_cons me_str (ma_cons (me_un un_neg us_neg me_int) ma_nil))) ma_nil))) (ma_cons (me_tup (ma_cons (me_tup (ma_cons me_str (ma_cons me_int ma_nil))) (ma_cons (me_var 6) ma_nil))) ma_nil))))))
    (mb_cons (ms_set (i := 7) sc__law_lone_hold.nd rfl (.inl rfl) (me_op op_addAll os_add (me_var 7) (me_lst (ma_cons (me_tup (ma_cons (me_tup (ma_cons me_str (ma_cons (me_callB cl_len cs_lenAll T.b_len (ma_cons (me_var 3) ma_nil)) ma_nil))) ma_nil)) ma_nil))))
    (mb_cons (ms_set (i := 7) sc__law_lone_hold.nd rfl (.inl rfl) (me_op op_addAll os_add (me_var 7) (me_lst (ma_cons (me_tup (ma_cons (me_tup (ma_cons me_str (ma_cons (me_un un_neg us_neg me_int) ma_nil))) ma_nil)) (ma_cons (me_tup (ma_cons (me_var 6) (ma_cons (me_tup (ma_cons me_str (ma_cons me_int (ma_cons (me_callB cl_len cs_lenAll T.b_len (ma_cons (me_var 1) ma_nil)) ma_nil)))) ma_nil))) ma_nil)))))
    (mb_cons (ms_set (i := 7) sc__law_lone_hold.nd rfl (.inl rfl) (me_op op_addAll os_add (me_var 7) (me_lst (ma_cons (me_tup (ma_cons (me_var 6) (ma_cons (me_tup (ma_cons me_str (ma_cons me_int (ma_cons (me_un un_neg us_neg me_int) ma_nil)))) ma_nil))) ma_nil))))
    (mb_cons (ms_set (i := 7) sc__law_lone_hold.nd rfl (.inl rfl) (me_op op_addAll os_add (me_var 7) (me_lst (ma_cons (me_tup (ma_cons (me_var 6) (ma_cons (me_tup (ma_cons me_str (ma_cons (me_var 5) ma_nil))) (ma_cons (me_tup (ma_cons me_str (ma_cons me_int (ma_cons me_int ma_nil)))) ma_nil)))) (ma_cons (me_tup (ma_cons (me_var 6) (ma_cons (me_tup (ma_cons me_str (ma_cons me_int (ma_cons me_int ma_nil)))) ma_nil))) (ma_cons (me_tup (ma_cons (me_tup (ma_cons me_str (ma_cons (me_var 4) (ma_cons (me_var 5) ma_nil)))) ma_nil)) ma_nil))))))
    (mb_cons (ms_set (i := 7) sc__law_lone_hold.nd rfl (.inl rfl) (me_op op_addAll os_add (me_var 7) (me_lst (ma_cons (me_tup (ma_cons (me_var 6) (ma_cons (me_tup (ma_cons me_str (ma_cons me_int ma_nil))) (ma_cons (me_tup (ma_cons me_str (ma_cons me_int (ma_cons me_int ma_nil)))) ma_nil)))) (ma_cons (me_tup (ma_cons (me_tup (ma_cons me_str (ma_cons (me_un un_neg us_neg me_int) (ma_cons (me_un un_neg us_neg me_int) ma_nil)))) ma_nil)) (ma_cons (me_tup (ma_cons (me_var 6) (ma_cons (me_tup (ma_cons me_str (ma_cons (me_var 4) ma_nil))) ma_nil))) ma_nil))))))
    (mb_cons (ms_set (i := 7) sc__law_lone_hold.nd rfl (.inl rfl) (me_op op_addAll os_add (me_var 7) (me_lst (ma_cons (me_tup (ma_cons (me_var 6) (ma_cons (me_tup (ma_cons me_str (ma_cons (me_var 5) ma_nil))) (ma_cons (me_tup (ma_cons me_str (ma_cons me_bl ma_nil))) ma_nil)))) (ma_cons (me_tup (ma_cons (me_var 6) (ma_cons (me_tup (ma_cons me_str (ma_cons me_int ma_nil))) (ma_cons (me_tup (ma_cons me_str (ma_cons me_bl ma_nil))) ma_nil)))) ma_nil)))))
    (mb_cons (ms_for po rfl (mi_val (me_var 7)) (mg_var sc__law_lone_hold.nd rfl (.inl rfl))
      (mb_one (ms_if (mt_not (mt_truth ts_truth (me_call (w__law_joined_as T) (hr.mono (by decide)) T.d__law_joined_as.mgf T.d__law_joined_as.fn.kp T.d__law_joined_as.bd tk (ma_cons (me_var 8) (ma_cons (me_var 1) (ma_cons (me_var 2) (ma_cons (me_var 3) (ma_cons (me_lst (ma_cons (me_tup (ma_cons (me_var 4) (ma_cons (me_var 5) ma_nil))) (ma_cons (me_tup (ma_cons (me_var 4) (ma_cons (me_var 4) ma_nil))) (ma_cons (me_tup (ma_cons (me_var 5) (ma_cons (me_var 5) ma_nil))) ma_nil)))) ma_nil))))))))
      (mb_one (ms_ret me_bl))
      mb_nil)))
    (mb_one (ms_ret me_bl))))))))))))))
theorem w__law_two_hold (T : Txt K mg) : FnOk P w K mg base (L2.CX P w) 5 T.f__law_two_hold T.fd__law_two_hold ["perms", "points", "pairs", "i", "j", "labels"] (spF K mg 6 c__law_two_hold) := by
  refine fn_ok (n := 9) (m := m__law_two_hold) T.d__law_two_hold.fn sc__law_two_hold rfl rfl fun cdv A outer s H E hr => ?_
  have tk : Takes (cxOf (L2.CX P w) P w K mg base N__law_two_hold "_law_two_hold" (defScope s__law_two_hold) T.f__law_two_hold cdv A outer s H E) (fun cls d _ H => E cls d H) := takes_of rfl rfl rfl rfl
  have po := passes_of (X := cxOf (L2.CX P w) P w K mg base N__law_two_hold "_law_two_hold" (defScope s__law_two_hold) T.f__law_two_hold cdv A outer s H E) rfl
  exact (mb_cons (ms_set (i := 6) sc__law_two_hold.nd rfl (.inl rfl) (me_call (w_join_reason T) (hr.mono (by decide)) T.d_join_reason.mgf T.d_join_reason.fn.kp T.d_join_reason.bd tk (ma_cons (me_var 0) (ma_cons (me_var 1) (ma_cons (me_var 2) (ma_cons (me_var 3) (ma_cons (me_var 4) ma_nil)))))))
    (mb_cons (ms_set (i := 7) sc__law_two_hold.nd rfl (.inl rfl) (me_call (w_shows_parted T) (hr.mono (by decide)) T.d_shows_parted.mgf T.d_shows_parted.fn.kp T.d_shows_parted.bd tk (ma_cons (me_var 0) (ma_cons (me_var 1) (ma_cons (me_var 2) (ma_cons (me_var 3) (ma_cons (me_var 4) (ma_cons (me_var 5) ma_nil))))))))
    (mb_cons (ms_set (i := 8) sc__law_two_hold.nd rfl (.inl rfl) (me_call (w_shows_joined T) (hr.mono (by decide)) T.d_shows_joined.mgf T.d_shows_joined.fn.kp T.d_shows_joined.bd tk (ma_cons (me_var 0) (ma_cons (me_var 1) (ma_cons (me_var 2) (ma_cons (me_var 3) (ma_cons (me_var 4) (ma_cons (me_var 6) ma_nil))))))))
    (mb_cons (ms_if (mt_cmp (op_neD hr.units) os_ne (me_ix ix_seq os_ix (me_var 5) (me_var 3)) (me_ix ix_seq os_ix (me_var 5) (me_var 4)) (nomark _))
      (mb_one (ms_ret (me_and (me_cmp op_isN os_is (me_var 6) me_non (nomark _)) (me_and (me_call (w__law_is_truth T) (hr.mono (by decide)) T.d__law_is_truth.mgf T.d__law_is_truth.fn.kp T.d__law_is_truth.bd tk (ma_cons (me_var 8) (ma_cons me_bl ma_nil))) (me_one (me_call (w__law_is_truth T) (hr.mono (by decide)) T.d__law_is_truth.mgf T.d__law_is_truth.fn.kp T.d__law_is_truth.bd tk (ma_cons (me_var 7) (ma_cons me_bl ma_nil))))))))
      mb_nil)
    (mb_cons (ms_if (mt_cmp (op_neD hr.units) os_ne (me_call (w__law_ends T) (hr.mono (by decide)) T.d__law_ends.mgf T.d__law_ends.fn.kp T.d__law_ends.bd tk (ma_cons (me_var 6) (ma_cons (me_var 0) (ma_cons (me_var 1) (ma_cons (me_var 2) ma_nil))))) (me_tup (ma_cons (me_var 3) (ma_cons (me_var 4) ma_nil))) (nomark _))
      (mb_one (ms_ret me_bl))
      mb_nil)
    (mb_one (ms_ret (me_and (me_call (w__law_is_truth T) (hr.mono (by decide)) T.d__law_is_truth.mgf T.d__law_is_truth.fn.kp T.d__law_is_truth.bd tk (ma_cons (me_var 8) (ma_cons me_bl ma_nil))) (me_one (me_call (w__law_is_truth T) (hr.mono (by decide)) T.d__law_is_truth.mgf T.d__law_is_truth.fn.kp T.d__law_is_truth.bd tk (ma_cons (me_var 7) (ma_cons me_bl ma_nil))))))))))))
theorem w__law_parts (T : Txt K mg) : FnOk P w K mg base (L2.CX P w) 3 T.f__law_parts T.fd__law_parts ["value", "perms", "points", "pairs", "i", "j"] (spF K mg 6 c__law_parts) := by
  refine fn_ok (n := 6) (m := m__law_parts) T.d__law_parts.fn sc__law_parts rfl rfl fun cdv A outer s H E hr => ?_
  have tk : Takes (cxOf (L2.CX P w) P w K mg base N__law_parts "_law_parts" (defScope s__law_parts) T.f__law_parts cdv A outer s H E) (fun cls d _ H => E cls d H) := takes_of rfl rfl rfl rfl
  have po := passes_of (X := cxOf (L2.CX P w) P w K mg base N__law_parts "_law_parts" (defScope s__law_parts) T.f__law_parts cdv A outer s H E) rfl
  exact (mb_cons (ms_if (MW.mt (mw_or (mt_not (mt_truth ts_truth (me_call (w__law_is_labels T) (hr.mono (by decide)) T.d__law_is_labels.mgf T.d__law_is_labels.fn.kp T.d__law_is_labels.bd tk (ma_cons (me_var 0) (ma_cons (me_var 2) ma_nil))))) (mw_or1 (mt_not (mt_truth ts_truth (me_call (w__law_holds T) (hr.mono (by decide)) T.d__law_holds.mgf T.d__law_holds.fn.kp T.d__law_holds.bd tk (ma_cons (me_var 0) (ma_cons (me_var 1) (ma_cons (me_var 3) ma_nil)))))))))
      (mb_one (ms_ret me_bl))
      mb_nil)
    (mb_one (ms_ret (me_cmp (op_neD hr.units) os_ne (me_ix ix_seq os_ix (me_var 0) (me_var 4)) (me_ix ix_seq os_ix (me_var 0) (me_var 5)) (nomark _)))))
theorem w__law_parts_hold (T : Txt K mg) : FnOk P w K mg base (L2.CX P w) 5 T.f__law_parts_hold T.fd__law_parts_hold ["bag", "perms", "points", "pairs", "labels", "other"] (spF K mg 6 c__law_parts_hold) := by
  refine fn_ok (n := 19) (m := m__law_parts_hold) T.d__law_parts_hold.fn sc__law_parts_hold rfl rfl fun cdv A outer s H E hr => ?_
  have tk : Takes (cxOf (L2.CX P w) P w K mg base N__law_parts_hold "_law_parts_hold" (defScope s__law_parts_hold) T.f__law_parts_hold cdv A outer s H E) (fun cls d _ H => E cls d H) := takes_of rfl rfl rfl rfl
  have po := passes_of (X := cxOf (L2.CX P w) P w K mg base N__law_parts_hold "_law_parts_hold" (defScope s__law_parts_hold) T.f__law_parts_hold cdv A outer s H E) rfl
  exact (mb_cons (ms_set (i := 6) sc__law_parts_hold.nd rfl (.inr rfl) (me_call (w__law_take T) (hr.mono (by decide)) T.d__law_take.mgf T.d__law_take.fn.kp T.d__law_take.bd tk (ma_cons (me_var 0) (ma_cons (me_var 2) ma_nil))))
    (mb_cons (ms_setLc (i := 7) rfl sc__law_parts_hold.nd rfl rfl (sw_true rfl rfl rfl (by decide +kernel)) (mi_range1 T.b_range (ma_cons (me_var 2) ma_nil)) (blkOk_by (own := [("x", 8)]) (by show blkC N__law_parts_hold (defScope s__law_parts_hold) _ _ = true; decide +kernel)) (fun _ _ _ _ _ => (mgc_var sc__law_parts_hold.nd rfl (.inl rfl) (by decide))) (fun _ _ _ _ _ => (mts_one (mt_cmp (op_neD hr.units) os_ne (me_ix ix_seq os_ix (me_var 4) (me_var 8)) (me_ix ix_seq os_ix (me_var 4) (me_var 6)) (nomark _)))) (fun _ _ _ _ _ => (me_var 8)))
    (mb_cons (ms_set (i := 9) sc__law_parts_hold.nd rfl (.inl rfl) (me_call (w__law_take T) (hr.mono (by decide)) T.d__law_take.mgf T.d__law_take.fn.kp T.d__law_take.bd tk (ma_cons (me_var 0) (ma_cons (me_var 2) ma_nil))))
    (mb_cons (ms_if (mt_cmp op_gt os_gt (me_callB cl_len cs_lenAll T.b_len (ma_cons (me_var 7) ma_nil)) me_int (nomark _))
      (mb_one (ms_set (i := 9) sc__law_parts_hold.nd rfl (.inl rfl) (me_ix ix_seq os_ix (me_var 7) (me_call (w__law_take T) (hr.mono (by decide)) T.d__law_take.mgf T.d__law_take.fn.kp T.d__law_take.bd tk (ma_cons (me_var 0) (ma_cons (me_callB cl_len cs_lenAll T.b_len (ma_cons (me_var 7) ma_nil)) ma_nil))))))
      mb_nil)
    (mb_cons (ms_set (i := 10) sc__law_parts_hold.nd rfl (.inl rfl) (me_lst (ma_cons (me_var 4) (ma_cons (me_var 5) (ma_cons (me_tupRg1 rfl T.b_tuple T.b_range (me_var 2)) (ma_cons (me_op op_repT2 os_repT (me_tup (ma_cons me_int ma_nil)) (me_var 2)) (ma_cons (me_op op_addAll os_add (me_var 4) (me_tup (ma_cons me_int ma_nil))) (ma_cons (me_slice (me_var 4) mo_none (mo_some (me_op op_sub os_sub (me_var 2) me_int))) ma_nil))))))))
    (mb_cons (ms_set (i := 10) sc__law_parts_hold.nd rfl (.inl rfl) (me_op op_addAll os_add (me_var 10) (me_lst (ma_cons me_non (ma_cons (me_tup ma_nil) (ma_cons me_str (ma_cons me_int (ma_cons (me_tup (ma_cons (me_var 4) ma_nil)) (ma_cons (me_call (w__law_closure T) (hr.mono (by decide)) T.d__law_closure.mgf T.d__law_closure.fn.kp T.d__law_closure.bd tk (ma_cons (me_tup ma_nil) (ma_cons (me_var 2) (ma_cons (me_var 3) ma_nil)))) ma_nil)))))))))
    (mb_cons (ms_set (i := 11) sc__law_parts_hold.nd rfl (.inl rfl) (me_op op_mulAll os_mul (me_lst (ma_cons me_int ma_nil)) (me_var 2)))
    (mb_cons (ms_for po rfl (mi_range1 T.b_range (ma_cons (me_var 2) ma_nil)) (mg_var sc__law_parts_hold.nd rfl (.inr rfl))
      (mb_one (ms_asg (me_callB (cr_max rfl) cs_maxL T.b_max (ma_cons (me_lc rfl sc__law_parts_hold.nd (mi_range1 T.b_range (ma_cons (me_var 2) ma_nil)) (blkOk_by (own := [("x", 8)]) (by show blkC N__law_parts_hold (defScope s__law_parts_hold) _ _ = true; decide +kernel)) (fun _ _ _ _ _ => (mgc_var sc__law_parts_hold.nd rfl (.inl rfl) (by decide))) (fun _ _ _ _ _ => (mts_one (mt_cmp (op_eqD hr.units) os_eq (me_ix ix_seq os_ix (me_var 4) (me_var 8)) (me_ix ix_seq os_ix (me_var 4) (me_var 12)) (nomark _)))) (fun _ _ _ _ _ => (me_var 8))) ma_nil)) (mg_sub set_list ss_list (me_var 11) (me_var 12)))))
    (mb_cons (ms_expr (me_meth PySem.F.plainAttrs_list PySem.F.slot_list_append PySem.F.type_list_append mt_append ms_append (me_var 10) (ma_cons (me_callTy call_tuple_of cs_tuple T.b_tuple (ma_cons (me_var 11) ma_nil)) ma_nil)))
    (mb_cons (ms_for po rfl (mi_range1 T.b_range (ma_cons me_int ma_nil)) (mg_var sc__law_parts_hold.nd rfl (.inl rfl))
      (mb_cons (ms_set (i := 14) sc__law_parts_hold.nd rfl (.inl rfl) (me_tup (ma_cons (me_call (w__law_take T) (hr.mono (by decide)) T.d__law_take.mgf T.d__law_take.fn.kp T.d__law_take.bd tk (ma_cons (me_var 0) (ma_cons (me_var 2) ma_nil))) (ma_cons (me_call (w__law_take T) (hr.mono (by decide)) T.d__law_take.mgf T.d__law_take.fn.kp T.d__law_take.bd tk (ma_cons (me_var 0) (ma_cons (me_var 2) ma_nil))) ma_nil))))
    (mb_cons (ms_expr (me_meth PySem.F.plainAttrs_list PySem.F.slot_list_append PySem.F.type_list_append mt_append ms_append (me_var 10) (ma_cons (me_call (w__law_closure T) (hr.mono (by decide)) T.d__law_closure.mgf T.d__law_closure.fn.kp T.d__law_closure.bd tk (ma_cons (me_var 1) (ma_cons (me_var 2) (ma_cons (me_op op_addAll os_add (me_var 3) (me_tup (ma_cons (me_var 14) ma_nil))) ma_nil)))) ma_nil)))
    (mb_one (ms_expr (me_meth PySem.F.plainAttrs_list PySem.F.slot_list_append PySem.F.type_list_append mt_append ms_append (me_var 10) (ma_cons (me_call (w__law_closure T) (hr.mono (by decide)) T.d__law_closure.mgf T.d__law_closure.fn.kp T.d__law_closure.bd tk (ma_cons (me_var 1) (ma_cons (me_var 2) (ma_cons (me_tup (ma_cons (me_var 14) ma_nil)) ma_nil)))) ma_nil)))))))
    (mb_cons (ms_for po rfl (mi_range1 T.b_range (ma_cons me_int ma_nil)) (mg_var sc__law_parts_hold.nd rfl (.inl rfl))
      (mb_cons (ms_set (i := 15) sc__law_parts_hold.nd rfl (.inl rfl) (me_call (w__law_take T) (hr.mono (by decide)) T.d__law_take.mgf T.d__law_take.fn.kp T.d__law_take.bd tk (ma_cons (me_var 0) (ma_cons (me_var 2) ma_nil))))
    (mb_cons (ms_set (i := 16) sc__law_parts_hold.nd rfl (.inl rfl) (me_lst (ma_cons (me_un un_neg us_neg me_int) (ma_cons (me_var 15) (ma_cons me_int (ma_cons (me_ix ix_seq os_ix (me_var 4) (me_call (w__law_take T) (hr.mono (by decide)) T.d__law_take.mgf T.d__law_take.fn.kp T.d__law_take.bd tk (ma_cons (me_var 0) (ma_cons (me_var 2) ma_nil)))) (ma_cons (me_var 2) (ma_cons me_bl (ma_cons me_bl (ma_cons me_non (ma_cons me_str (ma_cons (me_tup (ma_cons me_int ma_nil)) ma_nil))))))))))))
    (mb_one (ms_expr (me_meth PySem.F.plainAttrs_list PySem.F.slot_list_append PySem.F.type_list_append mt_append ms_append (me_var 10) (ma_cons (me_op op_addAll os_add (me_op op_addAll os_add (me_slice (me_var 4) mo_none (mo_some (me_var 15))) (me_tup (ma_cons (me_ix ix_seq os_ix (me_var 16) (me_call (w__law_take T) (hr.mono (by decide)) T.d__law_take.mgf T.d__law_take.fn.kp T.d__law_take.bd tk (ma_cons (me_var 0) (ma_cons me_int ma_nil)))) ma_nil))) (me_slice (me_var 4) (mo_some (me_op op_addAll os_add (me_var 15) me_int)) mo_none)) ma_nil)))))))
    (mb_cons (ms_for po rfl (mi_val (me_var 10)) (mg_var sc__law_parts_hold.nd rfl (.inl rfl))
      (mb_one (ms_for po rfl (mi_val (me_lst (ma_cons (me_tup (ma_cons (me_var 6) (ma_cons (me_var 9) ma_nil))) (ma_cons (me_tup (ma_cons (me_var 9) (ma_cons (me_var 6) ma_nil))) (ma_cons (me_tup (ma_cons (me_var 6) (ma_cons (me_var 6) ma_nil))) ma_nil))))) (mg_var sc__law_parts_hold.nd rfl (.inl rfl))
      (mb_cons (ms_set (i := 18) sc__law_parts_hold.nd rfl (.inl rfl) (me_call (w_shows_parted T) (hr.mono (by decide)) T.d_shows_parted.mgf T.d_shows_parted.fn.kp T.d_shows_parted.bd tk (ma_cons (me_var 1) (ma_cons (me_var 2) (ma_cons (me_var 3) (ma_cons (me_ix ix_seq os_ix (me_var 14) me_int) (ma_cons (me_ix ix_seq os_ix (me_var 14) me_int) (ma_cons (me_var 17) ma_nil))))))))
    (mb_one (ms_if (mt_not (mt_truth ts_truth (me_call (w__law_is_truth T) (hr.mono (by decide)) T.d__law_is_truth.mgf T.d__law_is_truth.fn.kp T.d__law_is_truth.bd tk (ma_cons (me_var 18) (ma_cons (me_call (w__law_parts T) (hr.mono (by decide)) T.d__law_parts.mgf T.d__law_parts.fn.kp T.d__law_parts.bd tk (ma_cons (me_var 17) (ma_cons (me_var 1) (ma_cons (me_var 2) (ma_cons (me_var 3) (ma_cons (me_ix ix_seq os_ix (me_var 14) me_int) (ma_cons (me_ix ix_seq os_ix (me_var 14) me_int) ma_nil))))))) ma_nil)))))
      (mb_one (ms_ret me_bl))
      mb_nil))))))
    (mb_one (ms_ret me_bl))))))))))))))
theorem w__law_asked (T : Txt K mg) : FnOk P w K mg base (L2.CX P w) 2 T.f__law_asked T.fd__law_asked ["bag", "points"] (spF K mg 2 c__law_asked) := by
  refine fn_ok (n := 6) (m := m__law_asked) T.d__law_asked.fn sc__law_asked rfl rfl fun cdv A outer s H E hr => ?_
  have tk : Takes (cxOf (L2.CX P w) P w K mg base N__law_asked "_law_asked" (defScope s__law_asked) T.f__law_asked cdv A outer s H E) (fun cls d _ H => E cls d H) := takes_of rfl rfl rfl rfl
  have po := passes_of (X := cxOf (L2.CX P w) P w K mg base N__law_asked "_law_asked" (defScope s__law_asked) T.f__law_asked cdv A outer s H E) rfl
  exact (mb_cons (ms_set (i := 2) sc__law_asked.nd rfl (.inl rfl) (me_lst ma_nil))
    (mb_cons (ms_if (mt_cmp op_gt os_gt (me_var 1) me_int (nomark _))
      (mb_cons (ms_for po rfl (mi_range1 T.b_range (ma_cons me_int ma_nil)) (mg_var sc__law_asked.nd rfl (.inl rfl))
      (mb_one (ms_expr (me_meth PySem.F.plainAttrs_list PySem.F.slot_list_append PySem.F.type_list_append mt_append ms_append (me_var 2) (ma_cons (me_tup (ma_cons (me_call (w__law_take T) (hr.mono (by decide)) T.d__law_take.mgf T.d__law_take.fn.kp T.d__law_take.bd tk (ma_cons (me_var 0) (ma_cons (me_var 1) ma_nil))) (ma_cons (me_call (w__law_take T) (hr.mono (by decide)) T.d__law_take.mgf T.d__law_take.fn.kp T.d__law_take.bd tk (ma_cons (me_var 0) (ma_cons (me_var 1) ma_nil))) ma_nil))) ma_nil)))))
    (mb_one (ms_ret (me_var 2))))
      mb_nil)
    (mb_cons (ms_for po rfl (mi_range1 T.b_range (ma_cons (me_var 1) ma_nil)) (mg_var sc__law_asked.nd rfl (.inl rfl))
      (mb_one (ms_for po rfl (mi_range1 T.b_range (ma_cons (me_var 1) ma_nil)) (mg_var sc__law_asked.nd rfl (.inl rfl))
      (mb_one (ms_expr (me_meth PySem.F.plainAttrs_list PySem.F.slot_list_append PySem.F.type_list_append mt_append ms_append (me_var 2) (ma_cons (me_tup (ma_cons (me_var 4) (ma_cons (me_var 5) ma_nil))) ma_nil)))))))
    (mb_one (ms_ret (me_var 2))))))
theorem w_law (T : Txt K mg) : FnOk P w K mg base (L2.CX P w) 7 T.f_law T.fd_law ["script"] (spF K mg 1 c_law) := by
  refine fn_ok (n := 18) (m := m_law) T.d_law.fn sc_law rfl rfl fun cdv A outer s H E hr => ?_
  have tk : Takes (cxOf (L2.CX P w) P w K mg base N_law "law" (defScope s_law) T.f_law cdv A outer s H E) (fun cls d _ H => E cls d H) := takes_of rfl rfl rfl rfl
  have po := passes_of (X := cxOf (L2.CX P w) P w K mg base N_law "law" (defScope s_law) T.f_law cdv A outer s H E) rfl
  exact (mb_cons (ms_set (i := 1) sc_law.nd rfl (.inl rfl) (me_call (w__law_bag T) (hr.mono (by decide)) T.d__law_bag.mgf T.d__law_bag.fn.kp T.d__law_bag.bd tk (ma_cons (me_var 0) (ma_cons me_int ma_nil))))
    (mb_cons (ms_set (i := 2) sc_law.nd rfl (.inl rfl) (me_ix ix_seq os_ix (me_lst (ma_cons me_int (ma_cons me_int (ma_cons me_int (ma_cons me_int (ma_cons me_int (ma_cons me_int (ma_cons me_int (ma_cons me_int ma_nil))))))))) (me_call (w__law_take T) (hr.mono (by decide)) T.d__law_take.mgf T.d__law_take.fn.kp T.d__law_take.bd tk (ma_cons (me_var 1) (ma_cons me_int ma_nil)))))
    (mb_cons (ms_if (mt_cmp (op_eqD hr.units) os_eq (me_call (w__law_take T) (hr.mono (by decide)) T.d__law_take.mgf T.d__law_take.fn.kp T.d__law_take.bd tk (ma_cons (me_var 1) (ma_cons me_int ma_nil))) me_int (nomark _))
      (mb_one (ms_set (i := 2) sc_law.nd rfl (.inl rfl) (me_op op_addAll os_add me_int (me_call (w__law_take T) (hr.mono (by decide)) T.d__law_take.mgf T.d__law_take.fn.kp T.d__law_take.bd tk (ma_cons (me_var 1) (ma_cons me_int ma_nil))))))
      mb_nil)
    (mb_cons (ms_set (i := 3) sc_law.nd rfl (.inl rfl) (me_call (w__law_take T) (hr.mono (by decide)) T.d__law_take.mgf T.d__law_take.fn.kp T.d__law_take.bd tk (ma_cons (me_var 1) (ma_cons me_int ma_nil))))
    (mb_cons (ms_if (mt_cmp (op_eqD hr.units) os_eq (me_call (w__law_take T) (hr.mono (by decide)) T.d__law_take.mgf T.d__law_take.fn.kp T.d__law_take.bd tk (ma_cons (me_var 1) (ma_cons me_int ma_nil))) me_int (nomark _))
      (mb_one (ms_set (i := 3) sc_law.nd rfl (.inl rfl) (me_op op_addAll os_add me_int (me_call (w__law_take T) (hr.mono (by decide)) T.d__law_take.mgf T.d__law_take.fn.kp T.d__law_take.bd tk (ma_cons (me_var 1) (ma_cons me_int ma_nil))))))
      mb_nil)
    (mb_cons (ms_set (i := 4) sc_law.nd rfl (.inl rfl) (me_call (w__law_take T) (hr.mono (by decide)) T.d__law_take.mgf T.d__law_take.fn.kp T.d__law_take.bd tk (ma_cons (me_var 1) (ma_cons me_int ma_nil))))
    (mb_cons (ms_if (mt_cmp (op_eqD hr.units) os_eq (me_call (w__law_take T) (hr.mono (by decide)) T.d__law_take.mgf T.d__law_take.fn.kp T.d__law_take.bd tk (ma_cons (me_var 1) (ma_cons me_int ma_nil))) me_int (nomark _))
      (mb_one (ms_set (i := 4) sc_law.nd rfl (.inl rfl) (me_op op_addAll os_add me_int (me_call (w__law_take T) (hr.mono (by decide)) T.d__law_take.mgf T.d__law_take.fn.kp T.d__law_take.bd tk (ma_cons (me_var 1) (ma_cons me_int ma_nil))))))
      mb_nil)
    (mb_cons (ms_set (i := 5) sc_law.nd rfl (.inr rfl) (me_cmp (op_eqD hr.units) os_eq (me_call (w__law_take T) (hr.mono (by decide)) T.d__law_take.mgf T.d__law_take.fn.kp T.d__law_take.bd tk (ma_cons (me_var 1) (ma_cons me_int ma_nil))) me_int (nomark _)))
    (mb_cons (ms_set (i := 6) sc_law.nd rfl (.inr rfl) (me_call (w__law_partition T) (hr.mono (by decide)) T.d__law_partition.mgf T.d__law_partition.fn.kp T.d__law_partition.bd tk (ma_cons (me_call (w__law_bag T) (hr.mono (by decide)) T.d__law_bag.mgf T.d__law_bag.fn.kp T.d__law_bag.bd tk (ma_cons (me_var 0) (ma_cons me_int ma_nil))) (ma_cons (me_var 2) ma_nil))))
    (mb_cons (ms_set (i := 7) sc_law.nd rfl (.inl rfl) (me_callTy call_tuple_of cs_tuple T.b_tuple (ma_cons (me_lc rfl sc_law.nd (mi_range1 T.b_range (ma_cons (me_var 3) ma_nil)) (blkOk_by (own := [("k", 8)]) (by show blkC N_law (defScope s_law) _ _ = true; decide +kernel)) (fun _ _ _ _ _ => (mgc_var sc_law.nd rfl (.inl rfl) (by decide))) (fun _ _ _ _ _ => mts_nil) (fun _ _ _ _ _ => (me_call (w__law_moving T) (hr.mono (by decide)) T.d__law_moving.mgf T.d__law_moving.fn.kp T.d__law_moving.bd takes0 (ma_cons (me_call (w__law_bag T) (hr.mono (by decide)) T.d__law_bag.mgf T.d__law_bag.fn.kp T.d__law_bag.bd takes0 (ma_cons (me_var 0) (ma_cons (me_op op_addAll os_add me_int (me_var 8)) ma_nil))) (ma_cons (me_var 6) (ma_cons (me_var 5) ma_nil)))))) ma_nil)))
    (mb_cons (ms_set (i := 9) sc_law.nd rfl (.inl rfl) (me_callTy call_tuple_of cs_tuple T.b_tuple (ma_cons (me_lc rfl sc_law.nd (mi_range1 T.b_range (ma_cons (me_var 4) ma_nil)) (blkOk_by (own := [("k", 8)]) (by show blkC N_law (defScope s_law) _ _ = true; decide +kernel)) (fun _ _ _ _ _ => (mgc_var sc_law.nd rfl (.inl rfl) (by decide))) (fun _ _ _ _ _ => mts_nil) (fun _ _ _ _ _ => (me_call (w__law_pair T) (hr.mono (by decide)) T.d__law_pair.mgf T.d__law_pair.fn.kp T.d__law_pair.bd takes0 (ma_cons (me_call (w__law_bag T) (hr.mono (by decide)) T.d__law_bag.mgf T.d__law_bag.fn.kp T.d__law_bag.bd takes0 (ma_cons (me_var 0) (ma_cons (me_op op_addAll os_add me_int (me_var 8)) ma_nil))) (ma_cons (me_var 6) (ma_cons (me_var 5) ma_nil)))))) ma_nil)))
    (mb_cons (ms_set (i := 10) sc_law.nd rfl (.inr rfl) (me_call (w__law_closure T) (hr.mono (by decide)) T.d__law_closure.mgf T.d__law_closure.fn.kp T.d__law_closure.bd tk (ma_cons (me_var 7) (ma_cons (me_var 2) (ma_cons (me_var 9) ma_nil)))))
    (mb_cons (ms_if (mt_not (mt_truth ts_truth (me_call (w__law_is_row T) (hr.mono (by decide)) T.d__law_is_row.mgf T.d__law_is_row.fn.kp T.d__law_is_row.bd tk (ma_cons (me_call (w_least_blocks T) (hr.mono (by decide)) T.d_least_blocks.mgf T.d_least_blocks.fn.kp T.d_least_blocks.bd tk (ma_cons (me_var 7) (ma_cons (me_var 2) (ma_cons (me_var 9) ma_nil)))) (ma_cons (me_var 10) ma_nil)))))
      (mb_one (ms_ret me_bl))
      mb_nil)
    (mb_cons (ms_if (mt_not (mt_truth ts_truth (me_call (w__law_lone_hold T) (hr.mono (by decide)) T.d__law_lone_hold.mgf T.d__law_lone_hold.fn.kp T.d__law_lone_hold.bd tk (ma_cons (me_call (w__law_bag T) (hr.mono (by decide)) T.d__law_bag.mgf T.d__law_bag.fn.kp T.d__law_bag.bd tk (ma_cons (me_var 0) (ma_cons me_int ma_nil))) (ma_cons (me_var 7) (ma_cons (me_var 2) (ma_cons (me_var 9) ma_nil)))))))
      (mb_one (ms_ret me_bl))
      mb_nil)
    (mb_cons (ms_set (i := 11) sc_law.nd rfl (.inl rfl) (me_call (w__law_drawn T) (hr.mono (by decide)) T.d__law_drawn.mgf T.d__law_drawn.fn.kp T.d__law_drawn.bd tk (ma_cons (me_call (w__law_bag T) (hr.mono (by decide)) T.d__law_bag.mgf T.d__law_bag.fn.kp T.d__law_bag.bd tk (ma_cons (me_var 0) (ma_cons me_int ma_nil))) (ma_cons (me_var 7) (ma_cons (me_var 2) (ma_cons (me_var 9) ma_nil))))))
    (mb_cons (ms_if (mt_not (mt_truth ts_truth (me_call (w__law_bends_hold T) (hr.mono (by decide)) T.d__law_bends_hold.mgf T.d__law_bends_hold.fn.kp T.d__law_bends_hold.bd tk (ma_cons (me_call (w__law_bag T) (hr.mono (by decide)) T.d__law_bag.mgf T.d__law_bag.fn.kp T.d__law_bag.bd tk (ma_cons (me_var 0) (ma_cons me_int ma_nil))) (ma_cons (me_var 7) (ma_cons (me_var 2) (ma_cons (me_var 9) (ma_cons (me_var 11) ma_nil))))))))
      (mb_one (ms_ret me_bl))
      mb_nil)
    (mb_cons (ms_for po rfl (mi_val (me_call (w__law_asked T) (hr.mono (by decide)) T.d__law_asked.mgf T.d__law_asked.fn.kp T.d__law_asked.bd tk (ma_cons (me_call (w__law_bag T) (hr.mono (by decide)) T.d__law_bag.mgf T.d__law_bag.fn.kp T.d__law_bag.bd tk (ma_cons (me_var 0) (ma_cons me_int ma_nil))) (ma_cons (me_var 2) ma_nil)))) (mg_var sc_law.nd rfl (.inl rfl))
      (mb_one (ms_if (mt_not (mt_truth ts_truth (me_call (w__law_two_hold T) (hr.mono (by decide)) T.d__law_two_hold.mgf T.d__law_two_hold.fn.kp T.d__law_two_hold.bd tk (ma_cons (me_var 7) (ma_cons (me_var 2) (ma_cons (me_var 9) (ma_cons (me_ix ix_seq os_ix (me_var 12) me_int) (ma_cons (me_ix ix_seq os_ix (me_var 12) me_int) (ma_cons (me_var 10) ma_nil)))))))))
      (mb_one (ms_ret me_bl))
      mb_nil)))
    (mb_cons (ms_set (i := 13) sc_law.nd rfl (.inr rfl) (me_call (w__law_take T) (hr.mono (by decide)) T.d__law_take.mgf T.d__law_take.fn.kp T.d__law_take.bd tk (ma_cons (me_var 1) (ma_cons (me_var 2) ma_nil))))
    (mb_cons (ms_setLc (i := 14) rfl sc_law.nd rfl rfl (sw_true rfl rfl rfl (by decide +kernel)) (mi_range1 T.b_range (ma_cons (me_var 2) ma_nil)) (blkOk_by (own := [("x", 15)]) (by show blkC N_law (defScope s_law) _ _ = true; decide +kernel)) (fun _ _ _ _ _ => (mgc_var sc_law.nd rfl (.inl rfl) (by decide))) (fun _ _ _ _ _ => (mts_one (mt_cmp (op_eqD hr.units) os_eq (me_ix ix_seq os_ix (me_var 10) (me_var 15)) (me_ix ix_seq os_ix (me_var 10) (me_var 13)) (nomark _)))) (fun _ _ _ _ _ => (me_var 15)))
    (mb_cons (ms_set (i := 16) sc_law.nd rfl (.inl rfl) (me_call (w_join_reason T) (hr.mono (by decide)) T.d_join_reason.mgf T.d_join_reason.fn.kp T.d_join_reason.bd tk (ma_cons (me_var 7) (ma_cons (me_var 2) (ma_cons (me_var 9) (ma_cons (me_var 13) (ma_cons (me_ix ix_seq os_ix (me_var 14) (me_call (w__law_take T) (hr.mono (by decide)) T.d__law_take.mgf T.d__law_take.fn.kp T.d__law_take.bd tk (ma_cons (me_var 1) (ma_cons (me_callB cl_len cs_lenAll T.b_len (ma_cons (me_var 14) ma_nil)) ma_nil)))) ma_nil)))))))
    (mb_cons (ms_if (mt_not (mt_truth ts_truth (me_call (w__law_bends_hold T) (hr.mono (by decide)) T.d__law_bends_hold.mgf T.d__law_bends_hold.fn.kp T.d__law_bends_hold.bd tk (ma_cons (me_call (w__law_bag T) (hr.mono (by decide)) T.d__law_bag.mgf T.d__law_bag.fn.kp T.d__law_bag.bd tk (ma_cons (me_var 0) (ma_cons me_int ma_nil))) (ma_cons (me_var 7) (ma_cons (me_var 2) (ma_cons (me_var 9) (ma_cons (me_var 16) ma_nil))))))))
      (mb_one (ms_ret me_bl))
      mb_nil)
    (mb_cons (ms_set (i := 17) sc_law.nd rfl (.inl rfl) (me_call (w__law_partition T) (hr.mono (by decide)) T.d__law_partition.mgf T.d__law_partition.fn.kp T.d__law_partition.bd tk (ma_cons (me_call (w__law_bag T) (hr.mono (by decide)) T.d__law_bag.mgf T.d__law_bag.fn.kp T.d__law_bag.bd tk (ma_cons (me_var 0) (ma_cons me_int ma_nil))) (ma_cons (me_var 2) ma_nil))))
    (mb_one (ms_ret (me_call (w__law_parts_hold T) (hr.mono (by decide)) T.d__law_parts_hold.mgf T.d__law_parts_hold.fn.kp T.d__law_parts_hold.bd tk (ma_cons (me_call (w__law_bag T) (hr.mono (by decide)) T.d__law_bag.mgf T.d__law_bag.fn.kp T.d__law_bag.bd tk (ma_cons (me_var 0) (ma_cons me_int ma_nil))) (ma_cons (me_var 7) (ma_cons (me_var 2) (ma_cons (me_var 9) (ma_cons (me_var 10) (ma_cons (me_var 17) ma_nil)))))))))))))))))))))))))))))))
end
end Law

set_option maxHeartbeats 4000000
/-! printed by mk.py: what the top leaves, the end -/
namespace Law
open PySem PySem.Spec PyProof.Rows L2 Rf
theorem txt_mk {K : PySem.W.Frag} {mg : Str → Option Value} {h : Heap} (X : K.In h) (G : h.Ns mainGlobals mg)
  {od0 od1 od2 od3 od4 od5 od6 od7 od8 od9 od10 od11 od12 od13 od14 od15 od16 od17 od18 od19 od20 od21 od22 od23 od24 od25 od26 od27 od28 od29 od30 od31 od32 od33 od34 od35 od36 od37 od38 od39 od40 od41 od42 od43 : Option Addr}
  {an0 an1 an2 an3 an4 an5 an6 an7 an8 an9 an10 an11 an12 an13 an14 an15 an16 an17 an18 an19 an20 an21 an22 an23 an24 an25 an26 an27 an28 an29 an30 an31 an32 an33 an34 an35 an36 an37 an38 an39 an40 an41 an42 an43 : Option Addr}
  {sl0 sl1 sl2 sl3 sl4 sl5 sl6 sl7 sl8 sl9 sl10 sl11 sl12 sl13 sl14 sl15 sl16 sl17 sl18 sl19 sl20 sl21 sl22 sl23 sl24 sl25 sl26 sl27 sl28 sl29 sl30 sl31 sl32 sl33 sl34 sl35 sl36 sl37 sl38 sl39 sl40 sl41 sl42 sl43 : Array (Option Value)}
  {oc0 kV0 dc0 pm0 cd0 ct0 oc1 kV1 dc1 pm1 cd1 ct1 oc2 kV2 dc2 pm2 cd2 ct2 oc3 kV3 dc3 pm3 cd3 ct3 oc4 kV4 dc4 pm4 cd4 ct4 oc5 kV5 dc5 pm5 cd5 ct5 oc6 kV6 dc6 pm6 cd6 ct6 oc7 kV7 dc7 pm7 cd7 ct7 oc8 kV8 dc8 pm8 cd8 ct8 oc9 kV9 dc9 pm9 cd9 ct9 oc10 kV10 dc10 pm10 cd10 ct10 oc11 kV11 dc11 pm11 cd11 ct11 oc12 kV12 dc12 pm12 cd12 ct12 oc13 kV13 dc13 pm13 cd13 ct13 oc14 kV14 dc14 pm14 cd14 ct14 oc15 kV15 dc15 pm15 cd15 ct15 oc16 kV16 dc16 pm16 cd16 ct16 oc17 kV17 dc17 pm17 cd17 ct17 oc18 kV18 dc18 pm18 cd18 ct18 oc19 kV19 dc19 pm19 cd19 ct19 oc20 kV20 dc20 pm20 cd20 ct20 oc21 kV21 dc21 pm21 cd21 ct21 oc22 kV22 dc22 pm22 cd22 ct22 oc23 kV23 dc23 pm23 cd23 ct23 oc24 kV24 dc24 pm24 cd24 ct24 oc25 kV25 dc25 pm25 cd25 ct25 oc26 kV26 dc26 pm26 cd26 ct26 oc27 kV27 dc27 pm27 cd27 ct27 oc28 kV28 dc28 pm28 cd28 ct28 oc29 kV29 dc29 pm29 cd29 ct29 oc30 kV30 dc30 pm30 cd30 ct30 oc31 kV31 dc31 pm31 cd31 ct31 oc32 kV32 dc32 pm32 cd32 ct32 oc33 kV33 dc33 pm33 cd33 ct33 oc34 kV34 dc34 pm34 cd34 ct34 oc35 kV35 dc35 pm35 cd35 ct35 oc36 kV36 dc36 pm36 cd36 ct36 oc37 kV37 dc37 pm37 cd37 ct37 oc38 kV38 dc38 pm38 cd38 ct38 oc39 kV39 dc39 pm39 cd39 ct39 oc40 kV40 dc40 pm40 cd40 ct40 oc41 kV41 dc41 pm41 cd41 ct41 oc42 kV42 dc42 pm42 cd42 ct42 oc43 kV43 dc43 pm43 cd43 ct43 : Value}
  {f0 f1 f2 f3 f4 f5 f6 f7 f8 f9 f10 f11 f12 f13 f14 f15 f16 f17 f18 f19 f20 f21 f22 f23 f24 f25 f26 f27 f28 f29 f30 f31 f32 f33 f34 f35 f36 f37 f38 f39 f40 f41 f42 f43 : Addr}
  (a0 : PySem.W.nsIn K mainGlobals "is_whole" = some (some (.ref f0))) (l0 : K.lookup f0 = some ⟨oc0, od0, .func (PySem.W.fnOf "is_whole" "is_whole" (defArgs s_is_whole) (defBody s_is_whole) (defScope s_is_whole) .none kV0 dc0 pm0 an0 cd0 ct0), sl0⟩) (c0 : PySem.W.codeIn K cd0 "is_whole" = true) (k0 : PySem.W.keepIn K (.ref f0) = true)
  (a1 : PySem.W.nsIn K mainGlobals "is_index" = some (some (.ref f1))) (l1 : K.lookup f1 = some ⟨oc1, od1, .func (PySem.W.fnOf "is_index" "is_index" (defArgs s_is_index) (defBody s_is_index) (defScope s_is_index) .none kV1 dc1 pm1 an1 cd1 ct1), sl1⟩) (c1 : PySem.W.codeIn K cd1 "is_index" = true) (k1 : PySem.W.keepIn K (.ref f1) = true)
  (a2 : PySem.W.nsIn K mainGlobals "is_row" = some (some (.ref f2))) (l2 : K.lookup f2 = some ⟨oc2, od2, .func (PySem.W.fnOf "is_row" "is_row" (defArgs s_is_row) (defBody s_is_row) (defScope s_is_row) .none kV2 dc2 pm2 an2 cd2 ct2), sl2⟩) (c2 : PySem.W.codeIn K cd2 "is_row" = true) (k2 : PySem.W.keepIn K (.ref f2) = true)
  (a3 : PySem.W.nsIn K mainGlobals "alone" = some (some (.ref f3))) (l3 : K.lookup f3 = some ⟨oc3, od3, .func (PySem.W.fnOf "alone" "alone" (defArgs s_alone) (defBody s_alone) (defScope s_alone) .none kV3 dc3 pm3 an3 cd3 ct3), sl3⟩) (c3 : PySem.W.codeIn K cd3 "alone" = true) (k3 : PySem.W.keepIn K (.ref f3) = true)
  (a4 : PySem.W.nsIn K mainGlobals "merged" = some (some (.ref f4))) (l4 : K.lookup f4 = some ⟨oc4, od4, .func (PySem.W.fnOf "merged" "merged" (defArgs s_merged) (defBody s_merged) (defScope s_merged) .none kV4 dc4 pm4 an4 cd4 ct4), sl4⟩) (c4 : PySem.W.codeIn K cd4 "merged" = true) (k4 : PySem.W.keepIn K (.ref f4) = true)
  (a5 : PySem.W.nsIn K mainGlobals "is_labels" = some (some (.ref f5))) (l5 : K.lookup f5 = some ⟨oc5, od5, .func (PySem.W.fnOf "is_labels" "is_labels" (defArgs s_is_labels) (defBody s_is_labels) (defScope s_is_labels) .none kV5 dc5 pm5 an5 cd5 ct5), sl5⟩) (c5 : PySem.W.codeIn K cd5 "is_labels" = true) (k5 : PySem.W.keepIn K (.ref f5) = true)
  (a6 : PySem.W.nsIn K mainGlobals "broken" = some (some (.ref f6))) (l6 : K.lookup f6 = some ⟨oc6, od6, .func (PySem.W.fnOf "broken" "broken" (defArgs s_broken) (defBody s_broken) (defScope s_broken) .none kV6 dc6 pm6 an6 cd6 ct6), sl6⟩) (c6 : PySem.W.codeIn K cd6 "broken" = true) (k6 : PySem.W.keepIn K (.ref f6) = true)
  (a7 : PySem.W.nsIn K mainGlobals "least_blocks" = some (some (.ref f7))) (l7 : K.lookup f7 = some ⟨oc7, od7, .func (PySem.W.fnOf "least_blocks" "least_blocks" (defArgs s_least_blocks) (defBody s_least_blocks) (defScope s_least_blocks) .none kV7 dc7 pm7 an7 cd7 ct7), sl7⟩) (c7 : PySem.W.codeIn K cd7 "least_blocks" = true) (k7 : PySem.W.keepIn K (.ref f7) = true)
  (a8 : PySem.W.nsIn K mainGlobals "_followed" = some (some (.ref f8))) (l8 : K.lookup f8 = some ⟨oc8, od8, .func (PySem.W.fnOf "_followed" "_followed" (defArgs s__followed) (defBody s__followed) (defScope s__followed) .none kV8 dc8 pm8 an8 cd8 ct8), sl8⟩) (c8 : PySem.W.codeIn K cd8 "_followed" = true) (k8 : PySem.W.keepIn K (.ref f8) = true)
  (a9 : PySem.W.nsIn K mainGlobals "_tree_path" = some (some (.ref f9))) (l9 : K.lookup f9 = some ⟨oc9, od9, .func (PySem.W.fnOf "_tree_path" "_tree_path" (defArgs s__tree_path) (defBody s__tree_path) (defScope s__tree_path) .none kV9 dc9 pm9 an9 cd9 ct9), sl9⟩) (c9 : PySem.W.codeIn K cd9 "_tree_path" = true) (k9 : PySem.W.keepIn K (.ref f9) = true)
  (a10 : PySem.W.nsIn K mainGlobals "join_reason" = some (some (.ref f10))) (l10 : K.lookup f10 = some ⟨oc10, od10, .func (PySem.W.fnOf "join_reason" "join_reason" (defArgs s_join_reason) (defBody s_join_reason) (defScope s_join_reason) .none kV10 dc10 pm10 an10 cd10 ct10), sl10⟩) (c10 : PySem.W.codeIn K cd10 "join_reason" = true) (k10 : PySem.W.keepIn K (.ref f10) = true)
  (a11 : PySem.W.nsIn K mainGlobals "_pair_of" = some (some (.ref f11))) (l11 : K.lookup f11 = some ⟨oc11, od11, .func (PySem.W.fnOf "_pair_of" "_pair_of" (defArgs s__pair_of) (defBody s__pair_of) (defScope s__pair_of) .none kV11 dc11 pm11 an11 cd11 ct11), sl11⟩) (c11 : PySem.W.codeIn K cd11 "_pair_of" = true) (k11 : PySem.W.keepIn K (.ref f11) = true)
  (a12 : PySem.W.nsIn K mainGlobals "shows_joined" = some (some (.ref f12))) (l12 : K.lookup f12 = some ⟨oc12, od12, .func (PySem.W.fnOf "shows_joined" "shows_joined" (defArgs s_shows_joined) (defBody s_shows_joined) (defScope s_shows_joined) .none kV12 dc12 pm12 an12 cd12 ct12), sl12⟩) (c12 : PySem.W.codeIn K cd12 "shows_joined" = true) (k12 : PySem.W.keepIn K (.ref f12) = true)
  (a13 : PySem.W.nsIn K mainGlobals "shows_parted" = some (some (.ref f13))) (l13 : K.lookup f13 = some ⟨oc13, od13, .func (PySem.W.fnOf "shows_parted" "shows_parted" (defArgs s_shows_parted) (defBody s_shows_parted) (defScope s_shows_parted) .none kV13 dc13 pm13 an13 cd13 ct13), sl13⟩) (c13 : PySem.W.codeIn K cd13 "shows_parted" = true) (k13 : PySem.W.keepIn K (.ref f13) = true)
  (a14 : PySem.W.nsIn K mainGlobals "_law_cell" = some (some (.ref f14))) (l14 : K.lookup f14 = some ⟨oc14, od14, .func (PySem.W.fnOf "_law_cell" "_law_cell" (defArgs s__law_cell) (defBody s__law_cell) (defScope s__law_cell) .none kV14 dc14 pm14 an14 cd14 ct14), sl14⟩) (c14 : PySem.W.codeIn K cd14 "_law_cell" = true) (k14 : PySem.W.keepIn K (.ref f14) = true)
  (a15 : PySem.W.nsIn K mainGlobals "_law_bag" = some (some (.ref f15))) (l15 : K.lookup f15 = some ⟨oc15, od15, .func (PySem.W.fnOf "_law_bag" "_law_bag" (defArgs s__law_bag) (defBody s__law_bag) (defScope s__law_bag) .none kV15 dc15 pm15 an15 cd15 ct15), sl15⟩) (c15 : PySem.W.codeIn K cd15 "_law_bag" = true) (k15 : PySem.W.keepIn K (.ref f15) = true)
  (a16 : PySem.W.nsIn K mainGlobals "_law_take" = some (some (.ref f16))) (l16 : K.lookup f16 = some ⟨oc16, od16, .func (PySem.W.fnOf "_law_take" "_law_take" (defArgs s__law_take) (defBody s__law_take) (defScope s__law_take) .none kV16 dc16 pm16 an16 cd16 ct16), sl16⟩) (c16 : PySem.W.codeIn K cd16 "_law_take" = true) (k16 : PySem.W.keepIn K (.ref f16) = true)
  (a17 : PySem.W.nsIn K mainGlobals "_law_shuffled" = some (some (.ref f17))) (l17 : K.lookup f17 = some ⟨oc17, od17, .func (PySem.W.fnOf "_law_shuffled" "_law_shuffled" (defArgs s__law_shuffled) (defBody s__law_shuffled) (defScope s__law_shuffled) .none kV17 dc17 pm17 an17 cd17 ct17), sl17⟩) (c17 : PySem.W.codeIn K cd17 "_law_shuffled" = true) (k17 : PySem.W.keepIn K (.ref f17) = true)
  (a18 : PySem.W.nsIn K mainGlobals "_law_is_whole" = some (some (.ref f18))) (l18 : K.lookup f18 = some ⟨oc18, od18, .func (PySem.W.fnOf "_law_is_whole" "_law_is_whole" (defArgs s__law_is_whole) (defBody s__law_is_whole) (defScope s__law_is_whole) .none kV18 dc18 pm18 an18 cd18 ct18), sl18⟩) (c18 : PySem.W.codeIn K cd18 "_law_is_whole" = true) (k18 : PySem.W.keepIn K (.ref f18) = true)
  (a19 : PySem.W.nsIn K mainGlobals "_law_is_truth" = some (some (.ref f19))) (l19 : K.lookup f19 = some ⟨oc19, od19, .func (PySem.W.fnOf "_law_is_truth" "_law_is_truth" (defArgs s__law_is_truth) (defBody s__law_is_truth) (defScope s__law_is_truth) .none kV19 dc19 pm19 an19 cd19 ct19), sl19⟩) (c19 : PySem.W.codeIn K cd19 "_law_is_truth" = true) (k19 : PySem.W.keepIn K (.ref f19) = true)
  (a20 : PySem.W.nsIn K mainGlobals "_law_is_row" = some (some (.ref f20))) (l20 : K.lookup f20 = some ⟨oc20, od20, .func (PySem.W.fnOf "_law_is_row" "_law_is_row" (defArgs s__law_is_row) (defBody s__law_is_row) (defScope s__law_is_row) .none kV20 dc20 pm20 an20 cd20 ct20), sl20⟩) (c20 : PySem.W.codeIn K cd20 "_law_is_row" = true) (k20 : PySem.W.keepIn K (.ref f20) = true)
  (a21 : PySem.W.nsIn K mainGlobals "_law_partition" = some (some (.ref f21))) (l21 : K.lookup f21 = some ⟨oc21, od21, .func (PySem.W.fnOf "_law_partition" "_law_partition" (defArgs s__law_partition) (defBody s__law_partition) (defScope s__law_partition) .none kV21 dc21 pm21 an21 cd21 ct21), sl21⟩) (c21 : PySem.W.codeIn K cd21 "_law_partition" = true) (k21 : PySem.W.keepIn K (.ref f21) = true)
  (a22 : PySem.W.nsIn K mainGlobals "_law_classes" = some (some (.ref f22))) (l22 : K.lookup f22 = some ⟨oc22, od22, .func (PySem.W.fnOf "_law_classes" "_law_classes" (defArgs s__law_classes) (defBody s__law_classes) (defScope s__law_classes) .none kV22 dc22 pm22 an22 cd22 ct22), sl22⟩) (c22 : PySem.W.codeIn K cd22 "_law_classes" = true) (k22 : PySem.W.keepIn K (.ref f22) = true)
  (a23 : PySem.W.nsIn K mainGlobals "_law_keeping" = some (some (.ref f23))) (l23 : K.lookup f23 = some ⟨oc23, od23, .func (PySem.W.fnOf "_law_keeping" "_law_keeping" (defArgs s__law_keeping) (defBody s__law_keeping) (defScope s__law_keeping) .none kV23 dc23 pm23 an23 cd23 ct23), sl23⟩) (c23 : PySem.W.codeIn K cd23 "_law_keeping" = true) (k23 : PySem.W.keepIn K (.ref f23) = true)
  (a24 : PySem.W.nsIn K mainGlobals "_law_moving" = some (some (.ref f24))) (l24 : K.lookup f24 = some ⟨oc24, od24, .func (PySem.W.fnOf "_law_moving" "_law_moving" (defArgs s__law_moving) (defBody s__law_moving) (defScope s__law_moving) .none kV24 dc24 pm24 an24 cd24 ct24), sl24⟩) (c24 : PySem.W.codeIn K cd24 "_law_moving" = true) (k24 : PySem.W.keepIn K (.ref f24) = true)
  (a25 : PySem.W.nsIn K mainGlobals "_law_is_labels" = some (some (.ref f25))) (l25 : K.lookup f25 = some ⟨oc25, od25, .func (PySem.W.fnOf "_law_is_labels" "_law_is_labels" (defArgs s__law_is_labels) (defBody s__law_is_labels) (defScope s__law_is_labels) .none kV25 dc25 pm25 an25 cd25 ct25), sl25⟩) (c25 : PySem.W.codeIn K cd25 "_law_is_labels" = true) (k25 : PySem.W.keepIn K (.ref f25) = true)
  (a26 : PySem.W.nsIn K mainGlobals "_law_merged" = some (some (.ref f26))) (l26 : K.lookup f26 = some ⟨oc26, od26, .func (PySem.W.fnOf "_law_merged" "_law_merged" (defArgs s__law_merged) (defBody s__law_merged) (defScope s__law_merged) .none kV26 dc26 pm26 an26 cd26 ct26), sl26⟩) (c26 : PySem.W.codeIn K cd26 "_law_merged" = true) (k26 : PySem.W.keepIn K (.ref f26) = true)
  (a27 : PySem.W.nsIn K mainGlobals "_law_closure" = some (some (.ref f27))) (l27 : K.lookup f27 = some ⟨oc27, od27, .func (PySem.W.fnOf "_law_closure" "_law_closure" (defArgs s__law_closure) (defBody s__law_closure) (defScope s__law_closure) .none kV27 dc27 pm27 an27 cd27 ct27), sl27⟩) (c27 : PySem.W.codeIn K cd27 "_law_closure" = true) (k27 : PySem.W.keepIn K (.ref f27) = true)
  (a28 : PySem.W.nsIn K mainGlobals "_law_holds" = some (some (.ref f28))) (l28 : K.lookup f28 = some ⟨oc28, od28, .func (PySem.W.fnOf "_law_holds" "_law_holds" (defArgs s__law_holds) (defBody s__law_holds) (defScope s__law_holds) .none kV28 dc28 pm28 an28 cd28 ct28), sl28⟩) (c28 : PySem.W.codeIn K cd28 "_law_holds" = true) (k28 : PySem.W.keepIn K (.ref f28) = true)
  (a29 : PySem.W.nsIn K mainGlobals "_law_pair" = some (some (.ref f29))) (l29 : K.lookup f29 = some ⟨oc29, od29, .func (PySem.W.fnOf "_law_pair" "_law_pair" (defArgs s__law_pair) (defBody s__law_pair) (defScope s__law_pair) .none kV29 dc29 pm29 an29 cd29 ct29), sl29⟩) (c29 : PySem.W.codeIn K cd29 "_law_pair" = true) (k29 : PySem.W.keepIn K (.ref f29) = true)
  (a30 : PySem.W.nsIn K mainGlobals "_law_is_index" = some (some (.ref f30))) (l30 : K.lookup f30 = some ⟨oc30, od30, .func (PySem.W.fnOf "_law_is_index" "_law_is_index" (defArgs s__law_is_index) (defBody s__law_is_index) (defScope s__law_is_index) .none kV30 dc30 pm30 an30 cd30 ct30), sl30⟩) (c30 : PySem.W.codeIn K cd30 "_law_is_index" = true) (k30 : PySem.W.keepIn K (.ref f30) = true)
  (a31 : PySem.W.nsIn K mainGlobals "_law_limits" = some (some (.ref f31))) (l31 : K.lookup f31 = some ⟨oc31, od31, .func (PySem.W.fnOf "_law_limits" "_law_limits" (defArgs s__law_limits) (defBody s__law_limits) (defScope s__law_limits) .none kV31 dc31 pm31 an31 cd31 ct31), sl31⟩) (c31 : PySem.W.codeIn K cd31 "_law_limits" = true) (k31 : PySem.W.keepIn K (.ref f31) = true)
  (a32 : PySem.W.nsIn K mainGlobals "_law_line" = some (some (.ref f32))) (l32 : K.lookup f32 = some ⟨oc32, od32, .func (PySem.W.fnOf "_law_line" "_law_line" (defArgs s__law_line) (defBody s__law_line) (defScope s__law_line) .none kV32 dc32 pm32 an32 cd32 ct32), sl32⟩) (c32 : PySem.W.codeIn K cd32 "_law_line" = true) (k32 : PySem.W.keepIn K (.ref f32) = true)
  (a33 : PySem.W.nsIn K mainGlobals "_law_ends" = some (some (.ref f33))) (l33 : K.lookup f33 = some ⟨oc33, od33, .func (PySem.W.fnOf "_law_ends" "_law_ends" (defArgs s__law_ends) (defBody s__law_ends) (defScope s__law_ends) .none kV33 dc33 pm33 an33 cd33 ct33), sl33⟩) (c33 : PySem.W.codeIn K cd33 "_law_ends" = true) (k33 : PySem.W.keepIn K (.ref f33) = true)
  (a34 : PySem.W.nsIn K mainGlobals "_law_drawn" = some (some (.ref f34))) (l34 : K.lookup f34 = some ⟨oc34, od34, .func (PySem.W.fnOf "_law_drawn" "_law_drawn" (defArgs s__law_drawn) (defBody s__law_drawn) (defScope s__law_drawn) .none kV34 dc34 pm34 an34 cd34 ct34), sl34⟩) (c34 : PySem.W.codeIn K cd34 "_law_drawn" = true) (k34 : PySem.W.keepIn K (.ref f34) = true)
  (a35 : PySem.W.nsIn K mainGlobals "_law_bent" = some (some (.ref f35))) (l35 : K.lookup f35 = some ⟨oc35, od35, .func (PySem.W.fnOf "_law_bent" "_law_bent" (defArgs s__law_bent) (defBody s__law_bent) (defScope s__law_bent) .none kV35 dc35 pm35 an35 cd35 ct35), sl35⟩) (c35 : PySem.W.codeIn K cd35 "_law_bent" = true) (k35 : PySem.W.keepIn K (.ref f35) = true)
  (a36 : PySem.W.nsIn K mainGlobals "_law_joined_as" = some (some (.ref f36))) (l36 : K.lookup f36 = some ⟨oc36, od36, .func (PySem.W.fnOf "_law_joined_as" "_law_joined_as" (defArgs s__law_joined_as) (defBody s__law_joined_as) (defScope s__law_joined_as) .none kV36 dc36 pm36 an36 cd36 ct36), sl36⟩) (c36 : PySem.W.codeIn K cd36 "_law_joined_as" = true) (k36 : PySem.W.keepIn K (.ref f36) = true)
  (a37 : PySem.W.nsIn K mainGlobals "_law_bends_hold" = some (some (.ref f37))) (l37 : K.lookup f37 = some ⟨oc37, od37, .func (PySem.W.fnOf "_law_bends_hold" "_law_bends_hold" (defArgs s__law_bends_hold) (defBody s__law_bends_hold) (defScope s__law_bends_hold) .none kV37 dc37 pm37 an37 cd37 ct37), sl37⟩) (c37 : PySem.W.codeIn K cd37 "_law_bends_hold" = true) (k37 : PySem.W.keepIn K (.ref f37) = true)
  (a38 : PySem.W.nsIn K mainGlobals "_law_lone_hold" = some (some (.ref f38))) (l38 : K.lookup f38 = some ⟨oc38, od38, .func (PySem.W.fnOf "_law_lone_hold" "_law_lone_hold" (defArgs s__law_lone_hold) (defBody s__law_lone_hold) (defScope s__law_lone_hold) .none kV38 dc38 pm38 an38 cd38 ct38), sl38⟩) (c38 : PySem.W.codeIn K cd38 "_law_lone_hold" = true) (k38 : PySem.W.keepIn K (.ref f38) = true)
  (a39 : PySem.W.nsIn K mainGlobals "_law_two_hold" = some (some (.ref f39))) (l39 : K.lookup f39 = some ⟨oc39, od39, .func (PySem.W.fnOf "_law_two_hold" "_law_two_hold" (defArgs s__law_two_hold) (defBody s__law_two_hold) (defScope s__law_two_hold) .none kV39 dc39 pm39 an39 cd39 ct39), sl39⟩) (c39 : PySem.W.codeIn K cd39 "_law_two_hold" = true) (k39 : PySem.W.keepIn K (.ref f39) = true)
  (a40 : PySem.W.nsIn K mainGlobals "_law_parts" = some (some (.ref f40))) (l40 : K.lookup f40 = some ⟨oc40, od40, .func (PySem.W.fnOf "_law_parts" "_law_parts" (defArgs s__law_parts) (defBody s__law_parts) (defScope s__law_parts) .none kV40 dc40 pm40 an40 cd40 ct40), sl40⟩) (c40 : PySem.W.codeIn K cd40 "_law_parts" = true) (k40 : PySem.W.keepIn K (.ref f40) = true)
  (a41 : PySem.W.nsIn K mainGlobals "_law_parts_hold" = some (some (.ref f41))) (l41 : K.lookup f41 = some ⟨oc41, od41, .func (PySem.W.fnOf "_law_parts_hold" "_law_parts_hold" (defArgs s__law_parts_hold) (defBody s__law_parts_hold) (defScope s__law_parts_hold) .none kV41 dc41 pm41 an41 cd41 ct41), sl41⟩) (c41 : PySem.W.codeIn K cd41 "_law_parts_hold" = true) (k41 : PySem.W.keepIn K (.ref f41) = true)
  (a42 : PySem.W.nsIn K mainGlobals "_law_asked" = some (some (.ref f42))) (l42 : K.lookup f42 = some ⟨oc42, od42, .func (PySem.W.fnOf "_law_asked" "_law_asked" (defArgs s__law_asked) (defBody s__law_asked) (defScope s__law_asked) .none kV42 dc42 pm42 an42 cd42 ct42), sl42⟩) (c42 : PySem.W.codeIn K cd42 "_law_asked" = true) (k42 : PySem.W.keepIn K (.ref f42) = true)
  (a43 : PySem.W.nsIn K mainGlobals "law" = some (some (.ref f43))) (l43 : K.lookup f43 = some ⟨oc43, od43, .func (PySem.W.fnOf "law" "law" (defArgs s_law) (defBody s_law) (defScope s_law) .none kV43 dc43 pm43 an43 cd43 ct43), sl43⟩) (c43 : PySem.W.codeIn K cd43 "law" = true) (k43 : PySem.W.keepIn K (.ref f43) = true)
  (z0 : PySem.W.nsIn K mainGlobals "int" = some none)
  (z1 : PySem.W.nsIn K mainGlobals "isinstance" = some none)
  (z2 : PySem.W.nsIn K mainGlobals "bool" = some none)
  (z3 : PySem.W.nsIn K mainGlobals "tuple" = some none)
  (z4 : PySem.W.nsIn K mainGlobals "len" = some none)
  (z5 : PySem.W.nsIn K mainGlobals "range" = some none)
  (z6 : PySem.W.nsIn K mainGlobals "min" = some none)
  (z7 : PySem.W.nsIn K mainGlobals "max" = some none)
  (z8 : PySem.W.nsIn K mainGlobals "enumerate" = some none)
  (z9 : PySem.W.nsIn K mainGlobals "list" = some none)
  (z10 : PySem.W.nsIn K mainGlobals "all" = some none)
  (z11 : PySem.W.nsIn K mainGlobals "sum" = some none)
  (z12 : PySem.W.nsIn K mainGlobals "str" = some none) : ∃ T : Txt K mg, T.fd_law = (PySem.W.fnOf "law" "law" (defArgs s_law) (defBody s_law) (defScope s_law) .none kV43 dc43 pm43 an43 cd43 ct43) := by
  have F0 := fun_mk (st := s_is_whole) l0 c0 k0
  have B0 := F0.binds (ps := ["value"]) fun _ _ _ _ _ _ us hl => match us, hl with | [_], _ => rfl
  have F1 := fun_mk (st := s_is_index) l1 c1 k1
  have B1 := F1.binds (ps := ["value", "limit"]) fun _ _ _ _ _ _ us hl => match us, hl with | [_, _], _ => rfl
  have F2 := fun_mk (st := s_is_row) l2 c2 k2
  have B2 := F2.binds (ps := ["value", "length"]) fun _ _ _ _ _ _ us hl => match us, hl with | [_, _], _ => rfl
  have F3 := fun_mk (st := s_alone) l3 c3 k3
  have B3 := F3.binds (ps := ["points"]) fun _ _ _ _ _ _ us hl => match us, hl with | [_], _ => rfl
  have F4 := fun_mk (st := s_merged) l4 c4 k4
  have B4 := F4.binds (ps := ["labels", "i", "j"]) fun _ _ _ _ _ _ us hl => match us, hl with | [_, _, _], _ => rfl
  have F5 := fun_mk (st := s_is_labels) l5 c5 k5
  have B5 := F5.binds (ps := ["value", "points"]) fun _ _ _ _ _ _ us hl => match us, hl with | [_, _], _ => rfl
  have F6 := fun_mk (st := s_broken) l6 c6 k6
  have B6 := F6.binds (ps := ["labels", "perms"]) fun _ _ _ _ _ _ us hl => match us, hl with | [_, _], _ => rfl
  have F7 := fun_mk (st := s_least_blocks) l7 c7 k7
  have B7 := F7.binds (ps := ["perms", "points", "pairs"]) fun _ _ _ _ _ _ us hl => match us, hl with | [_, _, _], _ => rfl
  have F8 := fun_mk (st := s__followed) l8 c8 k8
  have B8 := F8.binds (ps := ["lines", "path", "i"]) fun _ _ _ _ _ _ us hl => match us, hl with | [_, _, _], _ => rfl
  have F9 := fun_mk (st := s__tree_path) l9 c9 k9
  have B9 := F9.binds (ps := ["links", "points", "i", "j"]) fun _ _ _ _ _ _ us hl => match us, hl with | [_, _, _, _], _ => rfl
  have F10 := fun_mk (st := s_join_reason) l10 c10 k10
  have B10 := F10.binds (ps := ["perms", "points", "pairs", "i", "j"]) fun _ _ _ _ _ _ us hl => match us, hl with | [_, _, _, _, _], _ => rfl
  have F11 := fun_mk (st := s__pair_of) l11 c11 k11
  have B11 := F11.binds (ps := ["line", "earlier", "perms", "points", "pairs"]) fun _ _ _ _ _ _ us hl => match us, hl with | [_, _, _, _, _], _ => rfl
  have F12 := fun_mk (st := s_shows_joined) l12 c12 k12
  have B12 := F12.binds (ps := ["perms", "points", "pairs", "i", "j", "reason"]) fun _ _ _ _ _ _ us hl => match us, hl with | [_, _, _, _, _, _], _ => rfl
  have F13 := fun_mk (st := s_shows_parted) l13 c13 k13
  have B13 := F13.binds (ps := ["perms", "points", "pairs", "i", "j", "labels"]) fun _ _ _ _ _ _ us hl => match us, hl with | [_, _, _, _, _, _], _ => rfl
  have F14 := fun_mk (st := s__law_cell) l14 c14 k14
  have B14 := F14.binds (ps := ["script", "k"]) fun _ _ _ _ _ _ us hl => match us, hl with | [_, _], _ => rfl
  have F15 := fun_mk (st := s__law_bag) l15 c15 k15
  have B15 := F15.binds (ps := ["script", "k"]) fun _ _ _ _ _ _ us hl => match us, hl with | [_, _], _ => rfl
  have F16 := fun_mk (st := s__law_take) l16 c16 k16
  have B16 := F16.binds (ps := ["bag", "size"]) fun _ _ _ _ _ _ us hl => match us, hl with | [_, _], _ => rfl
  have F17 := fun_mk (st := s__law_shuffled) l17 c17 k17
  have B17 := F17.binds (ps := ["bag", "many"]) fun _ _ _ _ _ _ us hl => match us, hl with | [_, _], _ => rfl
  have F18 := fun_mk (st := s__law_is_whole) l18 c18 k18
  have B18 := F18.binds (ps := ["value"]) fun _ _ _ _ _ _ us hl => match us, hl with | [_], _ => rfl
  have F19 := fun_mk (st := s__law_is_truth) l19 c19 k19
  have B19 := F19.binds (ps := ["actual", "due"]) fun _ _ _ _ _ _ us hl => match us, hl with | [_, _], _ => rfl
  have F20 := fun_mk (st := s__law_is_row) l20 c20 k20
  have B20 := F20.binds (ps := ["actual", "due"]) fun _ _ _ _ _ _ us hl => match us, hl with | [_, _], _ => rfl
  have F21 := fun_mk (st := s__law_partition) l21 c21 k21
  have B21 := F21.binds (ps := ["bag", "points"]) fun _ _ _ _ _ _ us hl => match us, hl with | [_, _], _ => rfl
  have F22 := fun_mk (st := s__law_classes) l22 c22 k22
  have B22 := F22.binds (ps := ["labels"]) fun _ _ _ _ _ _ us hl => match us, hl with | [_], _ => rfl
  have F23 := fun_mk (st := s__law_keeping) l23 c23 k23
  have B23 := F23.binds (ps := ["bag", "labels"]) fun _ _ _ _ _ _ us hl => match us, hl with | [_, _], _ => rfl
  have F24 := fun_mk (st := s__law_moving) l24 c24 k24
  have B24 := F24.binds (ps := ["bag", "labels", "strict"]) fun _ _ _ _ _ _ us hl => match us, hl with | [_, _, _], _ => rfl
  have F25 := fun_mk (st := s__law_is_labels) l25 c25 k25
  have B25 := F25.binds (ps := ["value", "points"]) fun _ _ _ _ _ _ us hl => match us, hl with | [_, _], _ => rfl
  have F26 := fun_mk (st := s__law_merged) l26 c26 k26
  have B26 := F26.binds (ps := ["row", "a", "b"]) fun _ _ _ _ _ _ us hl => match us, hl with | [_, _, _], _ => rfl
  have F27 := fun_mk (st := s__law_closure) l27 c27 k27
  have B27 := F27.binds (ps := ["perms", "points", "pairs"]) fun _ _ _ _ _ _ us hl => match us, hl with | [_, _, _], _ => rfl
  have F28 := fun_mk (st := s__law_holds) l28 c28 k28
  have B28 := F28.binds (ps := ["labels", "perms", "pairs"]) fun _ _ _ _ _ _ us hl => match us, hl with | [_, _, _], _ => rfl
  have F29 := fun_mk (st := s__law_pair) l29 c29 k29
  have B29 := F29.binds (ps := ["bag", "base", "strict"]) fun _ _ _ _ _ _ us hl => match us, hl with | [_, _, _], _ => rfl
  have F30 := fun_mk (st := s__law_is_index) l30 c30 k30
  have B30 := F30.binds (ps := ["value", "limit"]) fun _ _ _ _ _ _ us hl => match us, hl with | [_, _], _ => rfl
  have F31 := fun_mk (st := s__law_limits) l31 c31 k31
  have B31 := F31.binds (ps := ["word", "points", "pairs", "perms", "lines"]) fun _ _ _ _ _ _ us hl => match us, hl with | [_, _, _, _, _], _ => rfl
  have F32 := fun_mk (st := s__law_line) l32 c32 k32
  have B32 := F32.binds (ps := ["line", "ends", "perms", "points", "pairs"]) fun _ _ _ _ _ _ us hl => match us, hl with | [_, _, _, _, _], _ => rfl
  have F33 := fun_mk (st := s__law_ends) l33 c33 k33
  have B33 := F33.binds (ps := ["reason", "perms", "points", "pairs"]) fun _ _ _ _ _ _ us hl => match us, hl with | [_, _, _, _], _ => rfl
  have F34 := fun_mk (st := s__law_drawn) l34 c34 k34
  have B34 := F34.binds (ps := ["bag", "perms", "points", "pairs"]) fun _ _ _ _ _ _ us hl => match us, hl with | [_, _, _, _], _ => rfl
  have F35 := fun_mk (st := s__law_bent) l35 c35 k35
  have B35 := F35.binds (ps := ["bag", "reason", "points"]) fun _ _ _ _ _ _ us hl => match us, hl with | [_, _, _], _ => rfl
  have F36 := fun_mk (st := s__law_joined_as) l36 c36 k36
  have B36 := F36.binds (ps := ["reason", "perms", "points", "pairs", "targets"]) fun _ _ _ _ _ _ us hl => match us, hl with | [_, _, _, _, _], _ => rfl
  have F37 := fun_mk (st := s__law_bends_hold) l37 c37 k37
  have B37 := F37.binds (ps := ["bag", "perms", "points", "pairs", "reason"]) fun _ _ _ _ _ _ us hl => match us, hl with | [_, _, _, _, _], _ => rfl
  have F38 := fun_mk (st := s__law_lone_hold) l38 c38 k38
  have B38 := F38.binds (ps := ["bag", "perms", "points", "pairs"]) fun _ _ _ _ _ _ us hl => match us, hl with | [_, _, _, _], _ => rfl
  have F39 := fun_mk (st := s__law_two_hold) l39 c39 k39
  have B39 := F39.binds (ps := ["perms", "points", "pairs", "i", "j", "labels"]) fun _ _ _ _ _ _ us hl => match us, hl with | [_, _, _, _, _, _], _ => rfl
  have F40 := fun_mk (st := s__law_parts) l40 c40 k40
  have B40 := F40.binds (ps := ["value", "perms", "points", "pairs", "i", "j"]) fun _ _ _ _ _ _ us hl => match us, hl with | [_, _, _, _, _, _], _ => rfl
  have F41 := fun_mk (st := s__law_parts_hold) l41 c41 k41
  have B41 := F41.binds (ps := ["bag", "perms", "points", "pairs", "labels", "other"]) fun _ _ _ _ _ _ us hl => match us, hl with | [_, _, _, _, _, _], _ => rfl
  have F42 := fun_mk (st := s__law_asked) l42 c42 k42
  have B42 := F42.binds (ps := ["bag", "points"]) fun _ _ _ _ _ _ us hl => match us, hl with | [_, _], _ => rfl
  have F43 := fun_mk (st := s_law) l43 c43 k43
  have B43 := F43.binds (ps := ["script"]) fun _ _ _ _ _ _ us hl => match us, hl with | [_], _ => rfl
  exact ⟨⟨f0, _, ⟨F0, PySem.W.mg_of X G a0, B0⟩, f1, _, ⟨F1, PySem.W.mg_of X G a1, B1⟩, f2, _, ⟨F2, PySem.W.mg_of X G a2, B2⟩, f3, _, ⟨F3, PySem.W.mg_of X G a3, B3⟩, f4, _, ⟨F4, PySem.W.mg_of X G a4, B4⟩, f5, _, ⟨F5, PySem.W.mg_of X G a5, B5⟩, f6, _, ⟨F6, PySem.W.mg_of X G a6, B6⟩, f7, _, ⟨F7, PySem.W.mg_of X G a7, B7⟩, f8, _, ⟨F8, PySem.W.mg_of X G a8, B8⟩, f9, _, ⟨F9, PySem.W.mg_of X G a9, B9⟩, f10, _, ⟨F10, PySem.W.mg_of X G a10, B10⟩, f11, _, ⟨F11, PySem.W.mg_of X G a11, B11⟩, f12, _, ⟨F12, PySem.W.mg_of X G a12, B12⟩, f13, _, ⟨F13, PySem.W.mg_of X G a13, B13⟩, f14, _, ⟨F14, PySem.W.mg_of X G a14, B14⟩, f15, _, ⟨F15, PySem.W.mg_of X G a15, B15⟩, f16, _, ⟨F16, PySem.W.mg_of X G a16, B16⟩, f17, _, ⟨F17, PySem.W.mg_of X G a17, B17⟩, f18, _, ⟨F18, PySem.W.mg_of X G a18, B18⟩, f19, _, ⟨F19, PySem.W.mg_of X G a19, B19⟩, f20, _, ⟨F20, PySem.W.mg_of X G a20, B20⟩, f21, _, ⟨F21, PySem.W.mg_of X G a21, B21⟩, f22, _, ⟨F22, PySem.W.mg_of X G a22, B22⟩, f23, _, ⟨F23, PySem.W.mg_of X G a23, B23⟩, f24, _, ⟨F24, PySem.W.mg_of X G a24, B24⟩, f25, _, ⟨F25, PySem.W.mg_of X G a25, B25⟩, f26, _, ⟨F26, PySem.W.mg_of X G a26, B26⟩, f27, _, ⟨F27, PySem.W.mg_of X G a27, B27⟩, f28, _, ⟨F28, PySem.W.mg_of X G a28, B28⟩, f29, _, ⟨F29, PySem.W.mg_of X G a29, B29⟩, f30, _, ⟨F30, PySem.W.mg_of X G a30, B30⟩, f31, _, ⟨F31, PySem.W.mg_of X G a31, B31⟩, f32, _, ⟨F32, PySem.W.mg_of X G a32, B32⟩, f33, _, ⟨F33, PySem.W.mg_of X G a33, B33⟩, f34, _, ⟨F34, PySem.W.mg_of X G a34, B34⟩, f35, _, ⟨F35, PySem.W.mg_of X G a35, B35⟩, f36, _, ⟨F36, PySem.W.mg_of X G a36, B36⟩, f37, _, ⟨F37, PySem.W.mg_of X G a37, B37⟩, f38, _, ⟨F38, PySem.W.mg_of X G a38, B38⟩, f39, _, ⟨F39, PySem.W.mg_of X G a39, B39⟩, f40, _, ⟨F40, PySem.W.mg_of X G a40, B40⟩, f41, _, ⟨F41, PySem.W.mg_of X G a41, B41⟩, f42, _, ⟨F42, PySem.W.mg_of X G a42, B42⟩, f43, _, ⟨F43, PySem.W.mg_of X G a43, B43⟩, PySem.W.mg_none_of X G z0, PySem.W.mg_none_of X G z1, PySem.W.mg_none_of X G z2, PySem.W.mg_none_of X G z3, PySem.W.mg_none_of X G z4, PySem.W.mg_none_of X G z5, PySem.W.mg_none_of X G z6, PySem.W.mg_none_of X G z7, PySem.W.mg_none_of X G z8, PySem.W.mg_none_of X G z9, PySem.W.mg_none_of X G z10, PySem.W.mg_none_of X G z11, PySem.W.mg_none_of X G z12⟩, rfl⟩
theorem all_mk {w : World} {K : PySem.W.Frag} {mg : Str → Option Value} {h : Heap} {fa : Addr} (X : K.In h) (G : h.Ns mainGlobals mg) (hfa : mg "law" = some (.ref fa))
  {od0 od1 od2 od3 od4 od5 od6 od7 od8 od9 od10 od11 od12 od13 od14 od15 od16 od17 od18 od19 od20 od21 od22 od23 od24 od25 od26 od27 od28 od29 od30 od31 od32 od33 od34 od35 od36 od37 od38 od39 od40 od41 od42 od43 : Option Addr}
  {an0 an1 an2 an3 an4 an5 an6 an7 an8 an9 an10 an11 an12 an13 an14 an15 an16 an17 an18 an19 an20 an21 an22 an23 an24 an25 an26 an27 an28 an29 an30 an31 an32 an33 an34 an35 an36 an37 an38 an39 an40 an41 an42 an43 : Option Addr}
  {sl0 sl1 sl2 sl3 sl4 sl5 sl6 sl7 sl8 sl9 sl10 sl11 sl12 sl13 sl14 sl15 sl16 sl17 sl18 sl19 sl20 sl21 sl22 sl23 sl24 sl25 sl26 sl27 sl28 sl29 sl30 sl31 sl32 sl33 sl34 sl35 sl36 sl37 sl38 sl39 sl40 sl41 sl42 sl43 : Array (Option Value)}
  {oc0 kV0 dc0 pm0 cd0 ct0 oc1 kV1 dc1 pm1 cd1 ct1 oc2 kV2 dc2 pm2 cd2 ct2 oc3 kV3 dc3 pm3 cd3 ct3 oc4 kV4 dc4 pm4 cd4 ct4 oc5 kV5 dc5 pm5 cd5 ct5 oc6 kV6 dc6 pm6 cd6 ct6 oc7 kV7 dc7 pm7 cd7 ct7 oc8 kV8 dc8 pm8 cd8 ct8 oc9 kV9 dc9 pm9 cd9 ct9 oc10 kV10 dc10 pm10 cd10 ct10 oc11 kV11 dc11 pm11 cd11 ct11 oc12 kV12 dc12 pm12 cd12 ct12 oc13 kV13 dc13 pm13 cd13 ct13 oc14 kV14 dc14 pm14 cd14 ct14 oc15 kV15 dc15 pm15 cd15 ct15 oc16 kV16 dc16 pm16 cd16 ct16 oc17 kV17 dc17 pm17 cd17 ct17 oc18 kV18 dc18 pm18 cd18 ct18 oc19 kV19 dc19 pm19 cd19 ct19 oc20 kV20 dc20 pm20 cd20 ct20 oc21 kV21 dc21 pm21 cd21 ct21 oc22 kV22 dc22 pm22 cd22 ct22 oc23 kV23 dc23 pm23 cd23 ct23 oc24 kV24 dc24 pm24 cd24 ct24 oc25 kV25 dc25 pm25 cd25 ct25 oc26 kV26 dc26 pm26 cd26 ct26 oc27 kV27 dc27 pm27 cd27 ct27 oc28 kV28 dc28 pm28 cd28 ct28 oc29 kV29 dc29 pm29 cd29 ct29 oc30 kV30 dc30 pm30 cd30 ct30 oc31 kV31 dc31 pm31 cd31 ct31 oc32 kV32 dc32 pm32 cd32 ct32 oc33 kV33 dc33 pm33 cd33 ct33 oc34 kV34 dc34 pm34 cd34 ct34 oc35 kV35 dc35 pm35 cd35 ct35 oc36 kV36 dc36 pm36 cd36 ct36 oc37 kV37 dc37 pm37 cd37 ct37 oc38 kV38 dc38 pm38 cd38 ct38 oc39 kV39 dc39 pm39 cd39 ct39 oc40 kV40 dc40 pm40 cd40 ct40 oc41 kV41 dc41 pm41 cd41 ct41 oc42 kV42 dc42 pm42 cd42 ct42 oc43 kV43 dc43 pm43 cd43 ct43 : Value}
  {f0 f1 f2 f3 f4 f5 f6 f7 f8 f9 f10 f11 f12 f13 f14 f15 f16 f17 f18 f19 f20 f21 f22 f23 f24 f25 f26 f27 f28 f29 f30 f31 f32 f33 f34 f35 f36 f37 f38 f39 f40 f41 f42 f43 : Addr}
  (a0 : PySem.W.nsIn K mainGlobals "is_whole" = some (some (.ref f0))) (l0 : K.lookup f0 = some ⟨oc0, od0, .func (PySem.W.fnOf "is_whole" "is_whole" (defArgs s_is_whole) (defBody s_is_whole) (defScope s_is_whole) .none kV0 dc0 pm0 an0 cd0 ct0), sl0⟩) (c0 : PySem.W.codeIn K cd0 "is_whole" = true) (k0 : PySem.W.keepIn K (.ref f0) = true)
  (a1 : PySem.W.nsIn K mainGlobals "is_index" = some (some (.ref f1))) (l1 : K.lookup f1 = some ⟨oc1, od1, .func (PySem.W.fnOf "is_index" "is_index" (defArgs s_is_index) (defBody s_is_index) (defScope s_is_index) .none kV1 dc1 pm1 an1 cd1 ct1), sl1⟩) (c1 : PySem.W.codeIn K cd1 "is_index" = true) (k1 : PySem.W.keepIn K (.ref f1) = true)
  (a2 : PySem.W.nsIn K mainGlobals "is_row" = some (some (.ref f2))) (l2 : K.lookup f2 = some ⟨oc2, od2, .func (PySem.W.fnOf "is_row" "is_row" (defArgs s_is_row) (defBody s_is_row) (defScope s_is_row) .none kV2 dc2 pm2 an2 cd2 ct2), sl2⟩) (c2 : PySem.W.codeIn K cd2 "is_row" = true) (k2 : PySem.W.keepIn K (.ref f2) = true)
  (a3 : PySem.W.nsIn K mainGlobals "alone" = some (some (.ref f3))) (l3 : K.lookup f3 = some ⟨oc3, od3, .func (PySem.W.fnOf "alone" "alone" (defArgs s_alone) (defBody s_alone) (defScope s_alone) .none kV3 dc3 pm3 an3 cd3 ct3), sl3⟩) (c3 : PySem.W.codeIn K cd3 "alone" = true) (k3 : PySem.W.keepIn K (.ref f3) = true)
  (a4 : PySem.W.nsIn K mainGlobals "merged" = some (some (.ref f4))) (l4 : K.lookup f4 = some ⟨oc4, od4, .func (PySem.W.fnOf "merged" "merged" (defArgs s_merged) (defBody s_merged) (defScope s_merged) .none kV4 dc4 pm4 an4 cd4 ct4), sl4⟩) (c4 : PySem.W.codeIn K cd4 "merged" = true) (k4 : PySem.W.keepIn K (.ref f4) = true)
  (a5 : PySem.W.nsIn K mainGlobals "is_labels" = some (some (.ref f5))) (l5 : K.lookup f5 = some ⟨oc5, od5, .func (PySem.W.fnOf "is_labels" "is_labels" (defArgs s_is_labels) (defBody s_is_labels) (defScope s_is_labels) .none kV5 dc5 pm5 an5 cd5 ct5), sl5⟩) (c5 : PySem.W.codeIn K cd5 "is_labels" = true) (k5 : PySem.W.keepIn K (.ref f5) = true)
  (a6 : PySem.W.nsIn K mainGlobals "broken" = some (some (.ref f6))) (l6 : K.lookup f6 = some ⟨oc6, od6, .func (PySem.W.fnOf "broken" "broken" (defArgs s_broken) (defBody s_broken) (defScope s_broken) .none kV6 dc6 pm6 an6 cd6 ct6), sl6⟩) (c6 : PySem.W.codeIn K cd6 "broken" = true) (k6 : PySem.W.keepIn K (.ref f6) = true)
  (a7 : PySem.W.nsIn K mainGlobals "least_blocks" = some (some (.ref f7))) (l7 : K.lookup f7 = some ⟨oc7, od7, .func (PySem.W.fnOf "least_blocks" "least_blocks" (defArgs s_least_blocks) (defBody s_least_blocks) (defScope s_least_blocks) .none kV7 dc7 pm7 an7 cd7 ct7), sl7⟩) (c7 : PySem.W.codeIn K cd7 "least_blocks" = true) (k7 : PySem.W.keepIn K (.ref f7) = true)
  (a8 : PySem.W.nsIn K mainGlobals "_followed" = some (some (.ref f8))) (l8 : K.lookup f8 = some ⟨oc8, od8, .func (PySem.W.fnOf "_followed" "_followed" (defArgs s__followed) (defBody s__followed) (defScope s__followed) .none kV8 dc8 pm8 an8 cd8 ct8), sl8⟩) (c8 : PySem.W.codeIn K cd8 "_followed" = true) (k8 : PySem.W.keepIn K (.ref f8) = true)
  (a9 : PySem.W.nsIn K mainGlobals "_tree_path" = some (some (.ref f9))) (l9 : K.lookup f9 = some ⟨oc9, od9, .func (PySem.W.fnOf "_tree_path" "_tree_path" (defArgs s__tree_path) (defBody s__tree_path) (defScope s__tree_path) .none kV9 dc9 pm9 an9 cd9 ct9), sl9⟩) (c9 : PySem.W.codeIn K cd9 "_tree_path" = true) (k9 : PySem.W.keepIn K (.ref f9) = true)
  (a10 : PySem.W.nsIn K mainGlobals "join_reason" = some (some (.ref f10))) (l10 : K.lookup f10 = some ⟨oc10, od10, .func (PySem.W.fnOf "join_reason" "join_reason" (defArgs s_join_reason) (defBody s_join_reason) (defScope s_join_reason) .none kV10 dc10 pm10 an10 cd10 ct10), sl10⟩) (c10 : PySem.W.codeIn K cd10 "join_reason" = true) (k10 : PySem.W.keepIn K (.ref f10) = true)
  (a11 : PySem.W.nsIn K mainGlobals "_pair_of" = some (some (.ref f11))) (l11 : K.lookup f11 = some ⟨oc11, od11, .func (PySem.W.fnOf "_pair_of" "_pair_of" (defArgs s__pair_of) (defBody s__pair_of) (defScope s__pair_of) .none kV11 dc11 pm11 an11 cd11 ct11), sl11⟩) (c11 : PySem.W.codeIn K cd11 "_pair_of" = true) (k11 : PySem.W.keepIn K (.ref f11) = true)
  (a12 : PySem.W.nsIn K mainGlobals "shows_joined" = some (some (.ref f12))) (l12 : K.lookup f12 = some ⟨oc12, od12, .func (PySem.W.fnOf "shows_joined" "shows_joined" (defArgs s_shows_joined) (defBody s_shows_joined) (defScope s_shows_joined) .none kV12 dc12 pm12 an12 cd12 ct12), sl12⟩) (c12 : PySem.W.codeIn K cd12 "shows_joined" = true) (k12 : PySem.W.keepIn K (.ref f12) = true)
  (a13 : PySem.W.nsIn K mainGlobals "shows_parted" = some (some (.ref f13))) (l13 : K.lookup f13 = some ⟨oc13, od13, .func (PySem.W.fnOf "shows_parted" "shows_parted" (defArgs s_shows_parted) (defBody s_shows_parted) (defScope s_shows_parted) .none kV13 dc13 pm13 an13 cd13 ct13), sl13⟩) (c13 : PySem.W.codeIn K cd13 "shows_parted" = true) (k13 : PySem.W.keepIn K (.ref f13) = true)
  (a14 : PySem.W.nsIn K mainGlobals "_law_cell" = some (some (.ref f14))) (l14 : K.lookup f14 = some ⟨oc14, od14, .func (PySem.W.fnOf "_law_cell" "_law_cell" (defArgs s__law_cell) (defBody s__law_cell) (defScope s__law_cell) .none kV14 dc14 pm14 an14 cd14 ct14), sl14⟩) (c14 : PySem.W.codeIn K cd14 "_law_cell" = true) (k14 : PySem.W.keepIn K (.ref f14) = true)
  (a15 : PySem.W.nsIn K mainGlobals "_law_bag" = some (some (.ref f15))) (l15 : K.lookup f15 = some ⟨oc15, od15, .func (PySem.W.fnOf "_law_bag" "_law_bag" (defArgs s__law_bag) (defBody s__law_bag) (defScope s__law_bag) .none kV15 dc15 pm15 an15 cd15 ct15), sl15⟩) (c15 : PySem.W.codeIn K cd15 "_law_bag" = true) (k15 : PySem.W.keepIn K (.ref f15) = true)
  (a16 : PySem.W.nsIn K mainGlobals "_law_take" = some (some (.ref f16))) (l16 : K.lookup f16 = some ⟨oc16, od16, .func (PySem.W.fnOf "_law_take" "_law_take" (defArgs s__law_take) (defBody s__law_take) (defScope s__law_take) .none kV16 dc16 pm16 an16 cd16 ct16), sl16⟩) (c16 : PySem.W.codeIn K cd16 "_law_take" = true) (k16 : PySem.W.keepIn K (.ref f16) = true)
  (a17 : PySem.W.nsIn K mainGlobals "_law_shuffled" = some (some (.ref f17))) (l17 : K.lookup f17 = some ⟨oc17, od17, .func (PySem.W.fnOf "_law_shuffled" "_law_shuffled" (defArgs s__law_shuffled) (defBody s__law_shuffled) (defScope s__law_shuffled) .none kV17 dc17 pm17 an17 cd17 ct17), sl17⟩) (c17 : PySem.W.codeIn K cd17 "_law_shuffled" = true) (k17 : PySem.W.keepIn K (.ref f17) = true)
  (a18 : PySem.W.nsIn K mainGlobals "_law_is_whole" = some (some (.ref f18))) (l18 : K.lookup f18 = some ⟨oc18, od18, .func (PySem.W.fnOf "_law_is_whole" "_law_is_whole" (defArgs s__law_is_whole) (defBody s__law_is_whole) (defScope s__law_is_whole) .none kV18 dc18 pm18 an18 cd18 ct18), sl18⟩) (c18 : PySem.W.codeIn K cd18 "_law_is_whole" = true) (k18 : PySem.W.keepIn K (.ref f18) = true)
  (a19 : PySem.W.nsIn K mainGlobals "_law_is_truth" = some (some (.ref f19))) (l19 : K.lookup f19 = some ⟨oc19, od19, .func (PySem.W.fnOf "_law_is_truth" "_law_is_truth" (defArgs s__law_is_truth) (defBody s__law_is_truth) (defScope s__law_is_truth) .none kV19 dc19 pm19 an19 cd19 ct19), sl19⟩) (c19 : PySem.W.codeIn K cd19 "_law_is_truth" = true) (k19 : PySem.W.keepIn K (.ref f19) = true)
  (a20 : PySem.W.nsIn K mainGlobals "_law_is_row" = some (some (.ref f20))) (l20 : K.lookup f20 = some ⟨oc20, od20, .func (PySem.W.fnOf "_law_is_row" "_law_is_row" (defArgs s__law_is_row) (defBody s__law_is_row) (defScope s__law_is_row) .none kV20 dc20 pm20 an20 cd20 ct20), sl20⟩) (c20 : PySem.W.codeIn K cd20 "_law_is_row" = true) (k20 : PySem.W.keepIn K (.ref f20) = true)
  (a21 : PySem.W.nsIn K mainGlobals "_law_partition" = some (some (.ref f21))) (l21 : K.lookup f21 = some ⟨oc21, od21, .func (PySem.W.fnOf "_law_partition" "_law_partition" (defArgs s__law_partition) (defBody s__law_partition) (defScope s__law_partition) .none kV21 dc21 pm21 an21 cd21 ct21), sl21⟩) (c21 : PySem.W.codeIn K cd21 "_law_partition" = true) (k21 : PySem.W.keepIn K (.ref f21) = true)
  (a22 : PySem.W.nsIn K mainGlobals "_law_classes" = some (some (.ref f22))) (l22 : K.lookup f22 = some ⟨oc22, od22, .func (PySem.W.fnOf "_law_classes" "_law_classes" (defArgs s__law_classes) (defBody s__law_classes) (defScope s__law_classes) .none kV22 dc22 pm22 an22 cd22 ct22), sl22⟩) (c22 : PySem.W.codeIn K cd22 "_law_classes" = true) (k22 : PySem.W.keepIn K (.ref f22) = true)
  (a23 : PySem.W.nsIn K mainGlobals "_law_keeping" = some (some (.ref f23))) (l23 : K.lookup f23 = some ⟨oc23, od23, .func (PySem.W.fnOf "_law_keeping" "_law_keeping" (defArgs s__law_keeping) (defBody s__law_keeping) (defScope s__law_keeping) .none kV23 dc23 pm23 an23 cd23 ct23), sl23⟩) (c23 : PySem.W.codeIn K cd23 "_law_keeping" = true) (k23 : PySem.W.keepIn K (.ref f23) = true)
  (a24 : PySem.W.nsIn K mainGlobals "_law_moving" = some (some (.ref f24))) (l24 : K.lookup f24 = some ⟨oc24, od24, .func (PySem.W.fnOf "_law_moving" "_law_moving" (defArgs s__law_moving) (defBody s__law_moving) (defScope s__law_moving) .none kV24 dc24 pm24 an24 cd24 ct24), sl24⟩) (c24 : PySem.W.codeIn K cd24 "_law_moving" = true) (k24 : PySem.W.keepIn K (.ref f24) = true)
  (a25 : PySem.W.nsIn K mainGlobals "_law_is_labels" = some (some (.ref f25))) (l25 : K.lookup f25 = some ⟨oc25, od25, .func (PySem.W.fnOf "_law_is_labels" "_law_is_labels" (defArgs s__law_is_labels) (defBody s__law_is_labels) (defScope s__law_is_labels) .none kV25 dc25 pm25 an25 cd25 ct25), sl25⟩) (c25 : PySem.W.codeIn K cd25 "_law_is_labels" = true) (k25 : PySem.W.keepIn K (.ref f25) = true)
  (a26 : PySem.W.nsIn K mainGlobals "_law_merged" = some (some (.ref f26))) (l26 : K.lookup f26 = some ⟨oc26, od26, .func (PySem.W.fnOf "_law_merged" "_law_merged" (defArgs s__law_merged) (defBody s__law_merged) (defScope s__law_merged) .none kV26 dc26 pm26 an26 cd26 ct26), sl26⟩) (c26 : PySem.W.codeIn K cd26 "_law_merged" = true) (k26 : PySem.W.keepIn K (.ref f26) = true)
  (a27 : PySem.W.nsIn K mainGlobals "_law_closure" = some (some (.ref f27))) (l27 : K.lookup f27 = some ⟨oc27, od27, .func (PySem.W.fnOf "_law_closure" "_law_closure" (defArgs s__law_closure) (defBody s__law_closure) (defScope s__law_closure) .none kV27 dc27 pm27 an27 cd27 ct27), sl27⟩) (c27 : PySem.W.codeIn K cd27 "_law_closure" = true) (k27 : PySem.W.keepIn K (.ref f27) = true)
  (a28 : PySem.W.nsIn K mainGlobals "_law_holds" = some (some (.ref f28))) (l28 : K.lookup f28 = some ⟨oc28, od28, .func (PySem.W.fnOf "_law_holds" "_law_holds" (defArgs s__law_holds) (defBody s__law_holds) (defScope s__law_holds) .none kV28 dc28 pm28 an28 cd28 ct28), sl28⟩) (c28 : PySem.W.codeIn K cd28 "_law_holds" = true) (k28 : PySem.W.keepIn K (.ref f28) = true)
  (a29 : PySem.W.nsIn K mainGlobals "_law_pair" = some (some (.ref f29))) (l29 : K.lookup f29 = some ⟨oc29, od29, .func (PySem.W.fnOf "_law_pair" "_law_pair" (defArgs s__law_pair) (defBody s__law_pair) (defScope s__law_pair) .none kV29 dc29 pm29 an29 cd29 ct29), sl29⟩) (c29 : PySem.W.codeIn K cd29 "_law_pair" = true) (k29 : PySem.W.keepIn K (.ref f29) = true)
  (a30 : PySem.W.nsIn K mainGlobals "_law_is_index" = some (some (.ref f30))) (l30 : K.lookup f30 = some ⟨oc30, od30, .func (PySem.W.fnOf "_law_is_index" "_law_is_index" (defArgs s__law_is_index) (defBody s__law_is_index) (defScope s__law_is_index) .none kV30 dc30 pm30 an30 cd30 ct30), sl30⟩) (c30 : PySem.W.codeIn K cd30 "_law_is_index" = true) (k30 : PySem.W.keepIn K (.ref f30) = true)
  (a31 : PySem.W.nsIn K mainGlobals "_law_limits" = some (some (.ref f31))) (l31 : K.lookup f31 = some ⟨oc31, od31, .func (PySem.W.fnOf "_law_limits" "_law_limits" (defArgs s__law_limits) (defBody s__law_limits) (defScope s__law_limits) .none kV31 dc31 pm31 an31 cd31 ct31), sl31⟩) (c31 : PySem.W.codeIn K cd31 "_law_limits" = true) (k31 : PySem.W.keepIn K (.ref f31) = true)
  (a32 : PySem.W.nsIn K mainGlobals "_law_line" = some (some (.ref f32))) (l32 : K.lookup f32 = some ⟨oc32, od32, .func (PySem.W.fnOf "_law_line" "_law_line" (defArgs s__law_line) (defBody s__law_line) (defScope s__law_line) .none kV32 dc32 pm32 an32 cd32 ct32), sl32⟩) (c32 : PySem.W.codeIn K cd32 "_law_line" = true) (k32 : PySem.W.keepIn K (.ref f32) = true)
  (a33 : PySem.W.nsIn K mainGlobals "_law_ends" = some (some (.ref f33))) (l33 : K.lookup f33 = some ⟨oc33, od33, .func (PySem.W.fnOf "_law_ends" "_law_ends" (defArgs s__law_ends) (defBody s__law_ends) (defScope s__law_ends) .none kV33 dc33 pm33 an33 cd33 ct33), sl33⟩) (c33 : PySem.W.codeIn K cd33 "_law_ends" = true) (k33 : PySem.W.keepIn K (.ref f33) = true)
  (a34 : PySem.W.nsIn K mainGlobals "_law_drawn" = some (some (.ref f34))) (l34 : K.lookup f34 = some ⟨oc34, od34, .func (PySem.W.fnOf "_law_drawn" "_law_drawn" (defArgs s__law_drawn) (defBody s__law_drawn) (defScope s__law_drawn) .none kV34 dc34 pm34 an34 cd34 ct34), sl34⟩) (c34 : PySem.W.codeIn K cd34 "_law_drawn" = true) (k34 : PySem.W.keepIn K (.ref f34) = true)
  (a35 : PySem.W.nsIn K mainGlobals "_law_bent" = some (some (.ref f35))) (l35 : K.lookup f35 = some ⟨oc35, od35, .func (PySem.W.fnOf "_law_bent" "_law_bent" (defArgs s__law_bent) (defBody s__law_bent) (defScope s__law_bent) .none kV35 dc35 pm35 an35 cd35 ct35), sl35⟩) (c35 : PySem.W.codeIn K cd35 "_law_bent" = true) (k35 : PySem.W.keepIn K (.ref f35) = true)
  (a36 : PySem.W.nsIn K mainGlobals "_law_joined_as" = some (some (.ref f36))) (l36 : K.lookup f36 = some ⟨oc36, od36, .func (PySem.W.fnOf "_law_joined_as" "_law_joined_as" (defArgs s__law_joined_as) (defBody s__law_joined_as) (defScope s__law_joined_as) .none kV36 dc36 pm36 an36 cd36 ct36), sl36⟩) (c36 : PySem.W.codeIn K cd36 "_law_joined_as" = true) (k36 : PySem.W.keepIn K (.ref f36) = true)
  (a37 : PySem.W.nsIn K mainGlobals "_law_bends_hold" = some (some (.ref f37))) (l37 : K.lookup f37 = some ⟨oc37, od37, .func (PySem.W.fnOf "_law_bends_hold" "_law_bends_hold" (defArgs s__law_bends_hold) (defBody s__law_bends_hold) (defScope s__law_bends_hold) .none kV37 dc37 pm37 an37 cd37 ct37), sl37⟩) (c37 : PySem.W.codeIn K cd37 "_law_bends_hold" = true) (k37 : PySem.W.keepIn K (.ref f37) = true)
  (a38 : PySem.W.nsIn K mainGlobals "_law_lone_hold" = some (some (.ref f38))) (l38 : K.lookup f38 = some ⟨oc38, od38, .func (PySem.W.fnOf "_law_lone_hold" "_law_lone_hold" (defArgs s__law_lone_hold) (defBody s__law_lone_hold) (defScope s__law_lone_hold) .none kV38 dc38 pm38 an38 cd38 ct38), sl38⟩) (c38 : PySem.W.codeIn K cd38 "_law_lone_hold" = true) (k38 : PySem.W.keepIn K (.ref f38) = true)
  (a39 : PySem.W.nsIn K mainGlobals "_law_two_hold" = some (some (.ref f39))) (l39 : K.lookup f39 = some ⟨oc39, od39, .func (PySem.W.fnOf "_law_two_hold" "_law_two_hold" (defArgs s__law_two_hold) (defBody s__law_two_hold) (defScope s__law_two_hold) .none kV39 dc39 pm39 an39 cd39 ct39), sl39⟩) (c39 : PySem.W.codeIn K cd39 "_law_two_hold" = true) (k39 : PySem.W.keepIn K (.ref f39) = true)
  (a40 : PySem.W.nsIn K mainGlobals "_law_parts" = some (some (.ref f40))) (l40 : K.lookup f40 = some ⟨oc40, od40, .func (PySem.W.fnOf "_law_parts" "_law_parts" (defArgs s__law_parts) (defBody s__law_parts) (defScope s__law_parts) .none kV40 dc40 pm40 an40 cd40 ct40), sl40⟩) (c40 : PySem.W.codeIn K cd40 "_law_parts" = true) (k40 : PySem.W.keepIn K (.ref f40) = true)
  (a41 : PySem.W.nsIn K mainGlobals "_law_parts_hold" = some (some (.ref f41))) (l41 : K.lookup f41 = some ⟨oc41, od41, .func (PySem.W.fnOf "_law_parts_hold" "_law_parts_hold" (defArgs s__law_parts_hold) (defBody s__law_parts_hold) (defScope s__law_parts_hold) .none kV41 dc41 pm41 an41 cd41 ct41), sl41⟩) (c41 : PySem.W.codeIn K cd41 "_law_parts_hold" = true) (k41 : PySem.W.keepIn K (.ref f41) = true)
  (a42 : PySem.W.nsIn K mainGlobals "_law_asked" = some (some (.ref f42))) (l42 : K.lookup f42 = some ⟨oc42, od42, .func (PySem.W.fnOf "_law_asked" "_law_asked" (defArgs s__law_asked) (defBody s__law_asked) (defScope s__law_asked) .none kV42 dc42 pm42 an42 cd42 ct42), sl42⟩) (c42 : PySem.W.codeIn K cd42 "_law_asked" = true) (k42 : PySem.W.keepIn K (.ref f42) = true)
  (a43 : PySem.W.nsIn K mainGlobals "law" = some (some (.ref f43))) (l43 : K.lookup f43 = some ⟨oc43, od43, .func (PySem.W.fnOf "law" "law" (defArgs s_law) (defBody s_law) (defScope s_law) .none kV43 dc43 pm43 an43 cd43 ct43), sl43⟩) (c43 : PySem.W.codeIn K cd43 "law" = true) (k43 : PySem.W.keepIn K (.ref f43) = true)
  (z0 : PySem.W.nsIn K mainGlobals "int" = some none)
  (z1 : PySem.W.nsIn K mainGlobals "isinstance" = some none)
  (z2 : PySem.W.nsIn K mainGlobals "bool" = some none)
  (z3 : PySem.W.nsIn K mainGlobals "tuple" = some none)
  (z4 : PySem.W.nsIn K mainGlobals "len" = some none)
  (z5 : PySem.W.nsIn K mainGlobals "range" = some none)
  (z6 : PySem.W.nsIn K mainGlobals "min" = some none)
  (z7 : PySem.W.nsIn K mainGlobals "max" = some none)
  (z8 : PySem.W.nsIn K mainGlobals "enumerate" = some none)
  (z9 : PySem.W.nsIn K mainGlobals "list" = some none)
  (z10 : PySem.W.nsIn K mainGlobals "all" = some none)
  (z11 : PySem.W.nsIn K mainGlobals "sum" = some none)
  (z12 : PySem.W.nsIn K mainGlobals "str" = some none) :
  ∃ fd : FuncData, (∀ (s : Shared) (v : Value), BindsTo s fd ⟨[v], []⟩ [("script", v)]) ∧ ∀ base : Heap, K.In base → base.Ns mainGlobals mg → FnOk PySem.Challenge.rw_tumbler_k12_whole_one_certificate_each.prog w K mg base (L2.CX PySem.Challenge.rw_tumbler_k12_whole_one_certificate_each.prog w) 7 fa fd ["script"] (spLaw K c_law) := by
  obtain ⟨T, eT⟩ := txt_mk X G a0 l0 c0 k0 a1 l1 c1 k1 a2 l2 c2 k2 a3 l3 c3 k3 a4 l4 c4 k4 a5 l5 c5 k5 a6 l6 c6 k6 a7 l7 c7 k7 a8 l8 c8 k8 a9 l9 c9 k9 a10 l10 c10 k10 a11 l11 c11 k11 a12 l12 c12 k12 a13 l13 c13 k13 a14 l14 c14 k14 a15 l15 c15 k15 a16 l16 c16 k16 a17 l17 c17 k17 a18 l18 c18 k18 a19 l19 c19 k19 a20 l20 c20 k20 a21 l21 c21 k21 a22 l22 c22 k22 a23 l23 c23 k23 a24 l24 c24 k24 a25 l25 c25 k25 a26 l26 c26 k26 a27 l27 c27 k27 a28 l28 c28 k28 a29 l29 c29 k29 a30 l30 c30 k30 a31 l31 c31 k31 a32 l32 c32 k32 a33 l33 c33 k33 a34 l34 c34 k34 a35 l35 c35 k35 a36 l36 c36 k36 a37 l37 c37 k37 a38 l38 c38 k38 a39 l39 c39 k39 a40 l40 c40 k40 a41 l41 c41 k41 a42 l42 c42 k42 a43 l43 c43 k43 z0 z1 z2 z3 z4 z5 z6 z7 z8 z9 z10 z11 z12
  have e := hfa.symm.trans T.d_law.mgf
  obtain rfl : fa = T.f_law := by cases e; rfl
  refine ⟨T.fd_law, fun s v => by rw [eT]; exact .of_eq rfl, fun base _ _ => (w_law T).imp fun vs H Q E q => spLaw.of vs H Q E q⟩
end Law

set_option maxHeartbeats 1000000
/-! Reckoning with the plain functions: what simp is to know, loops by invariants, what a call leaves. -/
namespace Rf
open PySem L2

/-! ### pieces -/
@[simp] theorem then_ok (d : D) (h : AH) (f : D → AH → ER) : (ER.ok d h).then f = f d h := rfl
@[simp] theorem then_exc (c : Str) (fs : List (Str × D)) (h : AH) (f : D → AH → ER) : (ER.exc c fs h).then f = .exc c fs h := rfl
@[simp] theorem thenS_ok (d : D) (h : AH) (e : AE) (f : D → AH → SR) : (ER.ok d h).thenS e f = f d h := rfl
@[simp] theorem thenS_exc (c : Str) (fs : List (Str × D)) (h : AH) (e : AE) (f : D → AH → SR) : (ER.exc c fs h).thenS e f = .exc c fs e h := rfl
@[simp] theorem lthen_ok (ds : List D) (h : AH) (f : List D → AH → ER) : (LR.ok ds h).then f = f ds h := rfl
@[simp] theorem lthen_exc (c : Str) (fs : List (Str × D)) (h : AH) (f : List D → AH → ER) : (LR.exc c fs h).then f = .exc c fs h := rfl
@[simp] theorem sthen_nx (e : AE) (h : AH) (f : SM) : (SR.nx e h).then f = f e h := rfl
@[simp] theorem sthen_rt (d : D) (h : AH) (f : SM) : (SR.rt d h).then f = .rt d h := rfl
@[simp] theorem sthen_bk (e : AE) (h : AH) (f : SM) : (SR.bk e h).then f = .bk e h := rfl
@[simp] theorem sthen_ct (e : AE) (h : AH) (f : SM) : (SR.ct e h).then f = .ct e h := rfl
@[simp] theorem sthen_exc (c : Str) (fs : List (Str × D)) (e : AE) (h : AH) (f : SM) : (SR.exc c fs e h).then f = .exc c fs e h := rfl
@[simp] theorem onlyNx_nx (e : AE) (h : AH) : onlyNx (.nx e h) = .nx e h := rfl
@[simp] theorem again_nx (e : AE) (h : AH) (k : SM) : again (.nx e h) k = k e h := rfl
@[simp] theorem again_ct (e : AE) (h : AH) (k : SM) : again (.ct e h) k = k e h := rfl
@[simp] theorem again_bk (e : AE) (h : AH) (k : SM) : again (.bk e h) k = .nx e h := rfl
@[simp] theorem again_rt (d : D) (h : AH) (k : SM) : again (.rt d h) k = .rt d h := rfl
@[simp] theorem again_exc (c : Str) (fs : List (Str × D)) (e : AE) (h : AH) (k : SM) : again (.exc c fs e h) k = .exc c fs e h := rfl
@[simp] theorem outS_rt (d : D) (h : AH) : outS (.rt d h) = .ok d h := rfl
@[simp] theorem outS_nx (e : AE) (h : AH) : outS (.nx e h) = .ok .non h := rfl
@[simp] theorem outS_exc (c : Str) (fs : List (Str × D)) (e : AE) (h : AH) : outS (.exc c fs e h) = .exc c fs h := rfl
/-- by a bool -/
def onB (d : D) (x y : SR) : SR := match d with
  | .bl true => x
  | .bl false => y
  | _ => .stuck
@[simp] theorem onB_bl (b : Bool) (x y : SR) : onB (.bl b) x y = if b = true then x else y := by cases b <;> rfl
def onE (d : D) (x y : ER) : ER := match d with
  | .bl true => x
  | .bl false => y
  | _ => .stuck
@[simp] theorem onE_bl (b : Bool) (x y : ER) : onE (.bl b) x y = if b = true then x else y := by cases b <;> rfl
@[simp] theorem eVar_ (i : Nat) (env : AE) (h : AH) : eVar i env h = match env[i]? with | some (some d) => .ok d h | _ => .stuck := rfl
@[simp] theorem eC_ (d : D) (env : AE) (h : AH) : eC d env h = .ok d h := rfl
@[simp] theorem eOp_ (g : D → D → AH → ER) (a b : EM) (env : AE) (h : AH) : eOp g a b env h = (a env h).then fun d1 h1 => (b env h1).then fun d2 h2 => g d1 d2 h2 := rfl
@[simp] theorem eUn_ (g : D → AH → ER) (a : EM) (env : AE) (h : AH) : eUn g a env h = (a env h).then fun d1 h1 => g d1 h1 := rfl
@[simp] theorem eIf_ (c a b : EM) (env : AE) (h : AH) : eIf c a b env h = (c env h).then fun d h1 => onE d (a env h1) (b env h1) := by
  unfold eIf ER.then onE
  cases c env h with
  | ok d h1 => cases d with
    | bl b => cases b <;> rfl
    | _ => rfl
  | _ => rfl
@[simp] theorem eAnd_ (a b : EM) (env : AE) (h : AH) : eAnd a b env h = (a env h).then fun d h1 => onE d (b env h1) (.ok (.bl false) h1) := by
  unfold eAnd ER.then onE
  cases a env h with
  | ok d h1 => cases d with
    | bl b => cases b <;> rfl
    | _ => rfl
  | _ => rfl
@[simp] theorem eOr_ (a b : EM) (env : AE) (h : AH) : eOr a b env h = (a env h).then fun d h1 => onE d (.ok (.bl true) h1) (b env h1) := by
  unfold eOr ER.then onE
  cases a env h with
  | ok d h1 => cases d with
    | bl b => cases b <;> rfl
    | _ => rfl
  | _ => rfl
def notD (d : D) (h : AH) : ER := match d with
  | .bl b => .ok (.bl (!b)) h
  | _ => .stuck
@[simp] theorem notD_bl (b : Bool) (h : AH) : notD (.bl b) h = .ok (.bl (!b)) h := rfl
@[simp] theorem eNot_ (a : EM) (env : AE) (h : AH) : eNot a env h = (a env h).then notD := by
  unfold eNot ER.then notD
  cases a env h with
  | ok d h1 => cases d <;> rfl
  | _ => rfl
@[simp] theorem lNil_ (env : AE) (h : AH) : lNil env h = .ok [] h := rfl
def LR.cons (d : D) (l : LR) : LR := match l with
  | .ok ds h => .ok (d :: ds) h
  | .exc c fs h => .exc c fs h
  | .stuck => .stuck
@[simp] theorem lrcons_ok (d : D) (ds : List D) (h : AH) : LR.cons d (.ok ds h) = .ok (d :: ds) h := rfl
@[simp] theorem lrcons_exc (d : D) (c : Str) (fs : List (Str × D)) (h : AH) : LR.cons d (.exc c fs h) = .exc c fs h := rfl
def ER.thenL (o : ER) (f : D → AH → LR) : LR := match o with
  | .ok d h => f d h
  | .exc c fs h => .exc c fs h
  | .stuck => .stuck
@[simp] theorem thenL_ok (d : D) (h : AH) (f : D → AH → LR) : (ER.ok d h).thenL f = f d h := rfl
@[simp] theorem thenL_exc (c : Str) (fs : List (Str × D)) (h : AH) (f : D → AH → LR) : (ER.exc c fs h).thenL f = .exc c fs h := rfl
@[simp] theorem lCons_ (a : EM) (r : LM) (env : AE) (h : AH) : lCons a r env h = (a env h).thenL fun d h1 => LR.cons d (r env h1) := by
  unfold lCons ER.thenL LR.cons
  cases a env h with
  | ok d h1 => rfl
  | _ => rfl
@[simp] theorem eCall_ (g : List D → AH → ER) (a : LM) (env : AE) (h : AH) : eCall g a env h = (a env h).then g := rfl
@[simp] theorem argn_ok (n : Nat) (F : List D → AH → ER) (ds : List D) (h : AH) (e : ds.length = n) : argn n F ds h = F ds h := if_pos e
@[simp] theorem eTup_ (l : LM) (env : AE) (h : AH) : eTup l env h = (l env h).then fun ds h1 => if Fits ds.length then .ok (.tup ds) h1 else .stuck := rfl
@[simp] theorem eLst_ (l : LM) (env : AE) (h : AH) : eLst l env h = (l env h).then fun ds h1 => if Fits ds.length then .ok (.ref h1.length) (h1 ++ [.lst ds]) else .stuck := rfl
@[simp] theorem eMeth_ (T : String) (g : D → List D → AH → ER) (o : EM) (l : LM) (env : AE) (h : AH) : eMeth T g o l env h = (o env h).then fun d h1 => if tyOk h1 T d then (l env h1).then fun ds h2 => g d ds h2 else .stuck := rfl
@[simp] theorem sPass_ (e : AE) (h : AH) : sPass e h = .nx e h := rfl
@[simp] theorem sSeq_ (a b : SM) (e : AE) (h : AH) : sSeq a b e h = (a e h).then b := rfl
@[simp] theorem sRet_ (m : EM) (e : AE) (h : AH) : sRet m e h = (m e h).thenS e fun d h1 => .rt d h1 := rfl
@[simp] theorem sRetN_ (e : AE) (h : AH) : sRetN e h = .rt .non h := rfl
@[simp] theorem sExpr_ (m : EM) (e : AE) (h : AH) : sExpr m e h = (m e h).thenS e fun _ h1 => .nx e h1 := rfl
@[simp] theorem sIf_ (c : EM) (a b : SM) (e : AE) (h : AH) : sIf c a b e h = (c e h).thenS e fun d h1 => onB d (a e h1) (b e h1) := by
  unfold sIf ER.thenS onB
  cases c e h with
  | ok d h1 => cases d with
    | bl b => cases b <;> rfl
    | _ => rfl
  | _ => rfl
@[simp] theorem sBreak_ (e : AE) (h : AH) : sBreak e h = .bk e h := rfl
@[simp] theorem sCont_ (e : AE) (h : AH) : sCont e h = .ct e h := rfl
@[simp] theorem sSet_ (i : Nat) (m : EM) (e : AE) (h : AH) : sSet i m e h = (m e h).thenS e fun d h1 => .nx (e.set i (some d)) h1 := rfl
@[simp] theorem sAsg_ (m : EM) (g : GM) (e : AE) (h : AH) : sAsg m g e h = (m e h).thenS e fun d h1 => g d e h1 := rfl
@[simp] theorem gVar_ (i : Nat) (d : D) (e : AE) (h : AH) : gVar i d e h = .nx (e.set i (some d)) h := rfl
@[simp] theorem gNils_ (e : AE) (h : AH) : gNils [] e h = .nx e h := rfl
@[simp] theorem gCons_ (g : GM) (r : List D → AE → AH → SR) (d : D) (ds : List D) (e : AE) (h : AH) : gCons g r (d :: ds) e h = (onlyNx (g d e h)).then fun e1 h1 => r ds e1 h1 := rfl
@[simp] theorem gTup_ (k : Nat) (r : List D → AE → AH → SR) (ds : List D) (e : AE) (h : AH) : gTup k r (.tup ds) e h = if ds.length = k then r ds e h else .stuck := rfl
def putS (o : Option AH) (e : AE) : SR := match o with
  | some h => .nx e h
  | none => .stuck
@[simp] theorem putS_some (h : AH) (e : AE) : putS (some h) e = .nx e h := rfl
@[simp] theorem gSub_ (g : D → D → D → AH → Option AH) (o i : EM) (d : D) (e : AE) (h : AH) : gSub g o i d e h = (o e h).thenS e fun d1 h1 => (i e h1).thenS e fun d2 h2 => putS (g d1 d2 d h2) e := by
  unfold gSub putS ER.thenS
  cases o e h with
  | ok d1 h1 => cases i e h1 with
    | ok d2 h2 => rfl
    | _ => rfl
  | _ => rfl
@[simp] theorem eSl_nn (a : EM) (env : AE) (h : AH) : eSl a none none env h = (a env h).then fun d h1 => oSl d none none h1 := rfl
def intD (d : D) (f : Int → ER) : ER := match d with
  | .int i => f i
  | _ => .stuck
@[simp] theorem intD_int (i : Int) (f : Int → ER) : intD (.int i) f = f i := rfl
@[simp] theorem ePart_n (env : AE) (h : AH) (f : Option Int → AH → ER) : ePart none env h f = f none h := rfl
@[simp] theorem ePart_s (m : EM) (env : AE) (h : AH) (f : Option Int → AH → ER) : ePart (some m) env h f = (m env h).then fun d h1 => intD d fun i => f (some i) h1 := by
  show ((m env h).then fun d h1 => match d with | .int i => f (some i) h1 | _ => .stuck) = _
  unfold intD
  cases m env h with
  | ok d h1 => cases d <;> rfl
  | _ => rfl
@[simp] theorem eSl_ (a : EM) (lo hi : Option EM) (env : AE) (h : AH) : eSl a lo hi env h = (a env h).then fun d h1 => ePart lo env h1 fun l h2 => ePart hi env h2 fun u h3 => oSl d l u h3 := rfl

/-! ### operators on ints -/
@[simp] theorem oAdd_int (i j : Int) (h : AH) : oAdd (.int i) (.int j) h = .ok (.int (i + j)) h := rfl
@[simp] theorem oSub_int (i j : Int) (h : AH) : oSub (.int i) (.int j) h = .ok (.int (i - j)) h := rfl
@[simp] theorem oNeg_int (i : Int) (h : AH) : oNeg (.int i) h = .ok (.int (-i)) h := rfl
@[simp] theorem oLt_int (i j : Int) (h : AH) : oLt (.int i) (.int j) h = .ok (.bl (decide (i < j))) h := rfl
@[simp] theorem oLe_int (i j : Int) (h : AH) : oLe (.int i) (.int j) h = .ok (.bl (decide (i ≤ j))) h := rfl
@[simp] theorem oGt_int (i j : Int) (h : AH) : oGt (.int i) (.int j) h = .ok (.bl (decide (j < i))) h := rfl
@[simp] theorem oGe_int (i j : Int) (h : AH) : oGe (.int i) (.int j) h = .ok (.bl (decide (j ≤ i))) h := rfl
@[simp] theorem oEq_int (i j : Int) (h : AH) : oEq (.int i) (.int j) h = .ok (.bl (i == j)) h := by
  simp [oEq, D.toP, PyData.eqv]
@[simp] theorem oNe_int (i j : Int) (h : AH) : oNe (.int i) (.int j) h = .ok (.bl (!(i == j))) h := by
  simp [oNe, D.toP, PyData.eqv]
@[simp] theorem oIs_non (d : D) (h : AH) : oIs d .non h = .ok (.bl d.isNon) h := rfl
@[simp] theorem oIsNot_non (d : D) (h : AH) : oIsNot d .non h = .ok (.bl (!d.isNon)) h := rfl
@[simp] theorem oTruth_bl (b : Bool) (h : AH) : oTruth (.bl b) h = .ok (.bl b) h := rfl
@[simp] theorem oTruth_int (i : Int) (h : AH) : oTruth (.int i) h = .ok (.bl (i != 0)) h := rfl
@[simp] theorem oTruth_non (h : AH) : oTruth .non h = .ok (.bl false) h := rfl
@[simp] theorem oTruth_tup (ds : List D) (h : AH) : oTruth (.tup ds) h = .ok (.bl (!ds.isEmpty)) h := rfl
theorem oMod_int {i j : Int} {h : AH} (hj : 0 < j) : oMod (.int i) (.int j) h = .ok (.int (i % j)) h := by unfold oMod; exact if_pos hj
theorem oMul_int {i j : Int} {h : AH} (hc : CMulX i j) : oMul (.int i) (.int j) h = .ok (.int (i * j)) h := by unfold oMul; exact if_pos hc
theorem oDiv_int {i j : Int} {h : AH} (hj : DivOk j) : oDiv (.int i) (.int j) h = .ok (.int (i / j)) h := by unfold oDiv; exact if_pos hj
/-- products of numbers below 2^10000 -/
theorem mulOk {i j : Int} (hi : i.natAbs < 2 ^ 10000) (hj : j.natAbs < 2 ^ 10000) : CMulX i j := mulx_ok hi hj (by decide)
theorem log2_small {j : Int} (h1 : 0 < j) (h2 : j.natAbs < 2 ^ 9000) : j.natAbs.log2 < 9000 := by
  have h0 : j.natAbs ≠ 0 := by omega
  exact (Nat.log2_lt h0).mpr h2
@[simp] theorem cLen_tup (ds : List D) (h : AH) : cLen [.tup ds] h = .ok (.int ds.length) h := rfl
@[simp] theorem cLen_rol (ds : List D) (h : AH) : cLen [.rol ds] h = .ok (.int ds.length) h := rfl
theorem cLen_ref {r : Nat} {ds : List D} {h : AH} (e : h[r]? = some (.lst ds)) : cLen [.ref r] h = .ok (.int ds.length) h := by simp [cLen, e]
@[simp] theorem cInt_int (i : Int) (h : AH) : cInt [.int i] h = .ok (.int i) h := rfl
@[simp] theorem cMin2_int (i j : Int) (h : AH) : cMin2 [.int i, .int j] h = .ok (.int (if j < i then j else i)) h := rfl
@[simp] theorem cMax2_int (i j : Int) (h : AH) : cMax2 [.int i, .int j] h = .ok (.int (if j > i then j else i)) h := rfl
@[simp] theorem cAbs_int (i : Int) (h : AH) : cAbs [.int i] h = .ok (.int (if i < 0 then -i else i)) h := rfl
@[simp] theorem cTuple_tup (ds : List D) (h : AH) : cTuple [.tup ds] h = .ok (.tup ds) h := rfl
theorem cTuple_ref {r : Nat} {ds : List D} {h : AH} (e : h[r]? = some (.lst ds)) : cTuple [.ref r] h = .ok (.tup ds) h := by simp [cTuple, seqOf, e]
@[simp] theorem cTuple_rol (ds : List D) (h : AH) : cTuple [.rol ds] h = .ok (.tup ds) h := rfl
@[simp] theorem cList_tup (ds : List D) (h : AH) : cList [.tup ds] h = .ok (.ref h.length) (h ++ [.lst ds]) := rfl
theorem cList_ref {r : Nat} {ds : List D} {h : AH} (e : h[r]? = some (.lst ds)) : cList [.ref r] h = .ok (.ref h.length) (h ++ [.lst ds]) := by simp [cList, seqOf, e]
@[simp] theorem getLast_app {h : AH} {o : AO} : (h ++ [o])[h.length]? = some o := by simp
@[simp] theorem cIsi_int (i : Int) (n : String) (h : AH) (hn : n ∈ askTys := by decide) : cIsi [.int i, .ty n] h = .ok (.bl (isTy "int" n)) h := by simp [cIsi, D.tyn, hn]
@[simp] theorem cIsi_bl (i : Bool) (n : String) (h : AH) (hn : n ∈ askTys := by decide) : cIsi [.bl i, .ty n] h = .ok (.bl (isTy "bool" n)) h := by simp [cIsi, D.tyn, hn]
@[simp] theorem cIsi_str (i : Str) (n : String) (h : AH) (hn : n ∈ askTys := by decide) : cIsi [.str i, .ty n] h = .ok (.bl (isTy "str" n)) h := by simp [cIsi, D.tyn, hn]
@[simp] theorem cIsi_non (n : String) (h : AH) (hn : n ∈ askTys := by decide) : cIsi [.non, .ty n] h = .ok (.bl (isTy "NoneType" n)) h := by simp [cIsi, D.tyn, hn]
@[simp] theorem cIsi_tup (ds : List D) (n : String) (h : AH) (hn : n ∈ askTys := by decide) : cIsi [.tup ds, .ty n] h = .ok (.bl (isTy "tuple" n)) h := by simp [cIsi, D.tyn, hn]

/-! ### items -/
theorem atI_nat' {α : Type} {xs : List α} {j : Nat} (h : j < xs.length) : L2.atI xs (j : Int) = some xs[j] := atI_nat (List.getElem?_eq_getElem h)
theorem oIx_tup {ds : List D} {i : Nat} {h : AH} {d : D} (e : ds[i]? = some d) : oIx (.tup ds) (.int (i : Int)) h = .ok d h := by
  simp [oIx, seqOf, atI_nat e]
theorem oIx_rol {ds : List D} {i : Nat} {h : AH} {d : D} (e : ds[i]? = some d) : oIx (.rol ds) (.int (i : Int)) h = .ok d h := by
  simp [oIx, seqOf, atI_nat e]
theorem oIx_ref {r : Nat} {ds : List D} {i : Nat} {h : AH} {d : D} (e0 : h[r]? = some (.lst ds)) (e : ds[i]? = some d) : oIx (.ref r) (.int (i : Int)) h = .ok d h := by
  simp [oIx, seqOf, e0, atI_nat e]
theorem putL_ref {r : Nat} {ds : List D} {i : Nat} {v : D} {h : AH} (e0 : h[r]? = some (.lst ds)) (hi : i < ds.length) : putL (.ref r) (.int (i : Int)) v h = some (h.set r (.lst (ds.set i v))) := by
  have : L2.ixN ds.length (i : Int) = some i := by
    unfold L2.ixN
    rw [if_pos (by omega), if_pos (by omega)]
    simp
  simp [putL, e0, this]
theorem mAppend_ref {r : Nat} {ds : List D} {v : D} {h : AH} (e0 : h[r]? = some (.lst ds)) (hl : ds.length < sizeLine) : mAppend (.ref r) [v] h = .ok .non (h.set r (.lst (ds ++ [v]))) := by
  have hl : FitsL ds.length := hl
  simp [mAppend, e0, hl]
theorem tyOk_list {r : Nat} {ds : List D} {h : AH} (e0 : h[r]? = some (.lst ds)) : tyOk h "list" (.ref r) = true := by simp [tyOk, e0]

/-! ### loops -/
theorem drop_cons {α : Type} {l r : List α} {i : Nat} {d : α} (h : l.drop i = d :: r) : l[i]? = some d ∧ l.drop (i + 1) = r := by
  refine ⟨?_, ?_⟩
  · have := congrArg (·[0]?) h
    simpa using this
  · have : (l.drop i).drop 1 = r := by rw [h]; rfl
    rwa [List.drop_drop] at this
/-- the body at each item -/
def sLoop (g : GM) (b : SM) : List D → SM
  | [] => fun e h => .nx e h
  | d :: ds => fun e h => again ((onlyNx (g d e h)).then b) (sLoop g b ds)
theorem forN_stat {g : GM} {b : SM} {ds : List D} : ∀ (r : List D) (i : Nat) (e : AE) (h : AH), ds.drop i = r → forN (stat ds) g b (r.length + 1) i e h = sLoop g b r e h
  | [], i, e, h, hd => by
    have hi : ds[i]? = none := by
      have q : ds.length - i = 0 := by simpa using congrArg List.length hd
      have : ds.length ≤ i := by omega
      exact List.getElem?_eq_none_iff.mpr this
    unfold forN
    simp [stat, hi, sLoop]
  | d :: r, i, e, h, hd => by
    obtain ⟨hi, hr⟩ := drop_cons hd
    rw [List.length_cons]
    unfold forN
    simp only [stat, hi]
    unfold sLoop
    congr 1
    funext e' h'
    exact forN_stat r (i + 1) e' h' hr
theorem sFor_stat {mi : IM} {g : GM} {b : SM} {e : AE} {h h1 : AH} {ds : List D} (hm : mi e h = .ok (stat ds) h1) : sFor mi g b e h = sLoop g b ds e h1 := by
  unfold sFor
  rw [hm]
  exact forN_stat ds 0 e h1 rfl
/-- a loop by an invariant: it goes through -/
theorem loop_inv {g : GM} {b : SM} (P : Nat → AE → AH → Prop) : ∀ (ds : List D) (k : Nat) (e : AE) (h : AH), P k e h →
    (∀ (i : Nat) (d : D) (e : AE) (h : AH), ds[i]? = some d → P (k + i) e h → ∃ e' h', (onlyNx (g d e h)).then b = .nx e' h' ∧ P (k + i + 1) e' h') → ∃ e' h', sLoop g b ds e h = .nx e' h' ∧ P (k + ds.length) e' h'
  | [], k, e, h, p, _ => ⟨e, h, rfl, p⟩
  | d :: ds, k, e, h, p, st => by
    obtain ⟨e1, h1, q, p1⟩ := st 0 d e h rfl p
    obtain ⟨e2, h2, q2, p2⟩ := loop_inv P ds (k + 1) e1 h1 p1 fun i d' e' h' hd hp => by
      have hp' : P (k + (i + 1)) e' h' := by rwa [show k + (i + 1) = k + 1 + i by omega]
      obtain ⟨e3, h3, a, c⟩ := st (i + 1) d' e' h' (by simpa using hd) hp'
      exact ⟨e3, h3, a, by rwa [show k + 1 + i + 1 = k + (i + 1) + 1 by omega]⟩
    refine ⟨e2, h2, ?_, by rwa [List.length_cons, show k + (ds.length + 1) = k + 1 + ds.length by omega]⟩
    unfold sLoop
    rw [q]
    exact q2
/-- .. or leaves by a return -/
theorem loop_ret {g : GM} {b : SM} (P : Nat → AE → AH → Prop) (R : D → AH → Prop) : ∀ (ds : List D) (k : Nat) (e : AE) (h : AH), P k e h →
    (∀ (i : Nat) (d : D) (e : AE) (h : AH), ds[i]? = some d → P (k + i) e h → (∃ e' h', (onlyNx (g d e h)).then b = .nx e' h' ∧ P (k + i + 1) e' h') ∨ ∃ d' h', (onlyNx (g d e h)).then b = .rt d' h' ∧ R d' h') →
    (∃ e' h', sLoop g b ds e h = .nx e' h' ∧ P (k + ds.length) e' h') ∨ ∃ d' h', sLoop g b ds e h = .rt d' h' ∧ R d' h'
  | [], k, e, h, p, _ => .inl ⟨e, h, rfl, p⟩
  | d :: ds, k, e, h, p, st => by
    rcases st 0 d e h rfl p with ⟨e1, h1, q, p1⟩ | ⟨d', h', q, r⟩
    · rcases loop_ret P R ds (k + 1) e1 h1 p1 fun i d' e' h' hd hp => by
          have hp' : P (k + (i + 1)) e' h' := by rwa [show k + (i + 1) = k + 1 + i by omega]
          rcases st (i + 1) d' e' h' (by simpa using hd) hp' with ⟨e3, h3, a, c⟩ | c
          · exact .inl ⟨e3, h3, a, by rwa [show k + 1 + i + 1 = k + (i + 1) + 1 by omega]⟩
          · exact .inr c with ⟨e2, h2, q2, p2⟩ | ⟨d2, h2, q2, r2⟩
      · refine .inl ⟨e2, h2, ?_, by rwa [List.length_cons, show k + (ds.length + 1) = k + 1 + ds.length by omega]⟩
        unfold sLoop
        rw [q]
        exact q2
      · refine .inr ⟨d2, h2, ?_, r2⟩
        unfold sLoop
        rw [q]
        exact q2
    · refine .inr ⟨d', h', ?_, r⟩
      unfold sLoop
      rw [q]
      rfl
/-- a list of the heap walked, that stands as it stands -/
theorem forN_live {g : GM} {b : SM} {r : Nat} {ds : List D} {m : Nat} (P : Nat → AE → AH → Prop) (hP : ∀ i e h, P i e h → h[r]? = some (.lst ds)) : ∀ (k i : Nat) (e : AE) (h : AH), i + k = ds.length → P i e h →
    (∀ (i : Nat) (d : D) (e : AE) (h : AH), ds[i]? = some d → P i e h → ∃ e' h', (onlyNx (g d e h)).then b = .nx e' h' ∧ P (i + 1) e' h') → ∃ e' h', forN (live r m) g b (k + 1) i e h = .nx e' h' ∧ P ds.length e' h'
  | 0, i, e, h, hk, p, st => by
    have e0 := hP i e h p
    have ei : i = ds.length := by omega
    refine ⟨e, h, ?_, by rw [← ei]; exact p⟩
    unfold forN
    simp [live, e0, ei]
  | k + 1, i, e, h, hk, p, st => by
    have e0 := hP i e h p
    have hi : i < ds.length := by omega
    obtain ⟨e1, h1, q, p1⟩ := st i ds[i] e h (List.getElem?_eq_getElem hi) p
    obtain ⟨e2, h2, q2, p2⟩ := forN_live P hP k (i + 1) e1 h1 (by omega) p1 st
    refine ⟨e2, h2, ?_, p2⟩
    unfold forN
    simp only [live, e0, List.getElem?_eq_getElem hi]
    rw [q]
    exact q2
theorem sFor_live {mi : IM} {g : GM} {b : SM} {e : AE} {h h1 : AH} {r : Nat} {ds : List D} (P : Nat → AE → AH → Prop) (hm : mi e h = .ok (live r ds.length) h1) (hP : ∀ i e h, P i e h → h[r]? = some (.lst ds)) (p : P 0 e h1)
    (st : ∀ (i : Nat) (d : D) (e : AE) (h : AH), ds[i]? = some d → P i e h → ∃ e' h', (onlyNx (g d e h)).then b = .nx e' h' ∧ P (i + 1) e' h') : ∃ e' h', sFor mi g b e h = .nx e' h' ∧ P ds.length e' h' := by
  unfold sFor
  rw [hm]
  exact forN_live P hP ds.length 0 e h1 (Nat.zero_add _) p st
theorem forN_live_ret {g : GM} {b : SM} {r : Nat} {ds : List D} {m : Nat} (P : Nat → AE → AH → Prop) (R : D → AH → Prop) (hP : ∀ i e h, P i e h → h[r]? = some (.lst ds)) : ∀ (k i : Nat) (e : AE) (h : AH), i + k = ds.length → P i e h →
    (∀ (i : Nat) (d : D) (e : AE) (h : AH), ds[i]? = some d → P i e h → (∃ e' h', (onlyNx (g d e h)).then b = .nx e' h' ∧ P (i + 1) e' h') ∨ ∃ d' h', (onlyNx (g d e h)).then b = .rt d' h' ∧ R d' h') →
    (∃ e' h', forN (live r m) g b (k + 1) i e h = .nx e' h' ∧ P ds.length e' h') ∨ ∃ d' h', forN (live r m) g b (k + 1) i e h = .rt d' h' ∧ R d' h'
  | 0, i, e, h, hk, p, st => by
    have e0 := hP i e h p
    have ei : i = ds.length := by omega
    refine .inl ⟨e, h, ?_, by rw [← ei]; exact p⟩
    unfold forN
    simp [live, e0, ei]
  | k + 1, i, e, h, hk, p, st => by
    have e0 := hP i e h p
    have hi : i < ds.length := by omega
    rcases st i ds[i] e h (List.getElem?_eq_getElem hi) p with ⟨e1, h1, q, p1⟩ | ⟨d', h', q, rr⟩
    · rcases forN_live_ret P R hP k (i + 1) e1 h1 (by omega) p1 st with ⟨e2, h2, q2, p2⟩ | ⟨d2, h2, q2, r2⟩
      · refine .inl ⟨e2, h2, ?_, p2⟩
        unfold forN
        simp only [live, e0, List.getElem?_eq_getElem hi]
        rw [q]
        exact q2
      · refine .inr ⟨d2, h2, ?_, r2⟩
        unfold forN
        simp only [live, e0, List.getElem?_eq_getElem hi]
        rw [q]
        exact q2
    · refine .inr ⟨d', h', ?_, rr⟩
      unfold forN
      simp only [live, e0, List.getElem?_eq_getElem hi]
      rw [q]
      rfl
theorem sFor_live_ret {mi : IM} {g : GM} {b : SM} {e : AE} {h h1 : AH} {r : Nat} {ds : List D} (P : Nat → AE → AH → Prop) (R : D → AH → Prop) (hm : mi e h = .ok (live r ds.length) h1) (hP : ∀ i e h, P i e h → h[r]? = some (.lst ds)) (p : P 0 e h1)
    (st : ∀ (i : Nat) (d : D) (e : AE) (h : AH), ds[i]? = some d → P i e h → (∃ e' h', (onlyNx (g d e h)).then b = .nx e' h' ∧ P (i + 1) e' h') ∨ ∃ d' h', (onlyNx (g d e h)).then b = .rt d' h' ∧ R d' h') :
    (∃ e' h', sFor mi g b e h = .nx e' h' ∧ P ds.length e' h') ∨ ∃ d' h', sFor mi g b e h = .rt d' h' ∧ R d' h' := by
  unfold sFor
  rw [hm]
  exact forN_live_ret P R hP ds.length 0 e h1 (Nat.zero_add _) p st
/-- a while by an invariant and a number that falls -/
theorem while_inv {c : EM} {b : SM} (P : AE → AH → Prop) (μ : AE → AH → Nat) (T : AE → AH → Prop)
    (st : ∀ e h, P e h → (∃ h1, c e h = .ok (.bl false) h1 ∧ T e h1) ∨ ∃ h1, c e h = .ok (.bl true) h1 ∧ ∃ e' h', b e h1 = .nx e' h' ∧ P e' h' ∧ μ e' h' < μ e h) : ∀ (n : Nat) (e : AE) (h : AH), μ e h ≤ n → P e h → ∃ e' h', sWhile c b e h = .nx e' h' ∧ T e' h' := by
  have key : ∀ (n : Nat) (e : AE) (h : AH), μ e h ≤ n → P e h → ∃ k e' h', whileN c b k e h = .nx e' h' ∧ T e' h' := by
    intro n
    induction n with
    | zero =>
      intro e h hn p
      rcases st e h p with ⟨h1, hc, t⟩ | ⟨h1, hc, e', h', hb, p', l⟩
      · exact ⟨1, e, h1, (by unfold whileN; rw [hc]; rfl), t⟩
      · omega
    | succ n ih =>
      intro e h hn p
      rcases st e h p with ⟨h1, hc, t⟩ | ⟨h1, hc, e', h', hb, p', l⟩
      · exact ⟨1, e, h1, (by unfold whileN; rw [hc]; rfl), t⟩
      · obtain ⟨k, e2, h2, q, t⟩ := ih e' h' (by omega) p'
        refine ⟨k + 1, e2, h2, ?_, t⟩
        unfold whileN
        rw [hc]
        show again (b e h1) (whileN c b k) = _
        rw [hb]
        exact q
  intro n e h hn p
  obtain ⟨k, e', h', q, t⟩ := key n e h hn p
  exact ⟨e', h', sWhile_eq q (by intro z; cases z), t⟩

/-! ### comprehensions -/
theorem lc_pure {α : Type} {φ : α → D} {k : Nat} {tt te : EM} {e0 : AE} {h : AH} (p : α → Bool) (f : α → D) {ds : List D} : ∀ (r : List α) (i : Nat) (acc : List D), ds.drop i = r.map φ → acc.length + r.length ≤ sizeLine →
    (∀ x ∈ r, tt (e0.set k (some (φ x))) h = .ok (.bl (p x)) h) → (∀ x ∈ r, p x = true → te (e0.set k (some (φ x))) h = .ok (f x) h) →
    lcN (stat ds) (gVar k) tt te e0 (r.length + 1) i acc h = .inr (acc ++ (r.filter p).map f, h)
  | [], i, acc, hd, _, _, _ => by
    have hi : ds[i]? = none := by
      have q : ds.length - i = 0 := by simpa using congrArg List.length hd
      have : ds.length ≤ i := by omega
      exact List.getElem?_eq_none_iff.mpr this
    unfold lcN
    simp [stat, hi]
  | x :: r, i, acc, hd, hl, ht, hf => by
    obtain ⟨hi, hr⟩ := drop_cons (show ds.drop i = φ x :: r.map φ from hd)
    rw [List.length_cons] at hl ⊢
    unfold lcN
    simp only [stat, hi, gVar_, ht x List.mem_cons_self]
    cases hp : p x with
    | true =>
      simp only [hf x List.mem_cons_self hp]
      rw [if_pos (show FitsL acc.length from (by omega : acc.length < sizeLine))]
      have ih := lc_pure (φ := φ) (k := k) (tt := tt) (te := te) (e0 := e0) (h := h) p f (ds := ds) r (i + 1) (acc ++ [f x]) hr (by simp; omega) (fun y hy => ht y (List.mem_cons_of_mem _ hy)) fun y hy => hf y (List.mem_cons_of_mem _ hy)
      simp only [stat] at ih
      rw [ih, List.filter_cons, if_pos hp, List.map_cons, List.append_assoc]; rfl
    | false =>
      have ih := lc_pure (φ := φ) (k := k) (tt := tt) (te := te) (e0 := e0) (h := h) p f (ds := ds) r (i + 1) acc hr (by omega) (fun y hy => ht y (List.mem_cons_of_mem _ hy)) fun y hy => hf y (List.mem_cons_of_mem _ hy)
      simp only [stat] at ih
      dsimp only
      rw [ih, List.filter_cons, if_neg (by rw [hp]; exact Bool.false_ne_true)]
/-- [f x for x in a row that stands still if p x], nothing else changes -/
theorem eLc_pure {α : Type} {φ : α → D} {k : Nat} {mi : IM} {tt te : EM} {vs : List Nat} {e : AE} {h h1 : AH} (xs : List α) (p : α → Bool) (f : α → D) (hm : mi e h = .ok (stat (xs.map φ)) h1) (hl : xs.length ≤ sizeLine)
    (ht : ∀ x ∈ xs, tt ((wipeE e vs).set k (some (φ x))) h1 = .ok (.bl (p x)) h1) (hf : ∀ x ∈ xs, p x = true → te ((wipeE e vs).set k (some (φ x))) h1 = .ok (f x) h1) :
    eLc mi (gVar k) tt te vs e h = .ok (.ref h1.length) (h1 ++ [.lst ((xs.filter p).map f)]) := by
  unfold eLc
  rw [hm]
  have := lc_pure (φ := φ) (k := k) (tt := tt) (te := te) (e0 := wipeE e vs) (h := h1) p f (ds := xs.map φ) xs 0 [] rfl (by simpa using hl) ht hf
  have hn : (stat (xs.map φ)).n = xs.length := by simp [stat]
  simp only [hn, this, List.nil_append]
theorem eLc_map {α : Type} {φ : α → D} {k : Nat} {mi : IM} {te : EM} {vs : List Nat} {e : AE} {h h1 : AH} (xs : List α) (f : α → D) (hm : mi e h = .ok (stat (xs.map φ)) h1) (hl : xs.length ≤ sizeLine)
    (hf : ∀ x ∈ xs, te ((wipeE e vs).set k (some (φ x))) h1 = .ok (f x) h1) : eLc mi (gVar k) (eC (.bl true)) te vs e h = .ok (.ref h1.length) (h1 ++ [.lst (xs.map f)]) := by
  have := eLc_pure (tt := eC (.bl true)) (φ := φ) (k := k) (te := te) (vs := vs) xs (fun _ => true) f hm hl (fun _ _ => rfl) (fun x hx _ => hf x hx)
  rw [this, List.filter_eq_self.mpr (by simp)]
/-- a list of the heap that stands still is as good as a row -/
theorem lcN_live {g : GM} {tt te : EM} {e0 : AE} {r m : Nat} {ds : List D} : ∀ (k i : Nat) (acc : List D) (h : AH), h[r]? = some (.lst ds) →
    (∀ (i : Nat) (d : D), ds[i]? = some d → ∀ e1 h1, g d e0 h = .nx e1 h1 → h1 = h ∧ (∀ b h2, tt e1 h = .ok (.bl b) h2 → h2 = h) ∧ ∀ d2 h3, te e1 h = .ok d2 h3 → h3 = h) → lcN (live r m) g tt te e0 k i acc h = lcN (stat ds) g tt te e0 k i acc h
  | 0, i, acc, h, _, _ => rfl
  | k + 1, i, acc, h, e0', hs => by
    unfold lcN
    simp only [live, e0', stat]
    cases hd : ds[i]? with
    | none => rfl
    | some d =>
      dsimp only
      cases hg : g d e0 h with
      | nx e1 h1 =>
        obtain ⟨rfl, q1, q2⟩ := hs i d hd e1 h1 hg
        dsimp only
        cases ht : tt e1 h1 with
        | ok db h2 =>
          cases db with
          | bl b =>
            have := q1 b h2 ht
            subst this
            cases b with
            | true =>
              dsimp only
              cases he : te e1 h2 with
              | ok d2 h3 =>
                have := q2 d2 h3 he
                subst this
                dsimp only
                split
                · exact lcN_live k (i + 1) (acc ++ [d2]) h3 e0' hs
                · rfl
              | _ => rfl
            | false => exact lcN_live k (i + 1) acc h2 e0' hs
          | _ => rfl
        | _ => rfl
      | _ => rfl
theorem eLc_pureL {α : Type} {φ : α → D} {k r : Nat} {mi : IM} {tt te : EM} {vs : List Nat} {e : AE} {h h1 : AH} (xs : List α) (p : α → Bool) (f : α → D) (hm : mi e h = .ok (live r xs.length) h1) (hr : h1[r]? = some (.lst (xs.map φ))) (hl : xs.length ≤ sizeLine)
    (ht : ∀ x ∈ xs, tt ((wipeE e vs).set k (some (φ x))) h1 = .ok (.bl (p x)) h1) (hf : ∀ x ∈ xs, te ((wipeE e vs).set k (some (φ x))) h1 = .ok (f x) h1) :
    eLc mi (gVar k) tt te vs e h = .ok (.ref h1.length) (h1 ++ [.lst ((xs.filter p).map f)]) := by
  unfold eLc
  rw [hm]
  have := lc_pure (φ := φ) (k := k) (tt := tt) (te := te) (e0 := wipeE e vs) (h := h1) p f (ds := xs.map φ) xs 0 [] rfl (by simpa using hl) ht fun x hx _ => hf x hx
  have l := lcN_live (g := gVar k) (tt := tt) (te := te) (e0 := wipeE e vs) (r := r) (m := xs.length) (ds := xs.map φ) (xs.length + 1) 0 [] h1 hr fun i d hd e1 h1' hg => by
    rw [gVar_] at hg
    cases hg
    rw [List.getElem?_map] at hd
    cases hx : xs[i]? with
    | none => rw [hx] at hd; cases hd
    | some x =>
      rw [hx] at hd
      cases hd
      have mx := List.mem_of_getElem? hx
      refine ⟨rfl, fun b h2 e2 => ?_, fun d2 h3 e3 => ?_⟩
      · rw [ht x mx] at e2; cases e2; rfl
      · rw [hf x mx] at e3; cases e3; rfl
  have hn : (live r xs.length).n = xs.length := rfl
  simp only [hn, l, this, List.nil_append]

/-! ### what a call leaves -/
theorem keep_app {h g : AH} : Keep h (h ++ g) := ⟨by simp, fun i o hi e => .inl (by rwa [List.getElem?_append_left hi] at e)⟩
theorem keep_set {h : AH} {a : Nat} {o : AO} (f : o.flat = true) : Keep h (h.set a o) := ⟨by simp, fun i o' hi e => by
  by_cases q : a = i
  · subst q
    rw [List.getElem?_set_self hi] at e
    cases e
    exact .inr f
  · rw [List.getElem?_set_ne q] at e
    exact .inl e⟩
theorem keep_set_app {h g : AH} {a : Nat} {o : AO} (f : o.flat = true) : Keep h (h.set a o ++ g) := ⟨by simp, fun i o' hi e => by
  rw [List.getElem?_append_left (by simpa using hi)] at e
  exact (keep_set f).2 i o' hi e⟩
theorem gc_app {h g : AH} {d : D} (p : d.pure = true) : gc h (.ok d (h ++ g)) = .ok d h := by
  rw [gc_pure keep_app p]; simp
theorem gc_same {h : AH} {d : D} (p : d.pure = true) : gc h (.ok d h) = .ok d h := by
  have := gc_app (h := h) (g := []) p
  simpa using this
theorem gc_set {h : AH} {a : Nat} {o : AO} {d : D} (p : d.pure = true) (f : o.flat = true) : gc h (.ok d (h.set a o)) = .ok d (h.set a o) := by
  rw [gc_pure (keep_set f) p]
  rw [List.take_of_length_le (by simp)]
theorem gc_set_app {h g : AH} {a : Nat} {o : AO} {d : D} (p : d.pure = true) (f : o.flat = true) : gc h (.ok d (h.set a o ++ g)) = .ok d (h.set a o) := by
  rw [gc_pure (keep_set_app f) p]
  rw [List.take_append_of_le_length (by simp), List.take_of_length_le (by simp)]
/-- a list is handed back -/
theorem gc_new {h g : AH} {i : Nat} {o : AO} (e : g[i]? = some o) (f : o.flat = true) : gc h (.ok (.ref (h.length + i)) (h ++ g)) = .ok (.ref h.length) (h ++ [o]) := by
  rw [gc_list keep_app (by omega) (by rw [List.getElem?_append_right (by omega)]; simpa using e) f]
  simp
theorem gc_set_new {h g : AH} {a i : Nat} {o u : AO} (fu : u.flat = true) (e : g[i]? = some o) (f : o.flat = true) : gc h (.ok (.ref (h.length + i)) (h.set a u ++ g)) = .ok (.ref h.length) (h.set a u ++ [o]) := by
  rw [gc_list (keep_set_app fu) (by omega) (by rw [List.getElem?_append_right (by simp)]; simpa using e) f]
  rw [List.take_append_of_le_length (by simp), List.take_of_length_le (by simp)]

/-! ### numbers 0, 1, .. as data -/
abbrev dN (n : Nat) : D := .int (n : Int)
@[simp] theorem pure_int (i : Int) : (D.int i).pure = true := rfl
@[simp] theorem pure_bl (i : Bool) : (D.bl i).pure = true := rfl
@[simp] theorem pure_str (i : Str) : (D.str i).pure = true := rfl
@[simp] theorem pure_non : D.non.pure = true := rfl
@[simp] theorem pure_tup (ds : List D) : (D.tup ds).pure = pures ds := rfl
@[simp] theorem pure_rol (ds : List D) : (D.rol ds).pure = pures ds := rfl
@[simp] theorem flat_lst (ds : List D) : (AO.lst ds).flat = pures ds := rfl
@[simp] theorem pures_nil : pures [] = true := rfl
@[simp] theorem pures_cons (d : D) (ds : List D) : pures (d :: ds) = (d.pure && pures ds) := rfl
theorem pures_map {α : Type} {f : α → D} {xs : List α} (h : ∀ x ∈ xs, (f x).pure = true) : pures (xs.map f) = true := pures_iff.mpr fun d hd => by
  obtain ⟨x, hx, rfl⟩ := List.mem_map.mp hd
  exact h x hx
@[simp] theorem pures_dN (xs : List Nat) : pures (xs.map dN) = true := pures_map fun _ _ => rfl
@[simp] theorem pures_int (xs : List Int) : pures (xs.map D.int) = true := pures_map fun _ _ => rfl
@[simp] theorem pures_append (xs ys : List D) : pures (xs ++ ys) = (pures xs && pures ys) := by
  induction xs with
  | nil => simp
  | cons x xs ih => simp [ih, Bool.and_assoc]
theorem rg_zero (n : Nat) : rg 0 n = (List.range n).map dN := by
  unfold rg
  apply List.map_congr_left
  intro i _
  simp
end Rf

set_option maxHeartbeats 1000000
/-! More for simp: things of the heap by what stands there. -/
namespace Rf
open PySem L2
def ixD (ds : List D) (i : Int) (h : AH) : ER := match L2.atI ds i with
  | some d => .ok d h
  | none => .stuck
def ixO (o : Option AO) (i : Int) (h : AH) : ER := match o with
  | some (.lst ds) => ixD ds i h
  | _ => .stuck
@[simp] theorem ixO_lst (ds : List D) (i : Int) (h : AH) : ixO (some (.lst ds)) i h = ixD ds i h := rfl
@[simp] theorem oIx_ref_ (r : Nat) (i : Int) (h : AH) : oIx (.ref r) (.int i) h = ixO h[r]? i h := by
  simp only [oIx, seqOf, ixO, ixD]
  cases h[r]? with
  | none => rfl
  | some o => cases o <;> rfl
@[simp] theorem oIx_tup_ (ds : List D) (i : Int) (h : AH) : oIx (.tup ds) (.int i) h = ixD ds i h := rfl
@[simp] theorem oIx_rol_ (ds : List D) (i : Int) (h : AH) : oIx (.rol ds) (.int i) h = ixD ds i h := rfl
theorem ixD_some {ds : List D} {i : Nat} {d : D} {h : AH} (e : ds[i]? = some d) : ixD ds (i : Int) h = .ok d h := by simp [ixD, atI_nat e]
@[simp] theorem ixD_0 (d : D) (ds : List D) (h : AH) : ixD (d :: ds) 0 h = .ok d h := ixD_some (i := 0) rfl
@[simp] theorem ixD_1 (a d : D) (ds : List D) (h : AH) : ixD (a :: d :: ds) 1 h = .ok d h := ixD_some (i := 1) rfl
@[simp] theorem ixD_2 (a b d : D) (ds : List D) (h : AH) : ixD (a :: b :: d :: ds) 2 h = .ok d h := ixD_some (i := 2) rfl
@[simp] theorem ixD_3 (a b c d : D) (ds : List D) (h : AH) : ixD (a :: b :: c :: d :: ds) 3 h = .ok d h := ixD_some (i := 3) rfl
@[simp] theorem ixD_4 (a b c e d : D) (ds : List D) (h : AH) : ixD (a :: b :: c :: e :: d :: ds) 4 h = .ok d h := ixD_some (i := 4) rfl
theorem ixD_map {α : Type} {f : α → D} {xs : List α} {i : Nat} {h : AH} {x : α} (e : xs[i]? = some x) : ixD (xs.map f) (i : Int) h = .ok (f x) h := ixD_some (by rw [List.getElem?_map, e]; rfl)
theorem getD_some {α : Type} {xs : List α} {i : Nat} {a : α} (hi : i < xs.length) : xs[i]? = some (xs.getD i a) := by simp [hi]
/-- an item of a row of numbers -/
theorem ixD_N {xs : List Nat} {i : Nat} {h : AH} (hi : i < xs.length) : ixD (xs.map dN) (i : Int) h = .ok (dN (xs.getD i 0)) h := ixD_map (getD_some hi)
def putO (o : Option AO) (r : Nat) (i : Int) (v : D) (h : AH) : Option AH := match o with
  | some (.lst ds) => (match L2.ixN ds.length i with
    | some j => some (h.set r (.lst (ds.set j v)))
    | none => none)
  | _ => none
@[simp] theorem putL_ref_ (r : Nat) (i : Int) (v : D) (h : AH) : putL (.ref r) (.int i) v h = putO h[r]? r i v h := rfl
theorem ixN_nat {n i : Nat} (hi : i < n) : L2.ixN n (i : Int) = some i := by
  unfold L2.ixN
  rw [if_pos (by omega), if_pos (by omega)]
  simp
theorem putO_nat {ds : List D} {r i : Nat} {v : D} {h : AH} (hi : i < ds.length) : putO (some (.lst ds)) r (i : Int) v h = some (h.set r (.lst (ds.set i v))) := by simp [putO, ixN_nat hi]
@[simp] theorem putO_0 (d : D) (ds : List D) (r : Nat) (v : D) (h : AH) : putO (some (.lst (d :: ds))) r 0 v h = some (h.set r (.lst (v :: ds))) := putO_nat (i := 0) (by simp)
@[simp] theorem putO_1 (a d : D) (ds : List D) (r : Nat) (v : D) (h : AH) : putO (some (.lst (a :: d :: ds))) r 1 v h = some (h.set r (.lst (a :: v :: ds))) := putO_nat (i := 1) (by simp)
@[simp] theorem putO_2 (a b d : D) (ds : List D) (r : Nat) (v : D) (h : AH) : putO (some (.lst (a :: b :: d :: ds))) r 2 v h = some (h.set r (.lst (a :: b :: v :: ds))) := putO_nat (i := 2) (by simp)
@[simp] theorem putO_3 (a b c d : D) (ds : List D) (r : Nat) (v : D) (h : AH) : putO (some (.lst (a :: b :: c :: d :: ds))) r 3 v h = some (h.set r (.lst (a :: b :: c :: v :: ds))) := putO_nat (i := 3) (by simp)
/-- a row of numbers, one changed -/
theorem putO_N {xs : List Nat} {r i v : Nat} {h : AH} (hi : i < xs.length) : putO (some (.lst (xs.map dN))) r (i : Int) (dN v) h = some (h.set r (.lst ((xs.set i v).map dN))) := by
  rw [putO_nat (by simpa using hi), List.map_set]
noncomputable def appO (o : Option AO) (r : Nat) (v : D) (h : AH) : ER := match o with
  | some (.lst xs) => if FitsL xs.length then .ok .non (h.set r (.lst (xs ++ [v]))) else .stuck
  | _ => .stuck
@[simp] theorem mAppend_ref_ (r : Nat) (v : D) (h : AH) : mAppend (.ref r) [v] h = appO h[r]? r v h := rfl
theorem appO_lst {ds : List D} {r : Nat} {v : D} {h : AH} (hl : ds.length < sizeLine) : appO (some (.lst ds)) r v h = .ok .non (h.set r (.lst (ds ++ [v]))) := if_pos hl
def tyO (o : Option AO) (T : String) : Bool := match o with
  | some (.lst _) => T == "list"
  | some (.dK _) => T == "dict"
  | some (.dT _) => T == "dict"
  | none => false
@[simp] theorem tyOk_ref_ (h : AH) (T : String) (r : Nat) : tyOk h T (.ref r) = tyO h[r]? T := rfl
@[simp] theorem tyO_lst (ds : List D) (T : String) : tyO (some (.lst ds)) T = (T == "list") := rfl
def lenO (o : Option AO) (h : AH) : ER := match o with
  | some (.lst es) => .ok (.int es.length) h
  | some (.dK kvs) => .ok (.int kvs.length) h
  | _ => .stuck
@[simp] theorem cLen_ref_ (r : Nat) (h : AH) : cLen [.ref r] h = lenO h[r]? h := rfl
@[simp] theorem lenO_lst (es : List D) (h : AH) : lenO (some (.lst es)) h = .ok (.int es.length) h := rfl
def tupO (o : Option AO) (h : AH) : ER := match o with
  | some (.lst es) => .ok (.tup es) h
  | _ => .stuck
@[simp] theorem cTuple_ref_ (r : Nat) (h : AH) : cTuple [.ref r] h = tupO h[r]? h := by
  simp only [cTuple, seqOf, tupO]
  cases h[r]? with
  | none => rfl
  | some o => cases o <;> rfl
@[simp] theorem tupO_lst (es : List D) (h : AH) : tupO (some (.lst es)) h = .ok (.tup es) h := rfl
def lstO (o : Option AO) (h : AH) : ER := match o with
  | some (.lst es) => .ok (.ref h.length) (h ++ [.lst es])
  | _ => .stuck
@[simp] theorem cList_ref_ (r : Nat) (h : AH) : cList [.ref r] h = lstO h[r]? h := by
  simp only [cList, seqOf, lstO]
  cases h[r]? with
  | none => rfl
  | some o => cases o <;> rfl
@[simp] theorem lstO_lst (es : List D) (h : AH) : lstO (some (.lst es)) h = .ok (.ref h.length) (h ++ [.lst es]) := rfl
def slO (o : Option AO) (lo hi : Option Int) (h : AH) : ER := match o with
  | some (.lst es) => .ok (.ref h.length) (h ++ [.lst (cutD es lo hi)])
  | _ => .stuck
@[simp] theorem oSl_ref_ (r : Nat) (lo hi : Option Int) (h : AH) : oSl (.ref r) lo hi h = slO h[r]? lo hi h := by
  simp only [oSl, listOf, slO]
  cases h[r]? with
  | none => rfl
  | some o => cases o <;> rfl
@[simp] theorem slO_lst (es : List D) (lo hi : Option Int) (h : AH) : slO (some (.lst es)) lo hi h = .ok (.ref h.length) (h ++ [.lst (cutD es lo hi)]) := rfl
@[simp] theorem oSl_tup_ (es : List D) (lo hi : Option Int) (h : AH) : oSl (.tup es) lo hi h = .ok (.tup (cutD es lo hi)) h := rfl
@[simp] theorem oSl_rol_ (es : List D) (lo hi : Option Int) (h : AH) : oSl (.rol es) lo hi h = .ok (.ref h.length) (h ++ [.lst (cutD es lo hi)]) := rfl
theorem cutD_to (es : List D) (k : Nat) : cutD es none (some (k : Int)) = es.take k := by
  unfold cutD
  rw [HT.sIx_none, HT.sIx_nat, List.drop_zero, Nat.sub_zero]
  rw [List.take_eq_take_iff]
  omega
theorem cutD_from (es : List D) (k : Nat) : cutD es (some (k : Int)) none = es.drop k := by
  unfold cutD
  rw [HT.sIx_none, HT.sIx_nat]
  by_cases hk : k ≤ es.length
  · rw [Nat.min_eq_left hk, List.take_of_length_le (by simp)]
  · rw [Nat.min_eq_right (by omega), Nat.sub_self, List.take_zero, List.drop_eq_nil_of_le (by omega)]
theorem cutD_mid (es : List D) (k j : Nat) (hk : k ≤ es.length) : cutD es (some (k : Int)) (some (j : Int)) = (es.drop k).take (j - k) := by
  unfold cutD
  rw [HT.sIx_nat, HT.sIx_nat, Nat.min_eq_left hk, List.take_eq_take_iff, List.length_drop]
  omega
def sumO (o : Option AO) (h : AH) : ER := match o with
  | some (.lst es) => (match intsOf es with
    | some ns => .ok (.int ns.sum) h
    | none => .stuck)
  | _ => .stuck
@[simp] theorem cSum_ref_ (r : Nat) (h : AH) : cSum [.ref r] h = sumO h[r]? h := by
  simp only [cSum, listOf, sumO]
  cases h[r]? with
  | none => rfl
  | some o => cases o <;> rfl
@[simp] theorem sumO_ints (ns : List Int) (h : AH) : sumO (some (.lst (ns.map D.int))) h = .ok (.int ns.sum) h := by simp [sumO]
@[simp] theorem oPow_ (i j : Int) (h : AH) : oPow (.int i) (.int j) h = if PowOk i j then .ok (.int (i ^ j.toNat)) h else .stuck := rfl
/-- numbers below 10^600 -/
theorem oMul_b {i j : Int} {h : AH} (h1 : -(10 ^ 200) ≤ i) (h2 : i ≤ 10 ^ 200) (h3 : -(10 ^ 200) ≤ j) (h4 : j ≤ 10 ^ 200) : oMul (.int i) (.int j) h = .ok (.int (i * j)) h := by
  have e : (10 : Int) ^ 200 = ((10 ^ 200 : Nat) : Int) := by norm_cast
  rw [e] at h1 h2 h3 h4
  have l : (10 : Nat) ^ 200 < 2 ^ 10000 := by
    have a : (10 : Nat) ^ 200 ≤ (2 ^ 4) ^ 200 := Nat.pow_le_pow_left (by decide) 200
    rw [← Nat.pow_mul] at a
    exact Nat.lt_of_le_of_lt a (Nat.pow_lt_pow_right (by decide) (by decide))
  exact oMul_int (mulOk (Nat.lt_of_le_of_lt (by omega : i.natAbs ≤ 10 ^ 200) l) (Nat.lt_of_le_of_lt (by omega : j.natAbs ≤ 10 ^ 200) l))
theorem mulB {i j : Int} (h1 : -(10 ^ 200) ≤ i) (h2 : i ≤ 10 ^ 200) (h3 : -(10 ^ 200) ≤ j) (h4 : j ≤ 10 ^ 200) : CMulX i j := by
  have e : (10 : Int) ^ 200 = ((10 ^ 200 : Nat) : Int) := by norm_cast
  rw [e] at h1 h2 h3 h4
  have l : (10 : Nat) ^ 200 < 2 ^ 10000 := by
    have a : (10 : Nat) ^ 200 ≤ (2 ^ 4) ^ 200 := Nat.pow_le_pow_left (by decide) 200
    rw [← Nat.pow_mul] at a
    exact Nat.lt_of_le_of_lt a (Nat.pow_lt_pow_right (by decide) (by decide))
  exact mulOk (Nat.lt_of_le_of_lt (by omega : i.natAbs ≤ 10 ^ 200) l) (Nat.lt_of_le_of_lt (by omega : j.natAbs ≤ 10 ^ 200) l)
theorem divB {j : Int} (h1 : 0 < j) (h2 : j ≤ 10 ^ 200) : DivOk j := by
  have e : (10 : Int) ^ 200 = ((10 ^ 200 : Nat) : Int) := by norm_cast
  rw [e] at h2
  have l : (10 : Nat) ^ 200 < 2 ^ 9000 := by
    have a : (10 : Nat) ^ 200 ≤ (2 ^ 4) ^ 200 := Nat.pow_le_pow_left (by decide) 200
    rw [← Nat.pow_mul] at a
    exact Nat.lt_of_le_of_lt a (Nat.pow_lt_pow_right (by decide) (by decide))
  exact ⟨h1, log2_small h1 (Nat.lt_of_le_of_lt (by omega : j.natAbs ≤ 10 ^ 200) l)⟩
theorem get_set {α : Type} {h : List α} {a : Nat} {o : α} (ha : h[a]? = some o) (x : α) : (h.set a x)[a]? = some x := List.getElem?_set_self (List.getElem?_eq_some_iff.mp ha).1
theorem oMul_ (i j : Int) (h : AH) : oMul (.int i) (.int j) h = if CMulX i j then .ok (.int (i * j)) h else .stuck := rfl
theorem oDiv_ (i j : Int) (h : AH) : oDiv (.int i) (.int j) h = if DivOk j then .ok (.int (i / j)) h else .stuck := rfl
theorem oMod_ (i j : Int) (h : AH) : oMod (.int i) (.int j) h = if 0 < j then .ok (.int (i % j)) h else .stuck := rfl
theorem oDiv_b {i j : Int} {h : AH} (h1 : 0 < j) (h2 : j ≤ 10 ^ 200) : oDiv (.int i) (.int j) h = .ok (.int (i / j)) h := by
  have e : (10 : Int) ^ 200 = ((10 ^ 200 : Nat) : Int) := by norm_cast
  rw [e] at h2
  have l : (10 : Nat) ^ 200 < 2 ^ 9000 := by
    have a : (10 : Nat) ^ 200 ≤ (2 ^ 4) ^ 200 := Nat.pow_le_pow_left (by decide) 200
    rw [← Nat.pow_mul] at a
    exact Nat.lt_of_le_of_lt a (Nat.pow_lt_pow_right (by decide) (by decide))
  exact oDiv_int ⟨h1, log2_small h1 (Nat.lt_of_le_of_lt (by omega : j.natAbs ≤ 10 ^ 200) l)⟩
/-! walks -/
noncomputable def forR (o : LR) (g : GM) (b : SM) (e : AE) : SR := match o with
  | .ok [.int j] h1 => if RgB j then sLoop g b (rg 0 j.toNat) e h1 else .stuck
  | .ok _ _ => .stuck
  | .exc c fs h1 => .exc c fs e h1
  | .stuck => .stuck
@[simp] theorem sFor_range1 (l : LM) (g : GM) (b : SM) (e : AE) (h : AH) : sFor (iRange1 l) g b e h = forR (l e h) g b e := by
  unfold sFor iRange1 forR
  cases l e h with
  | ok ds h1 =>
    match ds with
    | [.int j] =>
      dsimp only
      by_cases hj : RgB j
      · rw [if_pos hj, if_pos hj]
        exact forN_stat _ 0 e h1 rfl
      · rw [if_neg hj, if_neg hj]
    | [] => rfl
    | .non :: _ => rfl
    | .bl _ :: _ => rfl
    | .str _ :: _ => rfl
    | .ty _ :: _ => rfl
    | .tup _ :: _ => rfl
    | .rol _ :: _ => rfl
    | .ref _ :: _ => rfl
    | .int _ :: _ :: _ => rfl
  | exc c fs h1 => rfl
  | stuck => rfl
@[simp] theorem forR_ok (j : Int) (h1 : AH) (g : GM) (b : SM) (e : AE) : forR (.ok [.int j] h1) g b e = if RgB j then sLoop g b (rg 0 j.toNat) e h1 else .stuck := rfl
/-- a list of the heap walked -/
def liveL (r : Nat) (ds : List D) (g : GM) (b : SM) (e : AE) (h : AH) : SR := forN (live r ds.length) g b (ds.length + 1) 0 e h
def forO (o : Option AO) (r : Nat) (g : GM) (b : SM) (e : AE) (h : AH) : SR := match o with
  | some (.lst ds) => liveL r ds g b e h
  | _ => .stuck
@[simp] theorem forO_lst (ds : List D) (r : Nat) (g : GM) (b : SM) (e : AE) (h : AH) : forO (some (.lst ds)) r g b e h = liveL r ds g b e h := rfl
def forV (o : ER) (g : GM) (b : SM) (e : AE) : SR := match o with
  | .ok (.tup ds) h1 => sLoop g b ds e h1
  | .ok (.rol ds) h1 => sLoop g b ds e h1
  | .ok (.str x) h1 => sLoop g b (signs x) e h1
  | .ok (.ref r) h1 => forO h1[r]? r g b e h1
  | .ok _ _ => .stuck
  | .exc c fs h1 => .exc c fs e h1
  | .stuck => .stuck
@[simp] theorem forV_tup (ds : List D) (g : GM) (b : SM) (e : AE) (h : AH) : forV (.ok (.tup ds) h) g b e = sLoop g b ds e h := rfl
@[simp] theorem forV_rol (ds : List D) (g : GM) (b : SM) (e : AE) (h : AH) : forV (.ok (.rol ds) h) g b e = sLoop g b ds e h := rfl
@[simp] theorem forV_str (x : Str) (g : GM) (b : SM) (e : AE) (h : AH) : forV (.ok (.str x) h) g b e = sLoop g b (signs x) e h := rfl
@[simp] theorem forV_ref (r : Nat) (g : GM) (b : SM) (e : AE) (h : AH) : forV (.ok (.ref r) h) g b e = forO h[r]? r g b e h := rfl
@[simp] theorem sFor_val (m : EM) (g : GM) (b : SM) (e : AE) (h : AH) : sFor (iVal m) g b e h = forV (m e h) g b e := by
  unfold sFor iVal forV
  cases m e h with
  | ok d h1 =>
    cases d with
    | tup ds => exact forN_stat ds 0 e h1 rfl
    | rol ds => exact forN_stat ds 0 e h1 rfl
    | str x => exact forN_stat (signs x) 0 e h1 rfl
    | ref r =>
      dsimp only
      unfold forO liveL
      cases h1[r]? with
      | none => rfl
      | some o => cases o <;> rfl
    | _ => rfl
  | exc c fs h1 => rfl
  | stuck => rfl
noncomputable def rgE (tp : Bool) (d : D) (h1 : AH) : ER := match d with
  | .int j => if RgOk 0 j then (if tp then .ok (.tup (rg 0 j.toNat)) h1 else .ok (.ref h1.length) (h1 ++ [.lst (rg 0 j.toNat)])) else .stuck
  | _ => .stuck
@[simp] theorem eRg1_ (tp : Bool) (m : EM) (e : AE) (h : AH) : eRg1 tp m e h = (m e h).then (rgE tp) := rfl
@[simp] theorem rgE_t (j : Int) (h1 : AH) : rgE true (.int j) h1 = if RgOk 0 j then .ok (.tup (rg 0 j.toNat)) h1 else .stuck := by
  unfold rgE; simp
@[simp] theorem rgE_f (j : Int) (h1 : AH) : rgE false (.int j) h1 = if RgOk 0 j then .ok (.ref h1.length) (h1 ++ [.lst (rg 0 j.toNat)]) else .stuck := by
  unfold rgE; simp
theorem rgB_nat {n : Nat} (h : n ≤ 1000000) : RgB (n : Int) := ⟨by omega, by omega⟩
theorem rgOk_nat {n : Nat} (hn : n ≤ 16777216) : RgOk 0 (n : Int) := RgOk.of_le (Int.le_refl 0) (by omega) (by decide) (by omega)
theorem iRange1_nat {m : EM} {e : AE} {h h1 : AH} {n : Nat} (hm : m e h = .ok (.int (n : Int)) h1) (hn : n ≤ 1000000) : iRange1 (lCons m lNil) e h = .ok (stat ((List.range n).map dN)) h1 := by
  simp only [iRange1, lCons_, lNil_, hm, thenL_ok, lrcons_ok]
  rw [if_pos (rgB_nat hn), Int.toNat_natCast, rg_zero]
theorem iVal_tup {m : EM} {e : AE} {h h1 : AH} {ds : List D} (hm : m e h = .ok (.tup ds) h1) : iVal m e h = .ok (stat ds) h1 := by simp [iVal, hm]
theorem iVal_rol {m : EM} {e : AE} {h h1 : AH} {ds : List D} (hm : m e h = .ok (.rol ds) h1) : iVal m e h = .ok (stat ds) h1 := by simp [iVal, hm]
theorem iVal_str {m : EM} {e : AE} {h h1 : AH} {x : Str} (hm : m e h = .ok (.str x) h1) : iVal m e h = .ok (stat (signs x)) h1 := by simp [iVal, hm]
theorem iVal_ref {m : EM} {e : AE} {h h1 : AH} {r : Nat} {ds : List D} (hm : m e h = .ok (.ref r) h1) (hr : h1[r]? = some (.lst ds)) : iVal m e h = .ok (live r ds.length) h1 := by simp [iVal, hm, hr]
theorem liveL_inv {g : GM} {b : SM} {e : AE} {h : AH} {r : Nat} {ds : List D} (P : Nat → AE → AH → Prop) (hP : ∀ i e h, P i e h → h[r]? = some (.lst ds)) (p : P 0 e h)
    (st : ∀ (i : Nat) (d : D) (e : AE) (h : AH), ds[i]? = some d → P i e h → ∃ e' h', (onlyNx (g d e h)).then b = .nx e' h' ∧ P (i + 1) e' h') : ∃ e' h', liveL r ds g b e h = .nx e' h' ∧ P ds.length e' h' :=
  forN_live P hP ds.length 0 e h (Nat.zero_add _) p st
theorem liveL_ret {g : GM} {b : SM} {e : AE} {h : AH} {r : Nat} {ds : List D} (P : Nat → AE → AH → Prop) (R : D → AH → Prop) (hP : ∀ i e h, P i e h → h[r]? = some (.lst ds)) (p : P 0 e h)
    (st : ∀ (i : Nat) (d : D) (e : AE) (h : AH), ds[i]? = some d → P i e h → (∃ e' h', (onlyNx (g d e h)).then b = .nx e' h' ∧ P (i + 1) e' h') ∨ ∃ d' h', (onlyNx (g d e h)).then b = .rt d' h' ∧ R d' h') :
    (∃ e' h', liveL r ds g b e h = .nx e' h' ∧ P ds.length e' h') ∨ ∃ d' h', liveL r ds g b e h = .rt d' h' ∧ R d' h' :=
  forN_live_ret P R hP ds.length 0 e h (Nat.zero_add _) p st
/-- a loop over 0 .. n - 1 -/
theorem loopN {k : Nat} {b : SM} (P : Nat → AE → AH → Prop) (n : Nat) {e : AE} {h : AH} (p : P 0 e h)
    (st : ∀ (i : Nat) (e : AE) (h : AH), i < n → P i e h → ∃ e' h', b (e.set k (some (dN i))) h = .nx e' h' ∧ P (i + 1) e' h') : ∃ e' h', sLoop (gVar k) b ((List.range n).map dN) e h = .nx e' h' ∧ P n e' h' := by
  have := loop_inv (g := gVar k) (b := b) P ((List.range n).map dN) 0 e h p fun i d e h hd hp => by
    rw [List.getElem?_map] at hd
    by_cases hi : i < n
    · rw [List.getElem?_range hi] at hd
      cases hd
      rw [Nat.zero_add] at hp
      obtain ⟨e', h', q, p'⟩ := st i e h hi hp
      exact ⟨e', h', q, by rwa [Nat.zero_add]⟩
    · rw [List.getElem?_eq_none (by simp; omega)] at hd; cases hd
  simpa using this
theorem loopN_ret {k : Nat} {b : SM} (P : Nat → AE → AH → Prop) (R : D → AH → Prop) (n : Nat) {e : AE} {h : AH} (p : P 0 e h)
    (st : ∀ (i : Nat) (e : AE) (h : AH), i < n → P i e h → (∃ e' h', b (e.set k (some (dN i))) h = .nx e' h' ∧ P (i + 1) e' h') ∨ ∃ d' h', b (e.set k (some (dN i))) h = .rt d' h' ∧ R d' h') :
    (∃ e' h', sLoop (gVar k) b ((List.range n).map dN) e h = .nx e' h' ∧ P n e' h') ∨ ∃ d' h', sLoop (gVar k) b ((List.range n).map dN) e h = .rt d' h' ∧ R d' h' := by
  have := loop_ret (g := gVar k) (b := b) P R ((List.range n).map dN) 0 e h p fun i d e h hd hp => by
    rw [List.getElem?_map] at hd
    by_cases hi : i < n
    · rw [List.getElem?_range hi] at hd
      cases hd
      rw [Nat.zero_add] at hp
      rcases st i e h hi hp with ⟨e', h', q, p'⟩ | z
      · exact .inl ⟨e', h', q, by rwa [Nat.zero_add]⟩
      · exact .inr z
    · rw [List.getElem?_eq_none (by simp; omega)] at hd; cases hd
  simpa using this
theorem beq_nat (a b : Nat) : ((a : Int) == (b : Int)) = (a == b) := by
  by_cases h : a = b
  · subst h; simp
  · have h2 : ¬ (a : Int) = (b : Int) := fun e => h (Int.ofNat.inj e)
    rw [beq_eq_false_iff_ne.mpr h, beq_eq_false_iff_ne.mpr h2]
@[simp high] theorem oEq_N (a b : Nat) (h : AH) : oEq (.int (a : Int)) (.int (b : Int)) h = .ok (.bl (a == b)) h := by rw [oEq_int, beq_nat]
@[simp high] theorem oNe_N (a b : Nat) (h : AH) : oNe (.int (a : Int)) (.int (b : Int)) h = .ok (.bl (!(a == b))) h := by rw [oNe_int, beq_nat]
theorem fits {n : Nat} (h : n ≤ 16777216) : Fits n := by unfold Fits; rw [sizeLine_eq]; exact h
theorem fitsL {n : Nat} (h : n < 16777216) : FitsL n := by unfold FitsL; rw [sizeLine_eq]; exact h
@[simp] theorem fits_0 : Fits 0 := fits (by decide)
@[simp] theorem fits_1 : Fits (0 + 1) := fits (by decide)
@[simp] theorem fits_2 : Fits (0 + 1 + 1) := fits (by decide)
@[simp] theorem fits_3 : Fits (0 + 1 + 1 + 1) := fits (by decide)
@[simp] theorem fits_1' : Fits 1 := fits (by decide)
@[simp] theorem fits_2' : Fits 2 := fits (by decide)
@[simp] theorem fits_3' : Fits 3 := fits (by decide)
@[simp] theorem fits_4' : Fits 4 := fits (by decide)
@[simp] theorem fits_5' : Fits 5 := fits (by decide)
@[simp] theorem fits_8' : Fits 8 := fits (by decide)
@[simp] theorem powOk_18 : PowOk 10 18 := ⟨by decide, by decide, by decide⟩
@[simp] theorem powOk_15 : PowOk 10 15 := ⟨by decide, by decide, by decide⟩
@[simp] theorem powOk_60 : PowOk 10 60 := ⟨by decide, by decide, by decide⟩
@[simp] theorem powOk_6 : PowOk 10 6 := ⟨by decide, by decide, by decide⟩
@[simp] theorem divOk_2 : DivOk 2 := divB (by decide) (by decide)
@[simp] theorem divOk_3 : DivOk 3 := divB (by decide) (by decide)
@[simp] theorem divOk_7 : DivOk 7 := divB (by decide) (by decide)
@[simp] theorem divOk_32 : DivOk 32 := divB (by decide) (by decide)
@[simp] theorem divOk_61 : DivOk 61 := divB (by decide) (by decide)
theorem set_self {α : Type} {h : List α} {a : Nat} {o : α} (ha : h[a]? = some o) : h.set a o = h := by
  apply List.ext_getElem?
  intro j
  by_cases hj : a = j
  · subst hj
    rw [List.getElem?_set_self (List.getElem?_eq_some_iff.mp ha).1, ha]
  · rw [List.getElem?_set_ne hj]
/-- the new things behind h -/
theorem app_get {α : Type} {h g : List α} {i : Nat} : (h ++ g)[h.length + i]? = g[i]? := by
  rw [List.getElem?_append_right (by omega)]; simp
@[simp] theorem app_get0 {α : Type} {h g : List α} {n : Nat} (hn : h.length = n := by simp) : (h ++ g)[n]? = g[0]? := by
  subst hn
  rw [List.getElem?_append_right (by omega)]; simp
theorem app_get_l {α : Type} {h g : List α} {a : Nat} {o : α} (ha : h[a]? = some o) : (h ++ g)[a]? = some o := by
  rw [List.getElem?_append_left (List.getElem?_eq_some_iff.mp ha).1]; exact ha
theorem app_set_l {α : Type} {h g : List α} {a : Nat} {o : α} (ha : a < h.length) : (h ++ g).set a o = h.set a o ++ g := List.set_append_left _ _ ha
theorem app_set {α : Type} {h g : List α} {i n : Nat} {o : α} (hn : h.length = n) : (h ++ g).set (n + i) o = h ++ g.set i o := by
  subst hn
  rw [List.set_append_right _ _ (by omega)]; simp
theorem getD_set {p : List Nat} {i j v : Nat} (hi : i < p.length) : (p.set i v).getD j 0 = if i = j then v else p.getD j 0 := by
  simp only [List.getD_eq_getElem?_getD]
  by_cases h : i = j
  · subst h
    rw [List.getElem?_set_self hi, if_pos rfl]; rfl
  · rw [List.getElem?_set_ne h, if_neg h]
end Rf

set_option maxHeartbeats 1000000
/-! Reckoning with the later parts (RN .. RC). -/
namespace Rf
open PySem L2
@[simp] theorem eDict_ (e : AE) (h : AH) : eDict e h = .ok (.ref h.length) (h ++ [.dK []]) := rfl
@[simp] theorem eCallK_ (n m : Nat) (idx : List Nat) (F : List D → AH → ER) (ml mk : LM) (e : AE) (h : AH) : eCallK n m idx F ml mk e h = (ml e h).then fun ds h1 => (mk e h1).then fun es h2 => if ds.length = n ∧ es.length = m then F (permK idx ds es) h2 else .stuck := rfl
theorem cSorted_lst {r : Nat} {ns : List Int} {h : AH} (e : h[r]? = some (.lst (ns.map D.int))) : cSorted [.ref r] h = .ok (.ref h.length) (h ++ [.lst ((intSort ns).map D.int)]) := by
  simp [cSorted, e]
theorem cSorted_dK {r : Nat} {kvs : List (Key × D)} {ns : List Int} {h : AH} (e : h[r]? = some (.dK kvs)) (k : keysI kvs = some ns) (l : ns.length < 64) : cSorted [.ref r] h = .ok (.ref h.length) (h ++ [.lst ((intSort ns).map D.int)]) := by
  simp [cSorted, e, k, l]
theorem oDGet_ref {r : Nat} {kvs : List (Key × D)} {k : Int} {d : D} {h : AH} (e : h[r]? = some (.dK kvs)) (v : valD kvs (.inl k) = some d) : oDGet (.ref r) (.int k) h = .ok d h := by
  simp [oDGet, dictOf, keyD, e, v]
theorem oDNotIn_ref {r : Nat} {kvs : List (Key × D)} {k : Int} {h : AH} (e : h[r]? = some (.dK kvs)) : oDNotIn (.int k) (.ref r) h = .ok (.bl (!(valD kvs (.inl k)).isSome)) h := by
  simp [oDNotIn, dictOf, keyD, e]
theorem oDIn_ref {r : Nat} {kvs : List (Key × D)} {k : Int} {h : AH} (e : h[r]? = some (.dK kvs)) : oDIn (.int k) (.ref r) h = .ok (.bl (valD kvs (.inl k)).isSome) h := by
  simp [oDIn, dictOf, keyD, e]
theorem putD_ref {r : Nat} {kvs : List (Key × D)} {k : Int} {v : D} {h : AH} (e : h[r]? = some (.dK kvs)) (l : kvs.length < sizeLine) : putD (.ref r) (.int k) v h = some (h.set r (.dK (setD kvs (.inl k) v))) := by
  simp [putD, dictOf, keyD, e, l]
theorem iEnum1_tup {m : EM} {e : AE} {h h1 : AH} {ds : List D} (hm : m e h = .ok (.tup ds) h1) : iEnum1 m e h = .ok (stat (numD ds)) h1 := by simp [iEnum1, hm]
theorem eRev_ref {m : EM} {e : AE} {h h1 : AH} {r : Nat} {ds : List D} (hm : m e h = .ok (.ref r) h1) (er : h1[r]? = some (.lst ds)) : eRev m e h = .ok (.ref h1.length) (h1 ++ [.lst ds.reverse]) := by simp [eRev, hm, Rf.listOf, er]
end Rf

set_option maxHeartbeats 1000000
/-! reckoning for RY: enumerate, stars, max -/
namespace Rf
open PySem L2
theorem forN_liveE {g : GM} {b : SM} {r : Nat} {ds : List D} {m : Nat} (P : Nat → AE → AH → Prop) (hP : ∀ i e h, P i e h → h[r]? = some (.lst ds)) : ∀ (k i : Nat) (e : AE) (h : AH), i + k = ds.length → P i e h →
    (∀ (i : Nat) (d : D) (e : AE) (h : AH), ds[i]? = some d → P i e h → ∃ e' h', (onlyNx (g (.tup [.int (i : Nat), d]) e h)).then b = .nx e' h' ∧ P (i + 1) e' h') → ∃ e' h', forN (liveE r m) g b (k + 1) i e h = .nx e' h' ∧ P ds.length e' h'
  | 0, i, e, h, hk, p, st => by
    have e0 := hP i e h p
    have ei : i = ds.length := by omega
    refine ⟨e, h, ?_, by rw [← ei]; exact p⟩
    unfold forN
    simp [liveE, e0, ei, numD_at]
  | k + 1, i, e, h, hk, p, st => by
    have e0 := hP i e h p
    have hi : i < ds.length := by omega
    obtain ⟨e1, h1, q, p1⟩ := st i ds[i] e h (List.getElem?_eq_getElem hi) p
    obtain ⟨e2, h2, q2, p2⟩ := forN_liveE P hP k (i + 1) e1 h1 (by omega) p1 st
    refine ⟨e2, h2, ?_, p2⟩
    have nx : (liveE r m).nxt i h = some (some (.tup [.int (i : Nat), ds[i]])) := by simp [liveE, e0, numD_at, hi]
    unfold forN
    rw [nx]
    dsimp only
    rw [q]
    exact q2
theorem sFor_enumL {m : EM} {g : GM} {b : SM} {e : AE} {h h1 : AH} {r : Nat} {ds : List D} (P : Nat → AE → AH → Prop) (hm : m e h = .ok (.ref r) h1) (hP : ∀ i e h, P i e h → h[r]? = some (.lst ds)) (p : P 0 e h1)
    (st : ∀ (i : Nat) (d : D) (e : AE) (h : AH), ds[i]? = some d → P i e h → ∃ e' h', (onlyNx (g (.tup [.int (i : Nat), d]) e h)).then b = .nx e' h' ∧ P (i + 1) e' h') : ∃ e' h', sFor (iEnum2 m) g b e h = .nx e' h' ∧ P ds.length e' h' := by
  have hr := hP _ _ _ p
  have : iEnum2 m e h = .ok (liveE r ds.length) h1 := by simp [iEnum2, hm, hr]
  unfold sFor
  rw [this]
  exact forN_liveE P hP ds.length 0 e h1 (Nat.zero_add _) p st
theorem iEnum2_tup {m : EM} {e : AE} {h h1 : AH} {ds : List D} (hm : m e h = .ok (.tup ds) h1) : iEnum2 m e h = .ok (stat (numD ds)) h1 := by simp [iEnum2, hm]
theorem sFor_enumT {m : EM} {g : GM} {b : SM} {e : AE} {h h1 : AH} {ds : List D} (P : Nat → AE → AH → Prop) (hm : m e h = .ok (.tup ds) h1) (p : P 0 e h1)
    (st : ∀ (i : Nat) (d : D) (e : AE) (h : AH), ds[i]? = some d → P i e h → ∃ e' h', (onlyNx (g (.tup [.int (i : Nat), d]) e h)).then b = .nx e' h' ∧ P (i + 1) e' h') : ∃ e' h', sFor (iEnum2 m) g b e h = .nx e' h' ∧ P ds.length e' h' := by
  rw [sFor_stat (iEnum2_tup hm)]
  have := loop_inv (g := g) (b := b) P (numD ds) 0 e h1 p fun i d e h hd hp => by
    rw [numD_at] at hd
    obtain ⟨d0, h0, rfl⟩ := Option.map_eq_some_iff.mp hd
    rw [Nat.zero_add] at hp
    obtain ⟨e', h', q, p'⟩ := st i d0 e h h0 hp
    exact ⟨e', h', q, by rwa [Nat.zero_add]⟩
  have ln : (numD ds).length = ds.length := by simp [numD]
  simpa [ln] using this
theorem sFor_enumT_ret {m : EM} {g : GM} {b : SM} {e : AE} {h h1 : AH} {ds : List D} (P : Nat → AE → AH → Prop) (R : D → AH → Prop) (hm : m e h = .ok (.tup ds) h1) (p : P 0 e h1)
    (st : ∀ (i : Nat) (d : D) (e : AE) (h : AH), ds[i]? = some d → P i e h → (∃ e' h', (onlyNx (g (.tup [.int (i : Nat), d]) e h)).then b = .nx e' h' ∧ P (i + 1) e' h') ∨ ∃ d' h', (onlyNx (g (.tup [.int (i : Nat), d]) e h)).then b = .rt d' h' ∧ R d' h') :
    (∃ e' h', sFor (iEnum2 m) g b e h = .nx e' h' ∧ P ds.length e' h') ∨ ∃ d' h', sFor (iEnum2 m) g b e h = .rt d' h' ∧ R d' h' := by
  rw [sFor_stat (iEnum2_tup hm)]
  have := loop_ret (g := g) (b := b) P R (numD ds) 0 e h1 p fun i d e h hd hp => by
    rw [numD_at] at hd
    obtain ⟨d0, h0, rfl⟩ := Option.map_eq_some_iff.mp hd
    rw [Nat.zero_add] at hp
    rcases st i d0 e h h0 hp with ⟨e', h', q, p'⟩ | z
    · exact .inl ⟨e', h', q, by rwa [Nat.zero_add]⟩
    · exact .inr z
  have ln : (numD ds).length = ds.length := by simp [numD]
  simpa [ln] using this
def LR.app (xs : List D) : LR → LR
  | .ok ds h => .ok (xs ++ ds) h
  | .exc c fs h => .exc c fs h
  | .stuck => .stuck
@[simp] theorem app_ok (xs ds : List D) (h : AH) : LR.app xs (.ok ds h) = .ok (xs ++ ds) h := rfl
theorem lStar_ref {a : EM} {r : LM} {env : AE} {h h1 : AH} {i : Nat} {xs : List D} (e : a env h = .ok (.ref i) h1) (hr : h1[i]? = some (.lst xs)) : lStar a r env h = (r env h1).app xs := by
  unfold lStar
  rw [e]
  simp only [seqOf, hr]
  cases r env h1 <;> rfl
theorem cMaxL_ref {r : Nat} {ns : List Int} {h : AH} (e : h[r]? = some (.lst (ns.map D.int))) (l : 0 < ns.length) : cMaxL [.ref r] h = .ok (.int (maxI ns)) h := by
  simp only [cMaxL, listOf, e, intsOf_map]
  rw [if_pos l]
/-- a comprehension over a row that stands still, any target, no test -/
theorem lc_gen {g : GM} {te : EM} {e0 : AE} {h : AH} {ds : List D} (f : Nat → D) : ∀ (m i : Nat) (acc : List D), i + m = ds.length → acc.length + m ≤ sizeLine →
    (∀ i d, ds[i]? = some d → ∃ e1, g d e0 h = .nx e1 h ∧ te e1 h = .ok (f i) h) → lcN (stat ds) g (eC (.bl true)) te e0 (m + 1) i acc h = .inr (acc ++ (List.range m).map fun t => f (i + t), h)
  | 0, i, acc, hi, _, _ => by
    have hi : ds[i]? = none := List.getElem?_eq_none (by omega)
    unfold lcN
    simp [stat, hi]
  | m + 1, i, acc, hi, hl, st => by
    have hd : ds[i]? = some ds[i] := List.getElem?_eq_getElem (by omega)
    obtain ⟨e1, q1, q2⟩ := st i _ hd
    have ih := lc_gen (g := g) (te := te) (e0 := e0) (h := h) (ds := ds) f m (i + 1) (acc ++ [f i]) (by omega) (by simp; omega) st
    have nx : (stat ds).nxt i h = some (some ds[i]) := by simp [stat, hd]
    unfold lcN
    rw [nx]
    simp only [q1, eC_, q2]
    rw [if_pos (show FitsL acc.length from (by omega : acc.length < sizeLine)), ih]
    have : (List.range (m + 1)).map (fun t => f (i + t)) = f i :: (List.range m).map (fun t => f (i + 1 + t)) := by
      rw [List.range_succ_eq_map]
      simp only [List.map_cons, List.map_map, Nat.add_zero]
      congr 1
      refine List.map_congr_left fun t _ => ?_
      show f (i + (t + 1)) = _
      congr 1; omega
    rw [this, List.append_assoc]; rfl
theorem eLc_gen {mi : IM} {g : GM} {te : EM} {vs : List Nat} {e : AE} {h h1 : AH} {ds : List D} (f : Nat → D) (hm : mi e h = .ok (stat ds) h1) (hl : ds.length ≤ sizeLine)
    (st : ∀ i d, ds[i]? = some d → ∃ e1, g d (wipeE e vs) h1 = .nx e1 h1 ∧ te e1 h1 = .ok (f i) h1) : eLc mi g (eC (.bl true)) te vs e h = .ok (.ref h1.length) (h1 ++ [.lst ((List.range ds.length).map f)]) := by
  unfold eLc
  rw [hm]
  have := lc_gen (g := g) (te := te) (e0 := wipeE e vs) (h := h1) (ds := ds) f ds.length 0 [] (Nat.zero_add _) (by simpa using hl) st
  have hn : (stat ds).n = ds.length := rfl
  simp only [hn, this]
  simp
theorem numD_len {ds : List D} : (numD ds).length = ds.length := by simp [numD]
end Rf

set_option maxHeartbeats 1000000
namespace Law
open PySem Rf L2
def Bag (N : Nat) (o : AO) : Prop := ∃ b0 b1 b2 : Int, o = .lst [.int b0, .int b1, .int b2] ∧ (0 ≤ b0 ∧ b0 < 10 ^ 60) ∧ (0 ≤ b1 ∧ b1 < 10 ^ 60) ∧ 0 ≤ b2 ∧ b2 ≤ N
theorem Bag.flat {N : Nat} {o : AO} (b : Bag N o) : o.flat = true := by
  obtain ⟨b0, b1, b2, rfl, _⟩ := b
  rfl
theorem Bag.mono {N M : Nat} {o : AO} (b : Bag N o) (h : N ≤ M) : Bag M o := by
  obtain ⟨b0, b1, b2, e, h0, h1, h2, h3⟩ := b
  exact ⟨b0, b1, b2, e, h0, h1, h2, by omega⟩
theorem take_spec {h : AH} {a N : Nat} {o : AO} (ha : h[a]? = some o) (hb : Bag N o) (hN : N ≤ 1000000000) {s : Int} (hs : 0 < s) (hs2 : s < 10 ^ 60) :
    ∃ (d : Nat) (o' : AO), c__law_take [.ref a, .int s] h = .ok (.int d) (h.set a o') ∧ (d : Int) < s ∧ Bag (N + 1) o' := by
  obtain ⟨b0, b1, b2, rfl, ⟨h00, h01⟩, ⟨h10, h11⟩, h20, h21⟩ := hb
  have hal : a < h.length := (List.getElem?_eq_some_iff.mp ha).1
  have e0 : (h.set a (.lst [.int b0, .int b1, .int (b2 + 1)]))[a]? = some (.lst [.int b0, .int b1, .int (b2 + 1)]) := List.getElem?_set_self hal
  have hd : DivOk s := divB hs (by omega)
  have c1 : CMulX 7919 (b2 + 1) := mulB (by omega) (by omega) (by omega) (by omega)
  have c2 : CMulX (b1 + 7919 * (b2 + 1)) 48271 := mulB (by omega) (by omega) (by omega) (by omega)
  have c3 : CMulX 104729 (b2 + 1) := mulB (by omega) (by omega) (by omega) (by omega)
  have c4 : CMulX ((b1 + 7919 * (b2 + 1)) * 48271 % 2147483647 / 3 + 104729 * (b2 + 1)) 69621 := mulB (by omega) (by omega) (by omega) (by omega)
  have hg := fun x => get_set ha x
  have m0 : 0 ≤ b0 % s ∧ b0 % s < s := ⟨Int.emod_nonneg _ (by omega), Int.emod_lt_of_pos _ hs⟩
  have q0 : 0 ≤ b0 / s ∧ b0 / s ≤ b0 := ⟨Int.ediv_nonneg h00 (by omega), Int.ediv_le_self _ h00⟩
  generalize hM : ((b1 + 7919 * (b2 + 1)) * 48271 % 2147483647 / 3 + 104729 * (b2 + 1)) * 69621 % 2147483629 / 7 = M
  have m1 : 0 ≤ M % s ∧ M % s < s := ⟨Int.emod_nonneg _ (by omega), Int.emod_lt_of_pos _ hs⟩
  by_cases q : 10 ^ 18 ≤ b1 ∧ 0 < b0
  · have q1 : (1000000000000000000 : Int) ≤ b1 := q.1
    refine ⟨(b0 % s).toNat, .lst [.int (b0 / s), .int b1, .int (b2 + 1)], ?_, by omega, b0 / s, b1, b2 + 1, rfl, by omega, by omega, by omega, by omega⟩
    have e : c__law_take [.ref a, .int s] h = gc h (.ok (.int (b0 % s)) (h.set a (.lst [.int (b0 / s), .int b1, .int (b2 + 1)]))) := by
      unfold c__law_take fsem
      simp [m__law_take, ha, hg, oMul_, oDiv_, oMod_, hd, c1, c2, c3, c4, hs, q1, q.2]
    rw [e, gc_set rfl rfl, Int.toNat_of_nonneg m0.1]
  · refine ⟨(M % s).toNat, .lst [.int b0, .int b1, .int (b2 + 1)], ?_, by omega, b0, b1, b2 + 1, rfl, by omega, by omega, by omega, by omega⟩
    have e : c__law_take [.ref a, .int s] h = gc h (.ok (.int (M % s)) (h.set a (.lst [.int b0, .int b1, .int (b2 + 1)]))) := by
      unfold c__law_take fsem
      by_cases q1 : (1000000000000000000 : Int) ≤ b1
      · have q2 : ¬ 0 < b0 := fun z => q ⟨q1, z⟩
        simp [m__law_take, ha, hg, oMul_, oDiv_, oMod_, hd, c1, c2, c3, c4, hs, q1, q2, hM]
      · simp [m__law_take, ha, hg, oMul_, oDiv_, oMod_, hd, c1, c2, c3, c4, hs, q1, hM]
    rw [e, gc_set rfl rfl, Int.toNat_of_nonneg m1.1]

theorem cell_spec {h : AH} {ns : List Int} (hl : ns.length ≤ 63) {k : Nat} (hk : k ≤ 100) : ∃ v : Int, c__law_cell [.rol (ns.map D.int), dN k] h = .ok (.int v) h ∧ 0 ≤ v ∧ v < 10 ^ 60 := by
  have ht : cutD (ns.map D.int) none (some 63) = ns.map D.int := by
    rw [show (63 : Int) = ((63 : Nat) : Int) from rfl, cutD_to, List.take_of_length_le (by simpa using hl)]
  have ha : (h ++ [AO.lst (ns.map D.int)])[h.length]? = some (.lst (ns.map D.int)) := by simp
  by_cases q : k < ns.length
  · refine ⟨ns[k] % 10 ^ 60, ?_, Int.emod_nonneg _ (by decide), Int.emod_lt_of_pos _ (by decide)⟩
    have ei : ∀ h, ixD (ns.map D.int) (k : Int) h = .ok (.int ns[k]) h := fun h => ixD_map (List.getElem?_eq_getElem q)
    have e : c__law_cell [.rol (ns.map D.int), dN k] h = gc h (.ok (.int (ns[k] % 10 ^ 60)) (h ++ [.lst (ns.map D.int)])) := by
      unfold c__law_cell fsem
      simp [m__law_cell, ht, q, ei, oMod_]
    rw [e, gc_app rfl]
  · have c1 : CMulX (ns.sum % 1000003) 7919 := mulB (by omega) (by omega) (by omega) (by omega)
    have c2 : CMulX 104729 (k : Int) := mulB (by omega) (by omega) (by omega) (by omega)
    refine ⟨(ns.sum % 1000003 * 7919 + 104729 * k) % 10 ^ 15, ?_, Int.emod_nonneg _ (by decide), Int.lt_trans (Int.emod_lt_of_pos _ (by decide)) (by decide)⟩
    have e : c__law_cell [.rol (ns.map D.int), dN k] h = gc h (.ok (.int ((ns.sum % 1000003 * 7919 + 104729 * k) % 10 ^ 15)) (h ++ [.lst (ns.map D.int)])) := by
      unfold c__law_cell fsem
      simp [m__law_cell, ht, q, oMod_, oMul_, c1, c2]
    rw [e, gc_app rfl]
theorem bag_spec {h : AH} {ns : List Int} (hl : ns.length ≤ 63) {k : Nat} (hk : k ≤ 100) : ∃ o, c__law_bag [.rol (ns.map D.int), dN k] h = .ok (.ref h.length) (h ++ [o]) ∧ Bag 6400 o := by
  obtain ⟨v, ev, h0, h1⟩ := cell_spec (h := h) hl hk
  refine ⟨.lst [.int v, .int v, .int (64 * k)], ?_, v, v, 64 * k, rfl, ⟨h0, h1⟩, ⟨h0, h1⟩, by omega, by omega⟩
  have c2 : CMulX 64 (k : Int) := mulB (by omega) (by omega) (by omega) (by omega)
  have e : c__law_bag [.rol (ns.map D.int), dN k] h = gc h (.ok (.ref (h.length + 0)) (h ++ [.lst [.int v, .int v, .int (64 * k)]])) := by
    unfold c__law_bag fsem
    simp [m__law_bag, ev, oMul_, c2]
  rw [e, gc_new (i := 0) rfl rfl]
/-- a perm of n points -/
structure IsP (n : Nat) (p : List Nat) : Prop where
  len : p.length = n
  lt : ∀ i, i < n → p.getD i 0 < n
  inj : ∀ i j, i < n → j < n → p.getD i 0 = p.getD j 0 → i = j
theorem IsP.swap {n : Nat} {p : List Nat} (P : IsP n p) {a b : Nat} (ha : a < n) (hb : b < n) : IsP n ((p.set a (p.getD b 0)).set b (p.getD a 0)) := by
  have la : a < p.length := by rw [P.len]; exact ha
  have lb : b < (p.set a (p.getD b 0)).length := by rw [List.length_set, P.len]; exact hb
  have e : ∀ j, ((p.set a (p.getD b 0)).set b (p.getD a 0)).getD j 0 = p.getD (if b = j then a else if a = j then b else j) 0 := fun j => by
    rw [getD_set lb, getD_set la]
    split
    · rfl
    · split <;> rfl
  have l : ∀ j, j < n → (if b = j then a else if a = j then b else j) < n := fun j hj => by
    split
    · exact ha
    · split
      · exact hb
      · exact hj
  refine ⟨by simp [P.len], fun i hi => by rw [e]; exact P.lt _ (l i hi), fun i j hi hj h => ?_⟩
  rw [e, e] at h
  have q := P.inj _ _ (l i hi) (l j hj) h
  split at q <;> split at q <;> first
    | omega
    | (split at q <;> first
      | omega
      | (split at q <;> omega))
theorem IsP.range (n : Nat) : IsP n (List.range n) := by
  have e : ∀ i, i < n → (List.range n).getD i 0 = i := fun i hi => by simp [hi]
  exact ⟨by simp, fun i hi => by rw [e i hi]; exact hi, fun i j hi hj h => by rw [e i hi, e j hj] at h; exact h⟩
theorem shuffled_spec {h : AH} {a N : Nat} {o : AO} (ha : h[a]? = some o) (hb : Bag N o) {n : Nat} (h1 : 1 ≤ n) (hn : n ≤ 1000) (hN : N + n ≤ 1000000000) :
    ∃ (p : List Nat) (o' : AO), c__law_shuffled [.ref a, dN n] h = .ok (.ref h.length) (h.set a o' ++ [.lst (p.map dN)]) ∧ IsP n p ∧ Bag (N + n) o' := by
  have hal := (List.getElem?_eq_some_iff.mp ha).1
  obtain ⟨e', h', q, x3, x4, x5, p, o', rfl, rfl, P, B⟩ := loopN (k := 3) (b := lb__law_shuffled_1)
    (fun i e h' => ∃ x3 x4 x5 p o', e = [some (.ref a), some (dN n), some (.ref h.length), x3, x4, x5] ∧ h' = h.set a o' ++ [.lst (p.map dN)] ∧ IsP n p ∧ Bag (N + i) o')
    (n - 1) (e := [some (.ref a), some (dN n), some (.ref h.length), none, none, none]) (h := h ++ [.lst ((List.range n).map dN)])
    ⟨none, none, none, List.range n, o, rfl, by rw [set_self ha], IsP.range n, hb⟩ (by
      rintro i e h' hi ⟨x3, x4, x5, p, o', rfl, rfl, P, B⟩
      have ha' : (h.set a o' ++ [AO.lst (p.map dN)])[a]? = some o' := app_get_l (get_set ha o')
      obtain ⟨d, o2, ed, hd, B2⟩ := take_spec (s := (n : Int) - (i : Nat)) ha' B (by omega) (by omega) (by omega)
      have hio : i + d < n := by omega
      refine ⟨_, _, ?_, some (dN i), some (dN (i + d)), some (dN (p.getD i 0)), (p.set i (p.getD (i + d) 0)).set (i + d) (p.getD i 0), o2, rfl, rfl, P.swap (by omega) hio, B2⟩
      have e1 : (h.set a o' ++ [AO.lst (p.map dN)]).set a o2 = h.set a o2 ++ [AO.lst (p.map dN)] := by rw [app_set_l (by simpa using hal), List.set_set]
      rw [e1] at ed
      have lp := P.len
      have x1 : ∀ h, ixD (p.map dN) (i : Int) h = .ok (dN (p.getD i 0)) h := fun h => ixD_N (by omega)
      have x2 : ∀ h, ixD (p.map dN) ((i : Int) + (d : Int)) h = .ok (dN (p.getD (i + d) 0)) h := fun h => ixD_N (i := i + d) (by omega)
      have y1 : ∀ (ds : List D) r v h, ds.length = n → putO (some (.lst ds)) r (i : Int) v h = some (h.set r (.lst (ds.set i v))) := fun ds r v h hl => putO_nat (by omega)
      have y2 : ∀ (ds : List D) r v h, ds.length = n → putO (some (.lst ds)) r ((i : Int) + (d : Int)) v h = some (h.set r (.lst (ds.set (i + d) v))) := fun ds r v h hl => putO_nat (i := i + d) (by omega)
      simp [lb__law_shuffled_1, ed, x1, x2, y1, y2, lp, dN])
  refine ⟨p, o', ?_, P, B.mono (by omega)⟩
  have r1 : RgB ((n - 1 : Nat) : Int) := rgB_nat (by omega)
  have r2 : RgOk 0 (n : Int) := rgOk_nat (by omega)
  have r3 : (n : Int) - 1 = ((n - 1 : Nat) : Int) := by omega
  have e : c__law_shuffled [.ref a, dN n] h = gc h (.ok (.ref (h.length + 0)) (h.set a o' ++ [.lst (p.map dN)])) := by
    unfold c__law_shuffled fsem
    simp [m__law_shuffled, r1, r2, r3, rg_zero, q]
  rw [e, gc_set_new B.flat (i := 0) rfl (by simp)]
end Law

set_option maxHeartbeats 1000000
namespace Law
open PySem Rf L2
/-- labels: each entry the least of its class -/
def Canon (L : List Nat) : Prop := ∀ j, j < L.length → L.getD j 0 ≤ j ∧ L.getD (L.getD j 0) 0 = L.getD j 0
theorem getD_app {p : List Nat} {j v : Nat} : (p ++ [v]).getD j 0 = if j = p.length then v else p.getD j 0 := by
  simp only [List.getD_eq_getElem?_getD]
  by_cases h : j < p.length
  · rw [List.getElem?_append_left h, if_neg (by omega)]
  · by_cases h2 : j = p.length
    · subst h2; simp
    · rw [if_neg h2, List.getElem?_append_right (by omega), List.getElem?_eq_none (by simp; omega), List.getElem?_eq_none (by omega)]
theorem Canon.push {L : List Nat} (c : Canon L) {x : Nat} (hx : x = L.length ∨ (x < L.length ∧ L.getD x 0 = x)) : Canon (L ++ [x]) := by
  intro j hj
  rw [List.length_append, List.length_singleton] at hj
  rw [getD_app]
  by_cases h : j = L.length
  · rw [if_pos h, getD_app]
    rcases hx with e | ⟨l, e⟩
    · rw [if_pos e]; omega
    · rw [if_neg (by omega), e]; omega
  · rw [if_neg h]
    have := c j (by omega)
    rw [getD_app, if_neg (by omega)]
    exact this
theorem Canon.pushD {L : List Nat} (c : Canon L) {x : Nat} (hx : x ≤ L.length) : Canon (L ++ [if x < L.length then L.getD x 0 else x]) := by
  by_cases h : x < L.length
  · rw [if_pos h]
    have := c x h
    exact c.push (.inr ⟨by omega, this.2⟩)
  · rw [if_neg h]
    exact c.push (.inl (by omega))
theorem partition_spec {h : AH} {a N : Nat} {o : AO} (ha : h[a]? = some o) (hb : Bag N o) {n : Nat} (h1 : 1 ≤ n) (hn : n ≤ 1000) (hN : N + 3000 ≤ 1000000000) :
    ∃ (p : List Nat) (o' : AO), c__law_partition [.ref a, dN n] h = .ok (.tup (p.map dN)) (h.set a o') ∧ p.length = n ∧ Canon p ∧ Bag (N + 3000) o' := by
  have hal := (List.getElem?_eq_some_iff.mp ha).1
  obtain ⟨kind, o1, e1, hk, B1⟩ := take_spec (s := 4) ha hb (by omega) (by omega) (by omega)
  have ha1 := get_set ha o1
  obtain ⟨z, o2, e2, hz, B2⟩ := take_spec (s := (n : Int)) ha1 B1 (by omega) (by omega) (by omega)
  rw [List.set_set] at e2
  have hs : ∀ (x : AO), (h.set a o2).set a x = h.set a x := fun x => by rw [List.set_set]
  obtain ⟨e', h', q, x5, x6, p, o', rfl, rfl, lp, C, B⟩ := loopN (k := 5) (b := lb__law_partition_1)
    (fun i e h' => ∃ x5 x6 p o', e = [some (.ref a), some (dN n), some (dN kind), some (dN (1 + z)), some (.ref h.length), x5, x6] ∧ h' = h.set a o' ++ [.lst (p.map dN)] ∧ p.length = i ∧ Canon p ∧ Bag (N + 2 + 2 * i) o')
    n (e := [some (.ref a), some (dN n), some (dN kind), some (dN (1 + z)), some (.ref h.length), none, none]) (h := h.set a o2 ++ [.lst []])
    ⟨none, none, [], o2, rfl, rfl, rfl, fun j hj => absurd hj (by simp), B2.mono (by omega)⟩ (by
      rintro i e h' hi ⟨x5, x6, p, o', rfl, rfl, lp, C, B⟩
      have ha' : (h.set a o' ++ [AO.lst (p.map dN)])[a]? = some o' := app_get_l (get_set ha o')
      obtain ⟨d, o3, ed, hd, B3⟩ := take_spec (s := (i : Int) + 1) ha' B (by omega) (by omega) (by omega)
      have e3 : ∀ x, (h.set a o' ++ [AO.lst (p.map dN)]).set a x = h.set a x ++ [AO.lst (p.map dN)] := fun x => by rw [app_set_l (by simpa using hal), List.set_set]
      rw [e3] at ed
      have hgo : ∀ (x0 : Nat), x0 ≤ i → ∃ (v : Nat), v = (if x0 < i then p.getD x0 0 else x0) ∧ Canon (p ++ [v]) := fun x0 hx => ⟨_, rfl, by rw [← lp]; exact C.pushD (by omega)⟩
      have x1 : ∀ (x0 : Nat) h, x0 < i → ixD (p.map dN) (x0 : Int) h = .ok (dN (p.getD x0 0)) h := fun x0 h hx => ixD_N (by omega)
      have ap : ∀ r v h, appO (some (.lst (p.map dN))) r v h = .ok .non (h.set r (.lst (p.map dN ++ [v]))) := fun r v h => appO_lst (by rw [List.length_map, sizeLine_eq]; omega)
      have fin : ∀ (x0 : Nat) (o4 : AO), x0 ≤ i → Bag (N + 2 + 2 * (i + 1)) o4 →
          lb__law_partition_1 [some (.ref a), some (dN n), some (dN kind), some (dN (1 + z)), some (.ref h.length), some (dN i), x6] (h.set a o' ++ [AO.lst (p.map dN)]) =
            .nx [some (.ref a), some (dN n), some (dN kind), some (dN (1 + z)), some (.ref h.length), some (dN i), some (dN (if x0 < i then p.getD x0 0 else x0))] (h.set a o4 ++ [AO.lst ((p ++ [if x0 < i then p.getD x0 0 else x0]).map dN)]) →
          ∃ e' h', lb__law_partition_1 ([some (.ref a), some (dN n), some (dN kind), some (dN (1 + z)), some (.ref h.length), x5, x6].set 5 (some (dN i))) (h.set a o' ++ [AO.lst (p.map dN)]) = .nx e' h' ∧
            ∃ x5 x6 p o', e' = [some (.ref a), some (dN n), some (dN kind), some (dN (1 + z)), some (.ref h.length), x5, x6] ∧ h' = h.set a o' ++ [.lst (p.map dN)] ∧ p.length = i + 1 ∧ Canon p ∧ Bag (N + 2 + 2 * (i + 1)) o' := by
        intro x0 o4 hx B4 hq
        refine ⟨_, _, hq, some (dN i), _, _, o4, rfl, rfl, by simp [lp], ?_, B4⟩
        rw [← lp]
        exact C.pushD (by omega)
      have hk4 : kind = 0 ∨ kind = 1 ∨ kind = 2 ∨ kind = 3 := by omega
      rcases hk4 with rfl | rfl | rfl | rfl
      · refine fin d o3 (by omega) (B3.mono (by omega)) ?_
        by_cases c : d < i
        · simp [lb__law_partition_1, ed, x1 d _ c, c, ap, dN]
        · simp [lb__law_partition_1, ed, c, ap, dN]
      · have ha3 : (h.set a o3 ++ [AO.lst (p.map dN)])[a]? = some o3 := app_get_l (get_set ha o3)
        obtain ⟨d2, o4, ed2, hd2, B4⟩ := take_spec (s := 2) ha3 B3 (by omega) (by omega) (by omega)
        have e4 : (h.set a o3 ++ [AO.lst (p.map dN)]).set a o4 = h.set a o4 ++ [AO.lst (p.map dN)] := by rw [app_set_l (by simpa using hal), List.set_set]
        rw [e4] at ed2
        have hd2' : d2 = 0 ∨ d2 = 1 := by omega
        rcases hd2' with rfl | rfl
        · refine fin d o4 (by omega) (B4.mono (by omega)) ?_
          by_cases c : d < i
          · simp [lb__law_partition_1, ed, ed2, x1 d _ c, c, ap, dN]
          · simp [lb__law_partition_1, ed, ed2, c, ap, dN]
        · refine fin i o4 (by omega) (B4.mono (by omega)) ?_
          simp [lb__law_partition_1, ed, ed2, ap, dN]
      · have m0 : ((i % (1 + z) : Nat) : Int) = (i : Int) % (1 + (z : Int)) := by rw [Int.natCast_emod]; rfl
        have m1 := Nat.mod_le i (1 + z)
        obtain ⟨X, hX⟩ : ∃ X, X = i - i % (1 + z) := ⟨_, rfl⟩
        have m2 : (i : Int) - (i : Int) % (1 + (z : Int)) = (X : Int) := by omega
        have m3 : (0 : Int) < 1 + (z : Int) := by omega
        refine fin X o3 (by omega) (B3.mono (by omega)) ?_
        by_cases c : X < i
        · simp [lb__law_partition_1, ed, oMod_, m3, m2, x1 _ _ c, c, ap, dN]
        · simp [lb__law_partition_1, ed, oMod_, m3, m2, c, ap, dN]
      · have m0 : ((i % (1 + z) : Nat) : Int) = (i : Int) % (1 + (z : Int)) := by rw [Int.natCast_emod]; rfl
        have m1 := Nat.mod_le i (1 + z)
        obtain ⟨X, hX⟩ : ∃ X, X = i % (1 + z) := ⟨_, rfl⟩
        have m2 : (i : Int) % (1 + (z : Int)) = (X : Int) := by omega
        have m3 : (0 : Int) < 1 + (z : Int) := by omega
        refine fin X o3 (by omega) (B3.mono (by omega)) ?_
        by_cases c : X < i
        · simp [lb__law_partition_1, ed, oMod_, m3, m2, x1 _ _ c, c, ap, dN]
        · simp [lb__law_partition_1, ed, oMod_, m3, m2, c, ap, dN])
  refine ⟨p, o', ?_, lp, C, B.mono (by omega)⟩
  have r1 : RgB (n : Int) := rgB_nat (by omega)
  have e : c__law_partition [.ref a, dN n] h = gc h (.ok (.tup (p.map dN)) (h.set a o' ++ [.lst (p.map dN)])) := by
    unfold c__law_partition fsem
    simp [m__law_partition, e1, e2, r1, rg_zero]
    simp [dN] at q
    simp [q, dN]
  rw [e, gc_set_app (by simp) B.flat]
end Law

set_option maxHeartbeats 1000000
namespace Law
open PySem Rf L2
/-! ### classes -/
def clsOf (L : List Nat) (x : Nat) : List Nat := (List.range L.length).filter fun k => L.getD k 0 == x
def clsTo (L : List Nat) (i : Nat) : List (List Nat) := ((List.range i).filter fun x => L.getD x 0 == x).map (clsOf L)
def cls (L : List Nat) : List (List Nat) := clsTo L L.length
def dC (c : List Nat) : D := .tup (c.map dN)
theorem mem_clsOf {L : List Nat} {x k : Nat} : k ∈ clsOf L x ↔ k < L.length ∧ L.getD k 0 = x := by
  unfold clsOf
  rw [List.mem_filter, List.mem_range, beq_iff_eq]
theorem clsTo_succ {L : List Nat} {i : Nat} : clsTo L (i + 1) = if L.getD i 0 = i then clsTo L i ++ [clsOf L i] else clsTo L i := by
  unfold clsTo
  rw [List.range_succ, List.filter_append, List.map_append]
  by_cases h : L.getD i 0 = i
  · rw [if_pos h, List.filter_cons, if_pos (by rw [h]; simp)]; rfl
  · rw [if_neg h, List.filter_cons, if_neg (by simpa using h)]; simp
theorem clsTo_le {L : List Nat} {i : Nat} : (clsTo L i).length ≤ i := by
  unfold clsTo
  rw [List.length_map]
  exact Nat.le_trans (List.length_filter_le _ _) (by simp)
theorem lc_classes {L : List Nat} (hL : L.length ≤ 1000) {x : Nat} {e1 e3 : Option D} {h : AH} : lc__law_classes_1 [some (.tup (L.map dN)), e1, some (dN x), e3] h = .ok (.ref h.length) (h ++ [.lst ((clsOf L x).map dN)]) := by
  unfold lc__law_classes_1
  rw [eLc_pure (φ := dN) (List.range L.length) (fun k => L.getD k 0 == x) dN (h1 := h) (iRange1_nat (by simp) (by omega)) (by rw [List.length_range, sizeLine_eq]; omega)]
  · rfl
  · intro k hk
    rw [List.mem_range] at hk
    have x1 : ∀ h, ixD (L.map dN) (k : Int) h = .ok (dN (L.getD k 0)) h := fun h => ixD_N hk
    simp [wipeE, x1, dN, -List.getD_eq_getElem?_getD]
  · intro k hk _
    simp [wipeE]
theorem classes_spec {L : List Nat} (hL : L.length ≤ 1000) {h : AH} : c__law_classes [.tup (L.map dN)] h = .ok (.ref h.length) (h ++ [.lst ((cls L).map dC)]) := by
  obtain ⟨e', h', q, x2, x3, g, rfl, rfl⟩ := loopN (k := 2) (b := lb__law_classes_1)
    (fun i e h' => ∃ x2 x3 g, e = [some (.tup (L.map dN)), some (.ref h.length), x2, x3] ∧ h' = h ++ (.lst ((clsTo L i).map dC) :: g))
    L.length (e := [some (.tup (L.map dN)), some (.ref h.length), none, none]) (h := h ++ [.lst []])
    ⟨none, none, [], rfl, rfl⟩ (by
      rintro i e h' hi ⟨x2, x3, g, rfl, rfl⟩
      have x1 : ∀ h, ixD (L.map dN) (i : Int) h = .ok (dN (L.getD i 0)) h := fun h => ixD_N hi
      by_cases c : L.getD i 0 = i
      · refine ⟨[some (.tup (L.map dN)), some (.ref h.length), some (dN i), x3], h ++ (.lst ((clsTo L (i + 1)).map dC) :: (g ++ [.lst ((clsOf L i).map dN)])), ?_, some (dN i), x3, _, rfl, rfl⟩
        have ap : ∀ r v h, appO (some (.lst ((clsTo L i).map dC))) r v h = .ok .non (h.set r (.lst ((clsTo L i).map dC ++ [v]))) := fun r v h => appO_lst (by have := clsTo_le (L := L) (i := i); rw [List.length_map, sizeLine_eq]; omega)
        have lc := fun h => lc_classes hL (x := i) (e1 := some (.ref h.length)) (e3 := x3) (h := h)
        rw [clsTo_succ, if_pos c]
        simp [lb__law_classes_1, x1, c, lc_classes hL, ap, dC, -List.getD_eq_getElem?_getD]
      · refine ⟨[some (.tup (L.map dN)), some (.ref h.length), some (dN i), x3], h ++ (.lst ((clsTo L (i + 1)).map dC) :: g), ?_, some (dN i), x3, _, rfl, rfl⟩
        rw [clsTo_succ, if_neg c]
        simp [lb__law_classes_1, x1, c, -List.getD_eq_getElem?_getD])
  have r1 : RgB (L.length : Int) := rgB_nat (by omega)
  have e : c__law_classes [.tup (L.map dN)] h = gc h (.ok (.ref (h.length + 0)) (h ++ (.lst ((cls L).map dC) :: g))) := by
    unfold c__law_classes fsem
    simp [m__law_classes, r1, rg_zero, q, cls]
  rw [e, gc_new (i := 0) (o := .lst ((cls L).map dC)) rfl (pures_map fun c _ => by simp [dC])]
end Law

set_option maxHeartbeats 1000000
namespace Law
open PySem Rf L2
structure CS (n : Nat) (cs : List (List Nat)) : Prop where
  lt : ∀ t k, t < cs.length → k < (cs.getD t []).length → (cs.getD t []).getD k 0 < n
  inj : ∀ t k t' k', t < cs.length → k < (cs.getD t []).length → t' < cs.length → k' < (cs.getD t' []).length → (cs.getD t []).getD k 0 = (cs.getD t' []).getD k' 0 → t = t' ∧ k = k'
  cov : ∀ i, i < n → ∃ t k, t < cs.length ∧ k < (cs.getD t []).length ∧ (cs.getD t []).getD k 0 = i
  pos : ∀ t, t < cs.length → 1 ≤ (cs.getD t []).length ∧ (cs.getD t []).length ≤ n
  le : cs.length ≤ n
theorem getD_get {α : Type} {l : List α} {i : Nat} {d : α} (h : i < l.length) : l.getD i d = l[i] := by simp [h]
theorem getD_mem {α : Type} {l : List α} {i : Nat} {d : α} (h : i < l.length) : l.getD i d ∈ l := by rw [getD_get h]; exact List.getElem_mem h
theorem nodup_getD {α : Type} {l : List α} (nd : l.Nodup) {i j : Nat} {d : α} (hi : i < l.length) (hj : j < l.length) (h : l.getD i d = l.getD j d) : i = j := by
  rw [getD_get hi, getD_get hj] at h
  exact (List.getElem_inj nd).mp h
theorem mem_getD {α : Type} {l : List α} {x d : α} (h : x ∈ l) : ∃ i, i < l.length ∧ l.getD i d = x := by
  obtain ⟨i, hi, e⟩ := List.getElem_of_mem h
  exact ⟨i, hi, by rw [getD_get hi, e]⟩
theorem map_getD {α β : Type} {f : α → β} {l : List α} {i : Nat} {d : α} {e : β} (h : i < l.length) : (l.map f).getD i e = f (l.getD i d) := by
  rw [getD_get (by simpa using h), getD_get h, List.getElem_map]
theorem cs_cls {L : List Nat} (C : Canon L) : CS L.length (cls L) := by
  let rs := (List.range L.length).filter fun x => L.getD x 0 == x
  have e0 : cls L = rs.map (clsOf L) := rfl
  have el : (cls L).length = rs.length := by rw [e0, List.length_map]
  have nr : rs.Nodup := List.Pairwise.filter _ List.nodup_range
  have nc : ∀ x, (clsOf L x).Nodup := fun x => List.Pairwise.filter _ List.nodup_range
  have mr : ∀ x, x ∈ rs ↔ x < L.length ∧ L.getD x 0 = x := fun x => by rw [List.mem_filter, List.mem_range, beq_iff_eq]
  have eg : ∀ t, t < (cls L).length → (cls L).getD t [] = clsOf L (rs.getD t 0) := fun t ht => by rw [e0]; exact map_getD (by rw [← el]; exact ht)
  refine ⟨fun t k ht hk => ?_, fun t k t' k' ht hk ht' hk' h => ?_, fun i hi => ?_, fun t ht => ?_, ?_⟩
  · rw [eg t ht] at hk ⊢
    exact (mem_clsOf.mp (getD_mem hk)).1
  · rw [eg t ht] at hk h
    rw [eg t' ht'] at hk' h
    have m1 := mem_clsOf.mp (getD_mem (d := 0) hk)
    have m2 := mem_clsOf.mp (getD_mem (d := 0) hk')
    rw [h, m2.2] at m1
    have et : t = t' := nodup_getD nr (by rw [← el]; exact ht) (by rw [← el]; exact ht') m1.2.symm
    subst et
    exact ⟨rfl, nodup_getD (nc _) hk hk' h⟩
  · have ci := C i hi
    have hm : L.getD i 0 ∈ rs := (mr _).mpr ⟨by omega, ci.2⟩
    obtain ⟨t, ht, et⟩ := mem_getD (d := 0) hm
    have hm2 : i ∈ clsOf L (rs.getD t 0) := mem_clsOf.mpr ⟨hi, et.symm⟩
    obtain ⟨k, hk, ek⟩ := mem_getD (d := 0) hm2
    have ht' : t < (cls L).length := by rw [el]; exact ht
    exact ⟨t, k, ht', by rw [eg t ht']; exact hk, by rw [eg t ht']; exact ek⟩
  · rw [eg t ht]
    have hm := (mr _).mp (getD_mem (d := 0) (show t < rs.length by rw [← el]; exact ht))
    have : rs.getD t 0 ∈ clsOf L (rs.getD t 0) := mem_clsOf.mpr ⟨hm.1, hm.2⟩
    refine ⟨List.length_pos_of_mem this, ?_⟩
    unfold clsOf
    exact Nat.le_trans (List.length_filter_le _ _) (by simp)
  · exact clsTo_le
theorem sub_length : ∀ {l1 l2 : List Nat}, l1.Nodup → (∀ x ∈ l1, x ∈ l2) → l1.length ≤ l2.length
  | [], _, _, _ => Nat.zero_le _
  | x :: l, l2, nd, h => by
    have hx := h x List.mem_cons_self
    have ih := sub_length (l1 := l) (l2 := l2.erase x) (List.nodup_cons.mp nd).2 fun y hy => by
      have : y ≠ x := fun e => (List.nodup_cons.mp nd).1 (e ▸ hy)
      exact (List.mem_erase_of_ne this).mpr (h y (List.mem_cons_of_mem _ hy))
    rw [List.length_erase_of_mem hx] at ih
    have := List.length_pos_of_mem hx
    rw [List.length_cons]; omega
/-- which classes are still free -/
def freeOf (cs : List (List Nat)) (used : List Nat) (s : Nat) : List Nat := (List.range cs.length).filter fun x => !(used.contains x) && (cs.getD x []).length == s
theorem free_pos {cs : List (List Nat)} {used : List Nat} {j : Nat} (hj : j < cs.length) (hu : used.length = j) (h : ∀ t, t < j → (cs.getD (used.getD t 0) []).length = (cs.getD t []).length) : 1 ≤ (freeOf cs used (cs.getD j []).length).length := by
  refine Nat.pos_of_ne_zero fun e => ?_
  have emp : freeOf cs used (cs.getD j []).length = [] := List.eq_nil_of_length_eq_zero e
  have all : ∀ x, x < cs.length → (cs.getD x []).length = (cs.getD j []).length → x ∈ used := fun x hx hs => by
    refine Classical.byContradiction fun hn => ?_
    have : x ∈ freeOf cs used (cs.getD j []).length := by
      unfold freeOf
      rw [List.mem_filter, List.mem_range]
      refine ⟨hx, ?_⟩
      rw [hs]
      simp [hn]
    rw [emp] at this
    cases this
  let Y := (List.range j).filter fun t => (cs.getD t []).length == (cs.getD j []).length
  let X := (List.range cs.length).filter fun t => (cs.getD t []).length == (cs.getD j []).length
  have nX : X.Nodup := List.Pairwise.filter _ List.nodup_range
  have nY : (j :: Y).Nodup := List.nodup_cons.mpr ⟨fun hm => by
    have := (List.mem_filter.mp hm).1
    rw [List.mem_range] at this; omega, List.Pairwise.filter _ List.nodup_range⟩
  have h1 : (j :: Y).length ≤ X.length := sub_length nY fun x hx => by
    rcases List.mem_cons.mp hx with rfl | hx
    · exact List.mem_filter.mpr ⟨List.mem_range.mpr hj, by simp⟩
    · obtain ⟨a, b⟩ := List.mem_filter.mp hx
      rw [List.mem_range] at a
      exact List.mem_filter.mpr ⟨List.mem_range.mpr (by omega), b⟩
  have h2 : X.length ≤ (Y.map fun t => used.getD t 0).length := sub_length nX fun x hx => by
    obtain ⟨a, b⟩ := List.mem_filter.mp hx
    rw [List.mem_range] at a
    rw [beq_iff_eq] at b
    obtain ⟨t, ht, et⟩ := mem_getD (d := 0) (all x a b)
    refine List.mem_map.mpr ⟨t, List.mem_filter.mpr ⟨List.mem_range.mpr (by omega), ?_⟩, et⟩
    rw [beq_iff_eq, ← h t (by omega), et, b]
  rw [List.length_map, List.length_cons] at *
  omega
theorem mem_free {cs : List (List Nat)} {used : List Nat} {s d : Nat} (hd : d < (freeOf cs used s).length) : (freeOf cs used s).getD d 0 < cs.length ∧ (freeOf cs used s).getD d 0 ∉ used ∧ (cs.getD ((freeOf cs used s).getD d 0) []).length = s := by
  have := getD_mem (d := 0) hd
  generalize (freeOf cs used s).getD d 0 = y at this
  unfold freeOf at this
  rw [List.mem_filter, List.mem_range] at this
  obtain ⟨a, b⟩ := this
  rw [Bool.and_eq_true, beq_iff_eq] at b
  exact ⟨a, by simpa using b.1, b.2⟩
/-- what keeping has laid after the first j classes -/
structure KP (cs : List (List Nat)) (n j : Nat) (used img : List Nat) : Prop where
  ul : used.length = j
  un : used.Nodup
  us : ∀ t, t < j → used.getD t 0 < cs.length ∧ (cs.getD (used.getD t 0) []).length = (cs.getD t []).length
  il : img.length = n
  im : ∀ t, t < j → ∃ q, IsP (cs.getD t []).length q ∧ ∀ k, k < (cs.getD t []).length → img.getD ((cs.getD t []).getD k 0) 0 = (cs.getD (used.getD t 0) []).getD (q.getD k 0) 0
theorem KP.isP {cs : List (List Nat)} {n : Nat} {used img : List Nat} (S : CS n cs) (K : KP cs n cs.length used img) : IsP n img := by
  have at_ : ∀ i, i < n → ∃ t k q, t < cs.length ∧ k < (cs.getD t []).length ∧ (cs.getD t []).getD k 0 = i ∧ IsP (cs.getD t []).length q ∧ q.getD k 0 < (cs.getD (used.getD t 0) []).length ∧ used.getD t 0 < cs.length ∧
      img.getD i 0 = (cs.getD (used.getD t 0) []).getD (q.getD k 0) 0 ∧ ∀ k', k' < (cs.getD t []).length → img.getD ((cs.getD t []).getD k' 0) 0 = (cs.getD (used.getD t 0) []).getD (q.getD k' 0) 0 := fun i hi => by
    obtain ⟨t, k, ht, hk, e⟩ := S.cov i hi
    obtain ⟨q, Pq, hq⟩ := K.im t ht
    obtain ⟨u1, u2⟩ := K.us t ht
    exact ⟨t, k, q, ht, hk, e, Pq, by rw [u2]; exact Pq.lt k hk, u1, by rw [← e]; exact hq k hk, hq⟩
  refine ⟨K.il, fun i hi => ?_, fun i i' hi hi' h => ?_⟩
  · obtain ⟨t, k, q, ht, hk, e, Pq, hb, hu, hi2, _⟩ := at_ i hi
    rw [hi2]
    exact S.lt _ _ hu hb
  · obtain ⟨t, k, q, ht, hk, e, Pq, hb, hu, hi2, hq⟩ := at_ i hi
    obtain ⟨t', k', q', ht', hk', e', Pq', hb', hu', hi2', hq'⟩ := at_ i' hi'
    rw [hi2, hi2'] at h
    obtain ⟨a, b⟩ := S.inj _ _ _ _ hu hb hu' hb' h
    have et : t = t' := nodup_getD K.un (by rw [K.ul]; exact ht) (by rw [K.ul]; exact ht') a
    subst et
    -- the same order: both come from img
    have h3 := hq k' hk'
    rw [e', hi2'] at h3
    rw [← b] at h3
    obtain ⟨_, h4⟩ := S.inj _ _ _ _ hu hb hu (by rw [(K.us t ht).2]; exact Pq.lt k' hk') h3
    have := Pq.inj k k' hk hk' h4
    subst this
    rw [← e, ← e']
end Law

set_option maxHeartbeats 1000000
namespace Law
open PySem Rf L2
theorem mapM_toP {us : List Nat} {h : AH} {k : Nat} : (us.map dN).mapM (D.toP h k) = some (us.map fun u : Nat => PyData.int (u : Int)) := by
  induction us with
  | nil => rfl
  | cons u us ih => rw [List.map_cons, List.mapM_cons, ih]; unfold dN D.toP; cases k <;> rfl
theorem toP_list {us : List Nat} {h : AH} {r : Nat} (hr : h[r]? = some (.lst (us.map dN))) : (D.ref r).toP h 20 = some (.list (us.map fun u : Nat => PyData.int (u : Int))) := by
  unfold D.toP
  rw [hr]
  show ((us.map dN).mapM (D.toP h 19)).map PyData.list = _
  rw [mapM_toP]; rfl
theorem eqv_int {a b : Int} : PyData.eqv (.int a) (.int b) = (a == b) := by simp [PyData.eqv]
theorem any_N (us : List Nat) (k : Nat) : (us.map fun u : Nat => PyData.int (u : Int)).any (fun z => PyData.eqv z (.int (k : Int))) = us.contains k := by
  induction us with
  | nil => rfl
  | cons u us ih =>
    rw [List.map_cons, List.any_cons, List.contains_cons, ih, eqv_int, beq_nat, Bool.beq_comm (a := k)]
theorem notIn_N {us : List Nat} {h : AH} {r k : Nat} (hr : h[r]? = some (.lst (us.map dN))) : oNotIn2 (.int (k : Int)) (.ref r) h = .ok (.bl (!us.contains k)) h := by
  unfold oNotIn2
  have e1 : (D.int (k : Int)).toP h 20 = some (.int k) := rfl
  rw [toP_list hr, e1]
  simp only [any_N]
theorem eqvAll_N : ∀ {us vs : List Nat}, PyData.eqvAll (us.map fun u : Nat => PyData.int (u : Int)) (vs.map fun u : Nat => PyData.int (u : Int)) = decide (us = vs)
  | [], [] => by simp [PyData.eqvAll]
  | [], v :: vs => by simp [PyData.eqvAll]
  | u :: us, [] => by simp [PyData.eqvAll]
  | u :: us, v :: vs => by
    rw [List.map_cons, List.map_cons, PyData.eqvAll, eqvAll_N, eqv_int, beq_nat]
    by_cases h : u = v
    · subst h; simp
    · simp [h]
theorem oEq_L {us vs : List Nat} {h : AH} {r q : Nat} (hr : h[r]? = some (.lst (us.map dN))) (hq : h[q]? = some (.lst (vs.map dN))) : oEq (.ref r) (.ref q) h = .ok (.bl (decide (us = vs))) h := by
  unfold oEq
  rw [toP_list hr, toP_list hq]
  simp only [PyData.eqv, eqvAll_N]
@[simp] theorem oMul_ref_ (r : Nat) (i : Int) (h : AH) : oMul (.ref r) (.int i) h = (match h[r]? with
    | some (.lst xs) => if RepOk xs.length i then .ok (.ref h.length) (h ++ [.lst (List.replicate i.toNat xs).flatten]) else .stuck
    | _ => .stuck) := rfl
theorem repOk_1 {n : Nat} (h : n ≤ 16777216) : RepOk 1 (n : Int) := ⟨by omega, by omega, by rw [sizeLine_eq]; omega⟩
theorem rep_zero (n : Nat) : (List.replicate n [D.int 0]).flatten = (List.replicate n 0).map dN := by
  induction n with
  | zero => rfl
  | succ n ih => rw [List.replicate_succ, List.replicate_succ, List.flatten_cons, ih]; rfl
theorem lc_keeping {cs : List (List Nat)} {used : List Nat} {h : AH} {r2 r4 : Nat} (hc : cs.length ≤ 1000) (h2 : h[r2]? = some (.lst (cs.map dC))) (h4 : h[r4]? = some (.lst (used.map dN)))
    {c : List Nat} {x0 x1 x3 x6 x7 x8 x9 x10 : Option D} : lc__law_keeping_1 [x0, x1, some (.ref r2), x3, some (.ref r4), some (dC c), x6, x7, x8, x9, x10] h = .ok (.ref h.length) (h ++ [.lst ((freeOf cs used c.length).map dN)]) := by
  unfold lc__law_keeping_1
  rw [eLc_pure (φ := dN) (List.range cs.length) (fun x => !(used.contains x) && (cs.getD x []).length == c.length) dN (h1 := h) (iRange1_nat (by simp [h2]) (by omega)) (by rw [List.length_range, sizeLine_eq]; omega)]
  · rfl
  · intro k hk
    rw [List.mem_range] at hk
    have x1 : ∀ h, ixD (cs.map dC) (k : Int) h = .ok (dC (cs.getD k [])) h := fun h => ixD_map (getD_some hk)
    by_cases q : used.contains k = true
    · have q2 : k ∈ used := by simpa using q
      simp [wipeE, dN, notIn_N h4, q2]
    · have q2 : k ∉ used := by simpa using q
      simp [wipeE, dN, notIn_N h4, h2, x1, dC, q2, -List.getD_eq_getElem?_getD]
  · intro k hk _
    simp [wipeE]
end Law

set_option maxHeartbeats 1000000
namespace Law
open PySem Rf L2
theorem getD_appL {us : List Nat} {y t : Nat} (h : t < us.length) : (us ++ [y]).getD t 0 = us.getD t 0 := by rw [getD_app, if_neg (by omega)]
theorem getD_appR {us : List Nat} {y : Nat} : (us ++ [y]).getD us.length 0 = y := by rw [getD_app, if_pos rfl]
theorem KP.step {cs : List (List Nat)} {n j : Nat} {used img img' q : List Nat} {y : Nat} (S : CS n cs) (K : KP cs n j used img) (hj : j < cs.length) (hy : y < cs.length) (hu : y ∉ used) (hs : (cs.getD y []).length = (cs.getD j []).length)
    (Q : IsP (cs.getD j []).length q) (l : img'.length = n) (w : ∀ k, k < (cs.getD j []).length → img'.getD ((cs.getD j []).getD k 0) 0 = (cs.getD y []).getD (q.getD k 0) 0)
    (z : ∀ i, (∀ k, k < (cs.getD j []).length → (cs.getD j []).getD k 0 ≠ i) → img'.getD i 0 = img.getD i 0) : KP cs n (j + 1) (used ++ [y]) img' := by
  have ul := K.ul
  have uo : ∀ t, t < j → (used ++ [y]).getD t 0 = used.getD t 0 := fun t ht => getD_appL (by omega)
  have un : (used ++ [y]).getD j 0 = y := by rw [← ul]; exact getD_appR
  refine ⟨by simp [ul], ?_, fun t ht => ?_, l, fun t ht => ?_⟩
  · rw [List.nodup_append]
    exact ⟨K.un, by simp, fun a ha b hb => by rw [List.mem_singleton] at hb; subst hb; exact fun e => hu (e ▸ ha)⟩
  · by_cases h : t = j
    · subst h; rw [un]; exact ⟨hy, hs⟩
    · rw [uo t (by omega)]; exact K.us t (by omega)
  · by_cases h : t = j
    · subst h; rw [un]; exact ⟨q, Q, w⟩
    · rw [uo t (by omega)]
      obtain ⟨q', Q', w'⟩ := K.im t (by omega)
      exact ⟨q', Q', fun k hk => by
        rw [z]
        · exact w' k hk
        · intro k' hk' e
          exact h (S.inj _ _ _ _ hj hk' (by omega) hk e).1.symm⟩
/-- the heap of keeping -/
def HK (h : AH) (a : Nat) (cs : List (List Nat)) (o : AO) (img used : List Nat) (g : AH) : AH := h.set a o ++ (.lst (cs.map dC) :: .lst [.int 0] :: .lst (img.map dN) :: .lst (used.map dN) :: g)
section
variable {h : AH} {a : Nat} {cs : List (List Nat)} {o : AO} {img used : List Nat} {g : AH}
theorem HK_a (ha : a < h.length) : (HK h a cs o img used g)[a]? = some o := app_get_l (List.getElem?_set_self ha)
theorem HK_0 : (HK h a cs o img used g)[h.length]? = some (.lst (cs.map dC)) := by unfold HK; rw [app_get0]; rfl
theorem HK_2 : (HK h a cs o img used g)[h.length + 2]? = some (.lst (img.map dN)) := by
  unfold HK
  have := app_get (h := h.set a o) (g := .lst (cs.map dC) :: .lst [.int 0] :: .lst (img.map dN) :: .lst (used.map dN) :: g) (i := 2)
  rwa [List.length_set] at this
theorem HK_3 : (HK h a cs o img used g)[h.length + 3]? = some (.lst (used.map dN)) := by
  unfold HK
  have := app_get (h := h.set a o) (g := .lst (cs.map dC) :: .lst [.int 0] :: .lst (img.map dN) :: .lst (used.map dN) :: g) (i := 3)
  rwa [List.length_set] at this
theorem HK_g {i : Nat} : (HK h a cs o img used g)[h.length + 4 + i]? = g[i]? := by
  unfold HK
  have := app_get (h := h.set a o) (g := .lst (cs.map dC) :: .lst [.int 0] :: .lst (img.map dN) :: .lst (used.map dN) :: g) (i := 4 + i)
  rw [List.length_set] at this
  rw [Nat.add_assoc, this, Nat.add_comm 4 i]; rfl
theorem HK_len : (HK h a cs o img used g).length = h.length + 4 + g.length := by unfold HK; simp; omega
theorem HK_sa (ha : a < h.length) (o' : AO) : (HK h a cs o img used g).set a o' = HK h a cs o' img used g := by
  unfold HK; rw [app_set_l (by simpa using ha), List.set_set]
theorem HK_s2 (v : List Nat) : (HK h a cs o img used g).set (h.length + 2) (.lst (v.map dN)) = HK h a cs o v used g := by
  unfold HK; rw [app_set (i := 2) (by simp)]; rfl
theorem HK_s3 (v : List Nat) : (HK h a cs o img used g).set (h.length + 3) (.lst (v.map dN)) = HK h a cs o img v g := by
  unfold HK; rw [app_set (i := 3) (by simp)]; rfl
theorem HK_app (x : AH) : HK h a cs o img used g ++ x = HK h a cs o img used (g ++ x) := by unfold HK; simp
end
theorem keeping_spec {L : List Nat} (C : Canon L) {n : Nat} (hn : L.length = n) (h1 : 1 ≤ n) (hL : n ≤ 1000) {h : AH} {a N : Nat} {o : AO} (ha : h[a]? = some o) (hb : Bag N o) (hN : N + 2000000 ≤ 1000000000) :
    ∃ (p : List Nat) (o' : AO), c__law_keeping [.ref a, .tup (L.map dN)] h = .ok (.ref h.length) (h.set a o' ++ [.lst (p.map dN)]) ∧ IsP n p ∧ Bag (N + 2000000) o' := by
  have hal := (List.getElem?_eq_some_iff.mp ha).1
  have S := cs_cls C
  rw [hn] at S
  generalize hcs : cls L = cs at S
  have hcl : cs.length ≤ 1000 := by have := S.le; omega
  have dl : ∀ c h, cLen [dC c] h = .ok (.int c.length) h := fun c h => by simp [dC]
  obtain ⟨e', h', q, x5, x6, x7, x8, x9, used, img, o', g, rfl, rfl, K, B⟩ := liveL_inv (g := gVar 5) (b := lb__law_keeping_1) (r := h.length) (ds := cs.map dC)
    (fun j e h' => ∃ x5 x6 x7 x8 x9 used img o' g, e = [some (.ref a), some (.tup (L.map dN)), some (.ref h.length), some (.ref (h.length + 2)), some (.ref (h.length + 3)), x5, x6, x7, x8, x9, none] ∧ h' = HK h a cs o' img used g ∧ KP cs n j used img ∧ Bag (N + j * (1 + n)) o')
    (by rintro i e h' ⟨x5, x6, x7, x8, x9, used, img, o', g, rfl, rfl, K, B⟩; exact HK_0)
    (e := [some (.ref a), some (.tup (L.map dN)), some (.ref h.length), some (.ref (h.length + 2)), some (.ref (h.length + 3)), none, none, none, none, none, none]) (h := HK h a cs o (List.replicate n 0) [] [])
    ⟨none, none, none, none, none, [], List.replicate n 0, o, [], rfl, rfl, ⟨rfl, List.nodup_nil, fun t ht => absurd ht (by omega), by simp, fun t ht => absurd ht (by omega)⟩, by simpa using hb⟩ (by
      rintro j d e h' hd ⟨x5, x6, x7, x8, x9, used, img, o', g, rfl, rfl, K, B⟩
      have hj : j < cs.length := by
        have := (List.getElem?_eq_some_iff.mp hd).1
        simpa using this
      rw [List.getElem?_map, getD_some (a := []) hj] at hd
      obtain rfl : dC (cs.getD j []) = d := by simpa using hd
      have fp := free_pos hj K.ul fun t ht => (K.us t ht).2
      have hjn : j * (1 + n) ≤ 1000 * 1001 := Nat.mul_le_mul (by omega) (by omega)
      have P := S.pos j hj
      have fl : (freeOf cs used (cs.getD j []).length).length ≤ 1000 := Nat.le_trans (List.length_filter_le _ _) (by simpa using hcl)
      generalize hF : freeOf cs used (cs.getD j []).length = F at fp fl
      obtain ⟨d, o2, ed, hd2, B2⟩ := take_spec (s := (F.length : Int)) (HK_a (g := g ++ [.lst (F.map dN)]) (cs := cs) (o := o') (img := img) (used := used) hal) B (by omega) (by omega) (by omega)
      rw [HK_sa hal] at ed
      have hd3 : d < F.length := by omega
      have M := mem_free (cs := cs) (used := used) (s := (cs.getD j []).length) (d := d) (by rw [hF]; exact hd3)
      rw [hF] at M
      generalize hy : F.getD d 0 = y at M
      obtain ⟨qq, o3, es, Q, B3⟩ := shuffled_spec (n := (cs.getD j []).length) (HK_a (g := g ++ [.lst (F.map dN)]) (cs := cs) (o := o2) (img := img) (used := used ++ [y]) hal) B2 P.1 (by omega) (by omega)
      rw [HK_sa hal, HK_app, HK_len] at es
      obtain ⟨e', h', q, x9', img', rfl, rfl, il, iw, iz⟩ := loopN (k := 9) (b := lb__law_keeping_2)
        (fun i e h' => ∃ x9 img', e = [some (.ref a), some (.tup (L.map dN)), some (.ref h.length), some (.ref (h.length + 2)), some (.ref (h.length + 3)), some (dC (cs.getD j [])), some (.ref (h.length + 4 + g.length)), some (dN y), some (.ref (h.length + 4 + (g ++ [AO.lst (F.map dN)]).length)), x9, none] ∧
          h' = HK h a cs o3 img' (used ++ [y]) (g ++ [.lst (F.map dN)] ++ [.lst (qq.map dN)]) ∧ img'.length = n ∧ (∀ k, k < i → img'.getD ((cs.getD j []).getD k 0) 0 = (cs.getD y []).getD (qq.getD k 0) 0) ∧ (∀ i', (∀ k, k < i → (cs.getD j []).getD k 0 ≠ i') → img'.getD i' 0 = img.getD i' 0))
        (cs.getD j []).length (e := [some (.ref a), some (.tup (L.map dN)), some (.ref h.length), some (.ref (h.length + 2)), some (.ref (h.length + 3)), some (dC (cs.getD j [])), some (.ref (h.length + 4 + g.length)), some (dN y), some (.ref (h.length + 4 + (g ++ [AO.lst (F.map dN)]).length)), x9, none])
        (h := HK h a cs o3 img (used ++ [y]) (g ++ [.lst (F.map dN)] ++ [.lst (qq.map dN)]))
        ⟨x9, img, rfl, rfl, K.il, fun k hk => absurd hk (by omega), fun _ _ => rfl⟩ (by
          rintro i e h' hi ⟨x9, img', rfl, rfl, il, iw, iz⟩
          have hq := Q.lt i hi
          have hl := S.lt j i hj hi
          refine ⟨_, _, ?_, some (dN i), img'.set ((cs.getD j []).getD i 0) ((cs.getD y []).getD (qq.getD i 0) 0), rfl, rfl, by simpa using il, fun k hk => ?_, fun i' hi' => ?_⟩
          · have x1 : ∀ h, ixD (cs.map dC) (y : Int) h = .ok (dC (cs.getD y [])) h := fun h => ixD_map (getD_some M.1)
            have x2 : ∀ h, ixD (qq.map dN) (i : Int) h = .ok (dN (qq.getD i 0)) h := fun h => ixD_N (by rw [Q.len]; exact hi)
            have x3 : ∀ h, ixD ((cs.getD y []).map dN) ((qq.getD i 0 : Nat) : Int) h = .ok (dN ((cs.getD y []).getD (qq.getD i 0) 0)) h := fun h => ixD_N (by rw [M.2.2]; exact hq)
            have x4 : ∀ h, ixD ((cs.getD j []).map dN) (i : Int) h = .ok (dN ((cs.getD j []).getD i 0)) h := fun h => ixD_N hi
            have x5 : ∀ r (v : Nat) h, putO (some (.lst (img'.map dN))) r (((cs.getD j []).getD i 0 : Nat) : Int) (dN v) h = some (h.set r (.lst ((img'.set ((cs.getD j []).getD i 0) v).map dN))) := fun r v h => putO_N (by omega)
            have l1 := HK_0 (h := h) (a := a) (cs := cs) (o := o3) (img := img') (used := used ++ [y]) (g := g ++ [.lst (F.map dN)] ++ [.lst (qq.map dN)])
            have l2 := HK_2 (h := h) (a := a) (cs := cs) (o := o3) (img := img') (used := used ++ [y]) (g := g ++ [.lst (F.map dN)] ++ [.lst (qq.map dN)])
            have l3 : (HK h a cs o3 img' (used ++ [y]) (g ++ [.lst (F.map dN)] ++ [.lst (qq.map dN)]))[h.length + 4 + (g ++ [AO.lst (F.map dN)]).length]? = some (.lst (qq.map dN)) := by rw [HK_g]; simp
            have l4 := fun v => HK_s2 (h := h) (a := a) (cs := cs) (o := o3) (img := img') (used := used ++ [y]) (g := g ++ [.lst (F.map dN)] ++ [.lst (qq.map dN)]) v
            generalize hX : h.length + 4 + (g ++ [AO.lst (F.map dN)]).length = X at l3 ⊢
            generalize hG : g ++ [.lst (F.map dN)] ++ [.lst (qq.map dN)] = G at l1 l2 l3 l4 ⊢
            simp only [dN] at x1 x2 x3 x4 x5
            simp [lb__law_keeping_2, dN, l1, l2, l3, x1, x2, x3, x4, dC, -List.getD_eq_getElem?_getD]
            rw [x5]
            simp only [dN, putS_some, onlyNx_nx, l4]
          · by_cases hk2 : k = i
            · subst hk2
              rw [getD_set (by omega), if_pos rfl]
            · rw [getD_set (by omega), if_neg fun e => hk2 (S.inj _ _ _ _ hj (by omega) hj hi e.symm).2]
              exact iw k (by omega)
          · rw [getD_set (by omega), if_neg (hi' i (by omega))]
            exact iz i' fun k hk => hi' k (by omega))
      refine ⟨_, _, ?_, some (dC (cs.getD j [])), some (.ref (h.length + 4 + g.length)), some (dN y), some (.ref (h.length + 4 + (g ++ [AO.lst (F.map dN)]).length)), x9', _, _, o3, g ++ [.lst (F.map dN)] ++ [.lst (qq.map dN)], rfl, rfl, K.step S hj M.1 M.2.1 M.2.2 Q il iw iz, B3.mono ?_⟩
      · have l0 := lc_keeping (h := HK h a cs o' img used g) (used := used) (c := cs.getD j []) hcl HK_0 HK_3 (x0 := some (.ref a)) (x1 := some (.tup (L.map dN))) (x3 := some (.ref (h.length + 2))) (x6 := x6) (x7 := x7) (x8 := x8) (x9 := x9) (x10 := none)
        rw [HK_app, HK_len, hF] at l0
        have l1 : (HK h a cs o' img used (g ++ [.lst (F.map dN)]))[h.length + 4 + g.length]? = some (.lst (F.map dN)) := by rw [HK_g]; simp
        have l1' : (HK h a cs o2 img used (g ++ [.lst (F.map dN)]))[h.length + 4 + g.length]? = some (.lst (F.map dN)) := by rw [HK_g]; simp
        have l2 := HK_3 (h := h) (a := a) (cs := cs) (o := o2) (img := img) (used := used) (g := g ++ [.lst (F.map dN)])
        have l3 := HK_s3 (h := h) (a := a) (cs := cs) (o := o2) (img := img) (used := used) (g := g ++ [.lst (F.map dN)]) (used ++ [y])
        have x1 : ∀ h, ixD (F.map dN) (d : Int) h = .ok (dN y) h := fun h => by rw [← hy]; exact ixD_N hd3
        have ap : ∀ r v h, appO (some (.lst (used.map dN))) r v h = .ok .non (h.set r (.lst (used.map dN ++ [v]))) := fun r v h => appO_lst (by have := K.ul; rw [List.length_map, sizeLine_eq]; omega)
        have r1 : RgB ((cs.getD j []).length : Int) := rgB_nat (by omega)
        generalize hX : h.length + 4 + (g ++ [AO.lst (F.map dN)]).length = X at q es
        generalize hY : h.length + 4 + g.length = Y at q l0 l1 l1'
        generalize hG : g ++ [.lst (F.map dN)] = G at l0 l1 l1' l2 l3 q es ed
        simp [-List.getD_eq_getElem?_getD] at l0 l3
        rw [show dN (cs.getD j []).length = .int ((cs.getD j []).length : Nat) from rfl] at es
        simp [lb__law_keeping_1, l0, l1, ed, l1', x1, l2, ap, l3, dl, es, r1, rg_zero, q, -List.getD_eq_getElem?_getD]
      · have e : (j + 1) * (1 + n) = j * (1 + n) + (1 + n) := by rw [Nat.add_mul, Nat.one_mul]
        omega)
  have hcn : cs.length * (1 + n) ≤ 1000 * 1001 := Nat.mul_le_mul (by omega) (by omega)
  rw [List.length_map] at K B
  refine ⟨img, o', ?_, K.isP S, B.mono (by omega)⟩
  have c0 : c__law_classes [.tup (L.map dN)] h = .ok (.ref h.length) (h ++ [.lst (cs.map dC)]) := by rw [← hcs]; exact classes_spec (by omega)
  have r1 : RepOk 1 (n : Int) := repOk_1 (by omega)
  have e : c__law_keeping [.ref a, .tup (L.map dN)] h = gc h (.ok (.ref (h.length + 2)) (h.set a o' ++ (.lst (cs.map dC) :: .lst [.int 0] :: .lst (img.map dN) :: .lst (used.map dN) :: g))) := by
    unfold c__law_keeping fsem
    unfold HK at q
    rw [set_self ha] at q
    have d0 : dN 0 = D.int 0 := rfl
    simp only [List.map_replicate, List.map_nil, d0] at q
    simp [m__law_keeping, c0, hn, r1, rep_zero, d0, q]
  rw [e, gc_set_new B.flat (i := 2) rfl (by simp)]
end Law

set_option maxHeartbeats 1000000
namespace Law
open PySem Rf L2
/-- a heap where one bag was turned -/
theorem moving_spec {L : List Nat} (C : Canon L) {n : Nat} (hn : L.length = n) (h1 : 1 ≤ n) (hL : n ≤ 1000) {h : AH} {a N : Nat} {o : AO} (ha : h[a]? = some o) (hb : Bag N o) (hN : N + 2000010 ≤ 1000000000) (b : Bool) :
    ∃ (p : List Nat) (o' : AO), c__law_moving [.ref a, .tup (L.map dN), .bl b] h = .ok (.tup (p.map dN)) (h.set a o') ∧ IsP n p ∧ Bag (N + 2000010) o' := by
  have hal := (List.getElem?_eq_some_iff.mp ha).1
  obtain ⟨k0, o1, e1, hk, B1⟩ := take_spec (s := 4) ha hb (by omega) (by omega) (by omega)
  have ha1 := get_set ha o1
  have ss : ∀ (x y : AO), (h.set a x).set a y = h.set a y := fun x y => by rw [List.set_set]
  obtain ⟨k, hkk⟩ : ∃ k, k = (if b = true then 2 else k0) := ⟨_, rfl⟩
  by_cases z : k = 0
  · obtain ⟨p, o2, e2, P, B2⟩ := shuffled_spec (n := n) ha1 B1 h1 hL (by omega)
    rw [ss] at e2
    have f2 : c__law_shuffled [.ref a, .int (n : Int)] (h.set a o1) = .ok (.ref h.length) (h.set a o2 ++ [.lst (p.map dN)]) := by rw [← List.length_set (as := h) (i := a) (a := o1)]; exact e2
    refine ⟨p, o2, ?_, P, B2.mono (by omega)⟩
    have e : c__law_moving [.ref a, .tup (L.map dN), .bl b] h = gc h (.ok (.tup (p.map dN)) (h.set a o2 ++ [.lst (p.map dN)])) := by
      unfold c__law_moving fsem
      cases b with
      | false =>
        have : k0 = 0 := by simpa [hkk] using z
        subst this
        simp [m__law_moving, e1, hn, f2]
      | true => simp [hkk] at z
    rw [e, gc_set_app (by simp) B2.flat]
  · obtain ⟨p, o2, e2, P, B2⟩ := keeping_spec C hn h1 hL ha1 B1 (by omega)
    rw [ss, List.length_set] at e2
    by_cases y : k = 1
    · have hb0 : b = false := by
        cases b with
        | false => rfl
        | true => simp [hkk] at y
      subst hb0
      have hk0 : k0 = 1 := by simpa [hkk] using y
      subst hk0
      have a2 : (h.set a o2 ++ [AO.lst (p.map dN)])[a]? = some o2 := app_get_l (get_set ha o2)
      obtain ⟨u, o3, e3, hu, B3⟩ := take_spec (s := (n : Int)) a2 B2 (by omega) (by omega) (by omega)
      rw [app_set_l (by simpa using hal), ss] at e3
      have a3 : (h.set a o3 ++ [AO.lst (p.map dN)])[a]? = some o3 := app_get_l (get_set ha o3)
      obtain ⟨v, o4, e4, hv, B4⟩ := take_spec (s := (n : Int)) a3 B3 (by omega) (by omega) (by omega)
      rw [app_set_l (by simpa using hal), ss] at e4
      have lp := P.len
      have x1 : ∀ h, ixD (p.map dN) (u : Int) h = .ok (dN (p.getD u 0)) h := fun h => ixD_N (by omega)
      have x2 : ∀ h, ixD (p.map dN) (v : Int) h = .ok (dN (p.getD v 0)) h := fun h => ixD_N (by omega)
      have y1 : ∀ (ds : List D) r v h, ds.length = n → putO (some (.lst ds)) r (u : Int) v h = some (h.set r (.lst (ds.set u v))) := fun ds r v h hl => putO_nat (by omega)
      have y2 : ∀ (ds : List D) r w h, ds.length = n → putO (some (.lst ds)) r (v : Int) w h = some (h.set r (.lst (ds.set v w))) := fun ds r v h hl => putO_nat (by omega)
      refine ⟨(p.set u (p.getD v 0)).set v (p.getD u 0), o4, ?_, P.swap (by omega) (by omega), B4.mono (by omega)⟩
      have e : c__law_moving [.ref a, .tup (L.map dN), .bl false] h = gc h (.ok (.tup (((p.set u (p.getD v 0)).set v (p.getD u 0)).map dN)) (h.set a o4 ++ [.lst (((p.set u (p.getD v 0)).set v (p.getD u 0)).map dN)])) := by
        unfold c__law_moving fsem
        simp [m__law_moving, e1, hn, e2, e3, e4, x1, x2, y1, y2, lp, -List.getD_eq_getElem?_getD]
      rw [e]; exact gc_set_app (show pures _ = true from pures_dN _) B4.flat
    · refine ⟨p, o2, ?_, P, B2.mono (by omega)⟩
      have e : c__law_moving [.ref a, .tup (L.map dN), .bl b] h = gc h (.ok (.tup (p.map dN)) (h.set a o2 ++ [.lst (p.map dN)])) := by
        unfold c__law_moving fsem
        cases b with
        | false =>
          have z' : ¬ k0 = 0 := by simpa [hkk] using z
          have y' : ¬ k0 = 1 := by simpa [hkk] using y
          have z2 : ¬ (k0 : Int) = 0 := by omega
          have y2 : ¬ (k0 : Int) = 1 := by omega
          simp [m__law_moving, e1, hn, e2, z', y', z2, y2]
        | true => simp [m__law_moving, e1, hn, e2]
      rw [e, gc_set_app (by simp) B2.flat]
def dP (x : Nat × Nat) : D := .tup [dN x.1, dN x.2]
theorem pair_spec {L : List Nat} (C : Canon L) {n : Nat} (hn : L.length = n) (h1 : 1 ≤ n) (hL : n ≤ 1000) {h : AH} {a N : Nat} {o : AO} (ha : h[a]? = some o) (hb : Bag N o) (hN : N + 10 ≤ 1000000000) (b : Bool) :
    ∃ (x : Nat × Nat) (o' : AO), c__law_pair [.ref a, .tup (L.map dN), .bl b] h = .ok (dP x) (h.set a o') ∧ x.1 < n ∧ x.2 < n ∧ Bag (N + 10) o' := by
  have hal := (List.getElem?_eq_some_iff.mp ha).1
  have ss : ∀ (x y : AO), (h.set a x).set a y = h.set a y := fun x y => by rw [List.set_set]
  obtain ⟨u, o1, e1, hu, B1⟩ := take_spec (s := (n : Int)) ha hb (by omega) (by omega) (by omega)
  have hu2 : u < n := by omega
  have x1 : ∀ h, ixD (L.map dN) (u : Int) h = .ok (dN (L.getD u 0)) h := fun h => ixD_N (by omega)
  have l0 : ∀ (x0 x2 x4 x5 : Option D), lc__law_pair_1 [x0, some (.tup (L.map dN)), x2, some (dN u), x4, x5] (h.set a o1) = .ok (.ref h.length) (h.set a o1 ++ [.lst ((clsOf L (L.getD u 0)).map dN)]) := by
    intro x0 x2 x4 x5
    unfold lc__law_pair_1
    rw [eLc_pure (φ := dN) (List.range n) (fun k => L.getD k 0 == L.getD u 0) dN (h1 := h.set a o1) (iRange1_nat (by simp [hn]) (by omega)) (by rw [List.length_range, sizeLine_eq]; omega)]
    · rw [List.length_set]; unfold clsOf; rw [hn]
    · intro k hk
      rw [List.mem_range] at hk
      have x2 : ∀ h, ixD (L.map dN) (k : Int) h = .ok (dN (L.getD k 0)) h := fun h => ixD_N (by omega)
      simp only [dN] at x1 x2
      simp [wipeE, x1, x2, dN, -List.getD_eq_getElem?_getD]
    · intro k hk _
      simp [wipeE]
  have hm : u ∈ clsOf L (L.getD u 0) := mem_clsOf.mpr ⟨by omega, rfl⟩
  have c1 := List.length_pos_of_mem hm
  have c2 : (clsOf L (L.getD u 0)).length ≤ n := by
    unfold clsOf
    exact Nat.le_trans (List.length_filter_le _ _) (by simp [hn])
  have c3 : ∀ x ∈ clsOf L (L.getD u 0), x < n := fun x hx => by have := (mem_clsOf.mp hx).1; omega
  generalize clsOf L (L.getD u 0) = K at l0 hm c1 c2 c3
  have a2 : (h.set a o1 ++ [AO.lst (K.map dN)])[a]? = some o1 := app_get_l (get_set ha o1)
  obtain ⟨v, o2, e2, hv, B2⟩ := take_spec (s := 3) a2 B1 (by omega) (by omega) (by omega)
  rw [app_set_l (by simpa using hal), ss] at e2
  by_cases c : v = 0 ∧ b = false
  · obtain ⟨rfl, rfl⟩ := c
    have a3 : (h.set a o2 ++ [AO.lst (K.map dN)] ++ [AO.lst ((List.range n).map dN)])[a]? = some o2 := app_get_l (app_get_l (get_set ha o2))
    obtain ⟨w, o3, e3, hw, B3⟩ := take_spec (s := (n : Int)) a3 B2 (by omega) (by omega) (by omega)
    have hw2 : w < n := by omega
    rw [app_set_l (by simp; omega), app_set_l (by simpa using hal), ss] at e3
    simp at e3
    refine ⟨(u, w), o3, ?_, hu2, hw2, B3.mono (by omega)⟩
    have r2 : RgOk 0 (n : Int) := rgOk_nat (by omega)
    have g1 : (h.set a o2 ++ [AO.lst (K.map dN), AO.lst ((List.range n).map dN)])[h.length + 1]? = some (.lst ((List.range n).map dN)) := by
      have := app_get (h := h.set a o2) (g := [AO.lst (K.map dN), AO.lst ((List.range n).map dN)]) (i := 1)
      rwa [List.length_set] at this
    have g2 : (h.set a o3 ++ [AO.lst (K.map dN), AO.lst ((List.range n).map dN)])[h.length + 1]? = some (.lst ((List.range n).map dN)) := by
      have := app_get (h := h.set a o3) (g := [AO.lst (K.map dN), AO.lst ((List.range n).map dN)]) (i := 1)
      rwa [List.length_set] at this
    have x3 : ∀ h, ixD ((List.range n).map dN) (w : Int) h = .ok (dN w) h := fun h => by
      rw [ixD_N (by simpa using hw2)]; simp [hw2]
    have e : c__law_pair [.ref a, .tup (L.map dN), .bl false] h = gc h (.ok (dP (u, w)) (h.set a o3 ++ [AO.lst (K.map dN), AO.lst ((List.range n).map dN)])) := by
      unfold c__law_pair fsem
      simp only [dN] at l0
      simp [m__law_pair, e1, hn, l0, e2, r2, rg_zero, g1, g2, e3, x3, dP]
    rw [e, gc_set_app (by simp [dP]) B3.flat]
  · have a3 : (h.set a o2 ++ [AO.lst (K.map dN)])[a]? = some o2 := app_get_l (get_set ha o2)
    obtain ⟨w, o3, e3, hw, B3⟩ := take_spec (s := (K.length : Int)) a3 B2 (by omega) (by omega) (by omega)
    have hw2 : w < K.length := by omega
    rw [app_set_l (by simpa using hal), ss] at e3
    refine ⟨(u, K.getD w 0), o3, ?_, hu2, c3 _ (getD_mem hw2), B3.mono (by omega)⟩
    have x3 : ∀ h, ixD (K.map dN) (w : Int) h = .ok (dN (K.getD w 0)) h := fun h => ixD_N hw2
    have e : c__law_pair [.ref a, .tup (L.map dN), .bl b] h = gc h (.ok (dP (u, K.getD w 0)) (h.set a o3 ++ [AO.lst (K.map dN)])) := by
      unfold c__law_pair fsem
      simp only [dN] at l0
      by_cases v0 : v = 0
      · subst v0
        have : b = true := by
          cases b with
          | true => rfl
          | false => exact absurd ⟨rfl, rfl⟩ c
        subst this
        simp [m__law_pair, e1, hn, l0, e2, e3, x3, dP, -List.getD_eq_getElem?_getD]
      · have v1 : ¬ (v : Int) = 0 := by omega
        simp [m__law_pair, e1, hn, l0, e2, v0, e3, x3, dP, -List.getD_eq_getElem?_getD]
    rw [e, gc_set_app (by simp [dP]) B3.flat]
end Law

set_option maxHeartbeats 1000000
namespace Law
open PySem Rf L2
/-! ### the least labels, plainly -/
/-- f is constant on the given pairs and its classes go to classes -/
structure Good (n : Nat) (ps : List (List Nat)) (prs : List (Nat × Nat)) (f : Nat → Nat) : Prop where
  pr : ∀ x ∈ prs, f x.1 = f x.2
  cl : ∀ p ∈ ps, ∀ i j, i < n → j < n → f i = f j → f (p.getD i 0) = f (p.getD j 0)
structure Least (n : Nat) (ps : List (List Nat)) (prs : List (Nat × Nat)) (L : List Nat) : Prop where
  len : L.length = n
  can : Canon L
  good : Good n ps prs (fun i => L.getD i 0)
  least : ∀ f, Good n ps prs f → ∀ i j, i < n → j < n → L.getD i 0 = L.getD j 0 → f i = f j
theorem Least.le {n : Nat} {ps ps' : List (List Nat)} {prs prs' : List (Nat × Nat)} {L M : List Nat} (A : Least n ps prs L) (B : Least n ps' prs' M) (h : Good n ps prs (fun i => M.getD i 0)) : ∀ i, i < n → M.getD i 0 ≤ L.getD i 0 := fun i hi => by
  have c := A.can i (by rw [A.len]; exact hi)
  have := A.least _ h i (L.getD i 0) hi (by omega) c.2.symm
  have d := B.can (L.getD i 0) (by rw [B.len]; omega)
  have this : M.getD i 0 = M.getD (L.getD i 0) 0 := this
  omega
theorem ext_getD {L M : List Nat} (l : L.length = M.length) (h : ∀ i, i < L.length → L.getD i 0 = M.getD i 0) : L = M := by
  apply List.ext_getElem l
  intro i h1 h2
  have := h i h1
  rwa [getD_get h1, getD_get h2] at this
theorem Least.eq {n : Nat} {ps ps' : List (List Nat)} {prs prs' : List (Nat × Nat)} {L M : List Nat} (A : Least n ps prs L) (B : Least n ps' prs' M) (h1 : ∀ f, Good n ps' prs' f → Good n ps prs f) (h2 : ∀ f, Good n ps prs f → Good n ps' prs' f) : L = M :=
  ext_getD (by rw [A.len, B.len]) fun i hi => by
    rw [A.len] at hi
    have := A.le B (h1 _ B.good) i hi
    have := B.le A (h2 _ A.good) i hi
    omega
theorem Least.uniq {n : Nat} {ps : List (List Nat)} {prs : List (Nat × Nat)} {L M : List Nat} (A : Least n ps prs L) (B : Least n ps prs M) : L = M := A.eq B (fun _ h => h) (fun _ h => h)
/-- one merge -/
def mrg (L : List Nat) (a b : Nat) : List Nat := L.map fun c => if c = (if L.getD b 0 > L.getD a 0 then L.getD b 0 else L.getD a 0) then (if L.getD b 0 < L.getD a 0 then L.getD b 0 else L.getD a 0) else c
def cnt (L : List Nat) : Nat := ((List.range L.length).filter fun i => L.getD i 0 == i).length
section
variable {L : List Nat} {a b n : Nat}
theorem mrg_len : (mrg L a b).length = L.length := by simp [mrg]
theorem mrg_at {i : Nat} (hi : i < L.length) : (mrg L a b).getD i 0 = if L.getD i 0 = (if L.getD b 0 > L.getD a 0 then L.getD b 0 else L.getD a 0) then (if L.getD b 0 < L.getD a 0 then L.getD b 0 else L.getD a 0) else L.getD i 0 := by
  unfold mrg; rw [map_getD (d := 0) hi]
theorem mrg_lh : ∃ lo hi, lo ≤ hi ∧ ((lo = L.getD a 0 ∧ hi = L.getD b 0) ∨ (lo = L.getD b 0 ∧ hi = L.getD a 0)) ∧ ∀ i, i < L.length → (mrg L a b).getD i 0 = if L.getD i 0 = hi then lo else L.getD i 0 := by
  by_cases q : L.getD b 0 < L.getD a 0
  · refine ⟨L.getD b 0, L.getD a 0, by omega, .inr ⟨rfl, rfl⟩, fun i hi => ?_⟩
    rw [mrg_at hi, if_neg (show ¬ L.getD b 0 > L.getD a 0 by omega), if_pos q]
  · refine ⟨L.getD a 0, L.getD b 0, by omega, .inl ⟨rfl, rfl⟩, fun i hi => ?_⟩
    rw [mrg_at hi, if_neg q]
    by_cases q2 : L.getD b 0 > L.getD a 0
    · rw [if_pos q2]
    · rw [if_neg q2]
      have : L.getD a 0 = L.getD b 0 := by omega
      rw [this]
theorem mrg_same (h : L.getD a 0 = L.getD b 0) : mrg L a b = L := ext_getD mrg_len fun i hi => by
  rw [mrg_len] at hi
  obtain ⟨lo, up, h1, h2, h3⟩ := mrg_lh (L := L) (a := a) (b := b)
  rw [h3 i hi]
  split <;> omega
theorem mrg_canon (C : Canon L) (ha : a < L.length) (hb : b < L.length) : Canon (mrg L a b) := fun i hi => by
  rw [mrg_len] at hi
  have ci := C i hi
  have ca := C a ha
  have cb := C b hb
  obtain ⟨lo, up, h1, h2, h3⟩ := mrg_lh (L := L) (a := a) (b := b)
  have hl : lo < L.length ∧ L.getD lo 0 = lo := by
    rcases h2 with ⟨rfl, _⟩ | ⟨rfl, _⟩
    · exact ⟨by omega, ca.2⟩
    · exact ⟨by omega, cb.2⟩
  rw [h3 i hi]
  by_cases q : L.getD i 0 = up
  · rw [if_pos q, h3 _ hl.1, hl.2]
    refine ⟨by omega, ?_⟩
    split <;> rfl
  · rw [if_neg q, h3 _ (by omega), ci.2, if_neg q]
    exact ⟨ci.1, rfl⟩
/-- what a merge relates -/
theorem mrg_eq {i j : Nat} (hi : i < L.length) (hj : j < L.length) (h : (mrg L a b).getD i 0 = (mrg L a b).getD j 0) :
    L.getD i 0 = L.getD j 0 ∨ (L.getD i 0 = L.getD a 0 ∧ L.getD j 0 = L.getD b 0) ∨ (L.getD i 0 = L.getD b 0 ∧ L.getD j 0 = L.getD a 0) := by
  obtain ⟨lo, up, h1, h2, h3⟩ := mrg_lh (L := L) (a := a) (b := b)
  rw [h3 i hi, h3 j hj] at h
  split at h <;> split at h <;> omega
theorem mrg_keep {i j : Nat} (hi : i < L.length) (hj : j < L.length) (h : L.getD i 0 = L.getD j 0) : (mrg L a b).getD i 0 = (mrg L a b).getD j 0 := by
  rw [mrg_at hi, mrg_at hj, h]
theorem mrg_do (ha : a < L.length) (hb : b < L.length) : (mrg L a b).getD a 0 = (mrg L a b).getD b 0 := by
  obtain ⟨lo, up, h1, h2, h3⟩ := mrg_lh (L := L) (a := a) (b := b)
  rw [h3 a ha, h3 b hb]
  split <;> split <;> omega
theorem cnt_le : cnt L ≤ L.length := Nat.le_trans (List.length_filter_le _ _) (by simp)
theorem cnt_pos (C : Canon L) (h : 1 ≤ L.length) : 1 ≤ cnt L := by
  have := C 0 (by omega)
  exact List.length_pos_of_mem (a := 0) (List.mem_filter.mpr ⟨List.mem_range.mpr (by omega), by simp only [beq_iff_eq]; omega⟩)
/-- a merge of two classes leaves fewer -/
theorem mrg_cnt (C : Canon L) (ha : a < L.length) (hb : b < L.length) (h : L.getD a 0 ≠ L.getD b 0) : cnt (mrg L a b) + 1 ≤ cnt L := by
  have ca := C a ha
  have cb := C b hb
  obtain ⟨lo, M, h1', h2', h3⟩ := mrg_lh (L := L) (a := a) (b := b)
  have hMl : M < L.length := by omega
  have hMM : L.getD M 0 = M := by rcases h2' with ⟨_, e⟩ | ⟨_, e⟩ <;> rw [e] <;> omega
  have hMm : (mrg L a b).getD M 0 ≠ M := by
    rw [h3 M hMl, if_pos hMM]
    omega
  have := sub_length (l1 := M :: ((List.range (mrg L a b).length).filter fun i => (mrg L a b).getD i 0 == i)) (l2 := (List.range L.length).filter fun i => L.getD i 0 == i)
    (List.nodup_cons.mpr ⟨fun hm => hMm (by simpa using (List.mem_filter.mp hm).2), List.Pairwise.filter _ List.nodup_range⟩) fun x hx => by
      rcases List.mem_cons.mp hx with rfl | hx
      · exact List.mem_filter.mpr ⟨List.mem_range.mpr hMl, by simpa using hMM⟩
      · obtain ⟨h1, h2⟩ := List.mem_filter.mp hx
        rw [List.mem_range, mrg_len] at h1
        rw [beq_iff_eq] at h2
        refine List.mem_filter.mpr ⟨List.mem_range.mpr h1, ?_⟩
        rw [beq_iff_eq]
        rw [h3 x h1] at h2
        have cx := C x h1
        have ra := C a ha
        split at h2
        · rename_i e
          have lx : L.getD lo 0 = lo := by rcases h2' with ⟨e, _⟩ | ⟨e, _⟩ <;> rw [e] <;> omega
          rw [h2] at lx
          exact lx
        · exact h2
  rw [List.length_cons] at this
  exact this
end
/-- pushing a relation back along a perm -/
theorem Good.back {n : Nat} {p q : List Nat} {f : Nat → Nat} (P : IsP n p) (Q : IsP n q) (hq : ∀ i, i < n → q.getD (p.getD i 0) 0 = i) (h : ∀ i j, i < n → j < n → f i = f j → f (p.getD i 0) = f (p.getD j 0)) :
    ∀ i j, i < n → j < n → f i = f j → f (q.getD i 0) = f (q.getD j 0) := by
  intro i j hi hj e
  have hn : 0 < n := by omega
  let R := (List.range (n * n)).filter fun k => f (k / n) == f (k % n)
  let g := fun k => p.getD (k / n) 0 * n + p.getD (k % n) 0
  have dm : ∀ x y, x < n → y < n → (x * n + y) / n = x ∧ (x * n + y) % n = y ∧ x * n + y < n * n := fun x y hx hy => by
    refine ⟨?_, ?_, ?_⟩
    · rw [Nat.mul_comm, Nat.mul_add_div hn, Nat.div_eq_of_lt hy, Nat.add_zero]
    · rw [Nat.mul_comm, Nat.mul_add_mod, Nat.mod_eq_of_lt hy]
    · have : (x + 1) * n ≤ n * n := Nat.mul_le_mul_right n hx
      rw [Nat.add_mul, Nat.one_mul] at this
      omega
  have mR : ∀ k, k ∈ R ↔ k < n * n ∧ f (k / n) = f (k % n) := fun k => by rw [List.mem_filter, List.mem_range, beq_iff_eq]
  have kd : ∀ k, k < n * n → k / n < n ∧ k % n < n := fun k hk => ⟨Nat.div_lt_of_lt_mul hk, Nat.mod_lt _ hn⟩
  have nR : R.Nodup := List.Pairwise.filter _ List.nodup_range
  have ng : (R.map g).Nodup := by
    unfold List.Nodup
    rw [List.pairwise_map]
    refine List.Pairwise.imp_of_mem (fun {a b} ha hb hne heq => hne ?_) nR
    have ka := kd a ((mR a).mp ha).1
    have kb := kd b ((mR b).mp hb).1
    have da := dm _ _ (P.lt _ ka.1) (P.lt _ ka.2)
    have db := dm _ _ (P.lt _ kb.1) (P.lt _ kb.2)
    have e1 : p.getD (a / n) 0 = p.getD (b / n) 0 := by rw [← da.1, ← db.1]; exact congrArg (· / n) heq
    have e2 : p.getD (a % n) 0 = p.getD (b % n) 0 := by rw [← da.2.1, ← db.2.1]; exact congrArg (· % n) heq
    have f1 := P.inj _ _ ka.1 kb.1 e1
    have f2 := P.inj _ _ ka.2 kb.2 e2
    rw [← Nat.div_add_mod a n, ← Nat.div_add_mod b n, f1, f2]
  have sg : ∀ x ∈ R.map g, x ∈ R := fun x hx => by
    obtain ⟨k, hk, rfl⟩ := List.mem_map.mp hx
    obtain ⟨k1, k2⟩ := (mR k).mp hk
    have kk := kd k k1
    have d := dm _ _ (P.lt _ kk.1) (P.lt _ kk.2)
    refine (mR _).mpr ⟨d.2.2, ?_⟩
    show f ((p.getD (k / n) 0 * n + p.getD (k % n) 0) / n) = f ((p.getD (k / n) 0 * n + p.getD (k % n) 0) % n)
    rw [d.1, d.2.1]
    exact h _ _ kk.1 kk.2 k2
  have d := dm i j hi hj
  have hx : i * n + j ∈ R.map g := by
    refine Classical.byContradiction fun hc => ?_
    have := sub_length (l1 := (i * n + j) :: R.map g) (l2 := R) (List.nodup_cons.mpr ⟨hc, ng⟩) fun x hx => by
      rcases List.mem_cons.mp hx with rfl | hx
      · exact (mR _).mpr ⟨d.2.2, by rw [d.1, d.2.1]; exact e⟩
      · exact sg x hx
    rw [List.length_cons, List.length_map] at this
    omega
  obtain ⟨k, hk, ek⟩ := List.mem_map.mp hx
  obtain ⟨k1, k2⟩ := (mR k).mp hk
  have kk := kd k k1
  have dd := dm _ _ (P.lt _ kk.1) (P.lt _ kk.2)
  have e1 : p.getD (k / n) 0 = i := by rw [← dd.1, ← d.1]; exact congrArg (· / n) ek
  have e2 : p.getD (k % n) 0 = j := by rw [← dd.2.1, ← d.2.1]; exact congrArg (· % n) ek
  rw [← e1, ← e2, hq _ kk.1, hq _ kk.2]
  exact k2
end Law

set_option maxHeartbeats 1000000
namespace Law
open PySem Rf L2
theorem loopM {α : Type} {φ : α → D} {k : Nat} {b : SM} (P : Nat → AE → AH → Prop) (xs : List α) {e : AE} {h : AH} (p : P 0 e h)
    (st : ∀ (i : Nat) (x : α) (e : AE) (h : AH), xs[i]? = some x → P i e h → ∃ e' h', b (e.set k (some (φ x))) h = .nx e' h' ∧ P (i + 1) e' h') : ∃ e' h', sLoop (gVar k) b (xs.map φ) e h = .nx e' h' ∧ P xs.length e' h' := by
  have := loop_inv (g := gVar k) (b := b) P (xs.map φ) 0 e h p fun i d e h hd hp => by
    rw [List.getElem?_map] at hd
    cases hx : xs[i]? with
    | none => rw [hx] at hd; cases hd
    | some x =>
      rw [hx] at hd
      cases hd
      rw [Nat.zero_add] at hp
      obtain ⟨e', h', q, p'⟩ := st i x e h hx hp
      exact ⟨e', h', q, by rwa [Nat.zero_add]⟩
  simpa using this
theorem loopM_ret {α : Type} {φ : α → D} {k : Nat} {b : SM} (P : Nat → AE → AH → Prop) (R : D → AH → Prop) (xs : List α) {e : AE} {h : AH} (p : P 0 e h)
    (st : ∀ (i : Nat) (x : α) (e : AE) (h : AH), xs[i]? = some x → P i e h → (∃ e' h', b (e.set k (some (φ x))) h = .nx e' h' ∧ P (i + 1) e' h') ∨ ∃ d' h', b (e.set k (some (φ x))) h = .rt d' h' ∧ R d' h') :
    (∃ e' h', sLoop (gVar k) b (xs.map φ) e h = .nx e' h' ∧ P xs.length e' h') ∨ ∃ d' h', sLoop (gVar k) b (xs.map φ) e h = .rt d' h' ∧ R d' h' := by
  have := loop_ret (g := gVar k) (b := b) P R (xs.map φ) 0 e h p fun i d e h hd hp => by
    rw [List.getElem?_map] at hd
    cases hx : xs[i]? with
    | none => rw [hx] at hd; cases hd
    | some x =>
      rw [hx] at hd
      cases hd
      rw [Nat.zero_add] at hp
      rcases st i x e h hx hp with ⟨e', h', q, p'⟩ | z
      · exact .inl ⟨e', h', q, by rwa [Nat.zero_add]⟩
      · exact .inr z
  simpa using this
theorem min_ex {P : Nat → Prop} (q : ∃ m, P m) : ∃ m, P m ∧ ∀ m', P m' → m ≤ m' := by
  obtain ⟨m, hm⟩ := q
  induction m using Nat.strongRecOn with
  | _ m ih =>
    by_cases z : ∃ k, k < m ∧ P k
    · obtain ⟨k, hk, pk⟩ := z
      exact ih k hk pk
    · exact ⟨m, hm, fun m' pm => Nat.le_of_not_lt fun lt => z ⟨m', lt, pm⟩⟩
open Classical in
theorem while_ix {c : EM} {b : SM} (P : Nat → AE → AH → Prop) (T : AE → AH → Prop)
    (st : ∀ m e h, P m e h → (∃ h1, c e h = .ok (.bl false) h1 ∧ T e h1) ∨ ∃ h1, c e h = .ok (.bl true) h1 ∧ ∃ e' h', b e h1 = .nx e' h' ∧ ∃ m', m' < m ∧ P m' e' h') (m : Nat) (e : AE) (h : AH) (p : P m e h) : ∃ e' h', sWhile c b e h = .nx e' h' ∧ T e' h' := by
  let μ : AE → AH → Nat := fun e h => if q : ∃ m, P m e h then Classical.choose (min_ex q) else 0
  have hμ : ∀ m e h, P m e h → P (μ e h) e h ∧ μ e h ≤ m := fun m e h pm => by
    have q : ∃ m, P m e h := ⟨m, pm⟩
    have e1 : μ e h = Classical.choose (min_ex q) := dif_pos q
    have := Classical.choose_spec (min_ex q)
    rw [e1]
    exact ⟨this.1, this.2 m pm⟩
  refine while_inv (P := fun e h => ∃ m, P m e h) μ T (fun e h pe => ?_) (μ e h) e h (Nat.le_refl _) ⟨m, p⟩
  obtain ⟨m0, pm0⟩ := pe
  have h1 := hμ m0 e h pm0
  rcases st _ e h h1.1 with z | ⟨h1', hc, e', h', hb, m', lt, p'⟩
  · exact .inl z
  · exact .inr ⟨h1', hc, e', h', hb, ⟨m', p'⟩, Nat.lt_of_le_of_lt (hμ m' e' h' p').2 lt⟩
theorem gc_old {h h' : AH} {r : Nat} (hr : r < h.length) : gc h (.ok (.ref r) h') = .ok (.ref r) h' := by
  unfold gc
  dsimp only
  split
  · rw [if_neg (by unfold D.pure; exact Bool.false_ne_true), if_neg (by omega)]
  · rfl
theorem cast_ite {c : Prop} [Decidable c] {a b : Nat} : ((if c then a else b : Nat) : Int) = if c then (a : Int) else (b : Int) := by split <;> rfl
/-- the two ends of a merge -/
theorem mrg_ends (L : List Nat) (a b : Nat) : ∃ lo up : Nat, (∀ h, cMin2 [.int (L.getD a 0 : Nat), .int (L.getD b 0 : Nat)] h = .ok (.int lo) h) ∧ (∀ h, cMax2 [.int (L.getD a 0 : Nat), .int (L.getD b 0 : Nat)] h = .ok (.int up) h) ∧
    (L.getD a 0 = L.getD b 0 → lo = up) ∧ (lo = up → L.getD a 0 = L.getD b 0) ∧ mrg L a b = L.map fun c => if c = up then lo else c := by
  refine ⟨if L.getD b 0 < L.getD a 0 then L.getD b 0 else L.getD a 0, if L.getD b 0 > L.getD a 0 then L.getD b 0 else L.getD a 0, fun h => ?_, fun h => ?_, fun e => ?_, fun e => ?_, rfl⟩
  · rw [cMin2_int, cast_ite]
    by_cases q : L.getD b 0 < L.getD a 0
    · rw [if_pos q, if_pos (by omega)]
    · rw [if_neg q, if_neg (by omega)]
  · rw [cMax2_int, cast_ite]
    by_cases q : L.getD b 0 > L.getD a 0
    · rw [if_pos q, if_pos (by omega)]
    · rw [if_neg q, if_neg (by omega)]
  · rw [if_neg (by omega), if_neg (by omega)]
  · split at e <;> split at e <;> omega
theorem merged_spec {L : List Nat} (hl : L.length ≤ 1000) {a b : Nat} (ha : a < L.length) (hb : b < L.length) {h : AH} :
    c_merged [.tup (L.map dN), dN a, dN b] h = .ok (.tup ((mrg L a b).map dN)) h := by
  obtain ⟨lo, up, m1, m2, m3, m3', m4⟩ := mrg_ends L a b
  have x1 : ∀ h, ixD (L.map dN) (a : Int) h = .ok (dN (L.getD a 0)) h := fun h => ixD_N ha
  have x2 : ∀ h, ixD (L.map dN) (b : Int) h = .ok (dN (L.getD b 0)) h := fun h => ixD_N hb
  simp only [dN] at x1 x2
  by_cases c : lo = up
  · rw [mrg_same (m3' c)]
    have e : c_merged [.tup (L.map dN), dN a, dN b] h = gc h (.ok (.tup (L.map dN)) h) := by
      unfold c_merged fsem
      simp [m_merged, x1, x2, m1, m2, c, -List.getD_eq_getElem?_getD]
    rw [e, gc_same (by simp)]
  · have l0 : ∀ h, lc_merged_1 [some (.tup (L.map dN)), some (dN a), some (dN b), some (dN lo), some (dN up), none] h = .ok (.ref h.length) (h ++ [.lst ((mrg L a b).map dN)]) := by
      intro h
      unfold lc_merged_1
      rw [eLc_map (φ := dN) L (fun c => dN (if c = up then lo else c)) (h1 := h) (iVal_tup (by simp)) (by rw [sizeLine_eq]; omega)]
      · rw [m4, List.map_map]; rfl
      · intro x hx
        by_cases q : x = up
        · simp [wipeE, q]
        · simp [wipeE, q]
    simp only [dN] at l0
    have e : c_merged [.tup (L.map dN), dN a, dN b] h = gc h (.ok (.tup ((mrg L a b).map dN)) (h ++ [.lst ((mrg L a b).map dN)])) := by
      unfold c_merged fsem
      simp [m_merged, x1, x2, m1, m2, c, l0, -List.getD_eq_getElem?_getD]
    rw [e, gc_app (by simp)]
/-- on lists -/
theorem mergedL_spec {L : List Nat} (hl : L.length ≤ 1000) {a b : Nat} (ha : a < L.length) (hb : b < L.length) {h : AH} {r : Nat} (hr : h[r]? = some (.lst (L.map dN))) :
    ∃ r' g, c__law_merged [.ref r, dN a, dN b] h = .ok (.ref r') (h ++ g) ∧ (h ++ g)[r']? = some (.lst ((mrg L a b).map dN)) := by
  obtain ⟨lo, up, m1, m2, m3, m3', m4⟩ := mrg_ends L a b
  have x1 : ∀ h, ixD (L.map dN) (a : Int) h = .ok (dN (L.getD a 0)) h := fun h => ixD_N ha
  have x2 : ∀ h, ixD (L.map dN) (b : Int) h = .ok (dN (L.getD b 0)) h := fun h => ixD_N hb
  simp only [dN] at x1 x2
  by_cases c : lo = up
  · rw [mrg_same (m3' c)]
    refine ⟨r, [], ?_, by simpa using hr⟩
    have e : c__law_merged [.ref r, dN a, dN b] h = gc h (.ok (.ref r) h) := by
      unfold c__law_merged fsem
      simp [m__law_merged, hr, x1, x2, m1, m2, c, -List.getD_eq_getElem?_getD]
    rw [e, gc_old (List.getElem?_eq_some_iff.mp hr).1, List.append_nil]
  · have l0 : lc__law_merged_1 [some (.ref r), some (dN a), some (dN b), some (dN lo), some (dN up), none] h = .ok (.ref h.length) (h ++ [.lst ((mrg L a b).map dN)]) := by
      unfold lc__law_merged_1
      rw [eLc_pureL (φ := dN) (r := r) L (fun _ => true) (fun c => dN (if c = up then lo else c)) (h1 := h) (by have := iVal_ref (m := eVar 0) (e := [some (.ref r), some (dN a), some (dN b), some (dN lo), some (dN up), none]) (h := h) (h1 := h) (r := r) (ds := L.map dN) (by simp) hr; simpa using this) hr (by rw [sizeLine_eq]; omega) (fun _ _ => rfl)]
      · rw [m4, List.map_map, List.filter_eq_self.mpr (by simp)]; rfl
      · intro x hx
        by_cases q : x = up
        · simp [wipeE, q]
        · simp [wipeE, q]
    simp only [dN] at l0
    refine ⟨h.length, [.lst ((mrg L a b).map dN)], ?_, by simp⟩
    have e : c__law_merged [.ref r, dN a, dN b] h = gc h (.ok (.ref (h.length + 0)) (h ++ [.lst ((mrg L a b).map dN)])) := by
      unfold c__law_merged fsem
      simp [m__law_merged, hr, x1, x2, m1, m2, c, l0, -List.getD_eq_getElem?_getD]
    rw [e, gc_new (i := 0) rfl (by simp)]
end Law

set_option maxHeartbeats 1000000
namespace Law
open PySem Rf L2
/-- perms and pairs that fit n points -/
structure Inp (n : Nat) (ps : List (List Nat)) (prs : List (Nat × Nat)) : Prop where
  n1 : 1 ≤ n
  n2 : n ≤ 100
  pm : ∀ p ∈ ps, IsP n p
  pr : ∀ x ∈ prs, x.1 < n ∧ x.2 < n
  pl : ps.length ≤ 100
  rl : prs.length ≤ 1000
theorem range_D {n i : Nat} (hi : i < n) : (List.range n).getD i 0 = i := by simp [hi]
theorem range_canon (n : Nat) : Canon (List.range n) := fun i hi => by
  rw [List.length_range] at hi
  rw [range_D hi, range_D hi]; exact ⟨Nat.le_refl _, rfl⟩
theorem range_eq {n : Nat} {f : Nat → Nat} {i j : Nat} (hi : i < n) (hj : j < n) (h : (List.range n).getD i 0 = (List.range n).getD j 0) : f i = f j := by
  rw [range_D hi, range_D hj] at h; rw [h]
structure LB (n : Nat) (ps : List (List Nat)) (prs line : List (Nat × Nat)) (L : List Nat) (at_ m : Nat) : Prop where
  len : L.length = n
  can : Canon L
  le : at_ ≤ line.length
  lt : ∀ x ∈ line, x.1 < n ∧ x.2 < n
  sub : ∀ x ∈ prs, x ∈ line
  done : ∀ t, t < at_ → L.getD (line.getD t (0, 0)).1 0 = L.getD (line.getD t (0, 0)).2 0
  fl : ∀ f, Good n ps prs f → ∀ x ∈ line, f x.1 = f x.2
  fr : ∀ f, Good n ps prs f → ∀ i j, i < n → j < n → L.getD i 0 = L.getD j 0 → f i = f j
  cl : ∀ g : Nat → Nat, (∀ x ∈ line, g x.1 = g x.2) → ∀ p ∈ ps, ∀ i j, i < n → j < n → L.getD i 0 = L.getD j 0 → g (p.getD i 0) = g (p.getD j 0)
  sz : line.length + cnt L * ps.length ≤ prs.length + n * ps.length
  ms : m = (line.length - at_) + cnt L * (ps.length + 1)
theorem LB.fin {n m : Nat} {ps : List (List Nat)} {prs line : List (Nat × Nat)} {L : List Nat} (B : LB n ps prs line L line.length m) : Least n ps prs L := by
  have all : ∀ x ∈ line, L.getD x.1 0 = L.getD x.2 0 := fun x hx => by
    obtain ⟨t, ht, e⟩ := mem_getD (d := ((0, 0) : Nat × Nat)) hx
    rw [← e]; exact B.done t ht
  exact ⟨B.len, B.can, ⟨fun x hx => all x (B.sub x hx), fun p hp i j hi hj e => B.cl (fun i => L.getD i 0) all p hp i j hi hj e⟩, B.fr⟩
theorem least_blocks_spec {n : Nat} {ps : List (List Nat)} {prs : List (Nat × Nat)} (I : Inp n ps prs) {h : AH} :
    ∃ L, c_least_blocks [.tup (ps.map dC), dN n, .tup (prs.map dP)] h = .ok (.tup (L.map dN)) h ∧ Least n ps prs L := by
  have n1 := I.n1
  have n2 := I.n2
  have hsz : n * ps.length ≤ 100 * 100 := Nat.mul_le_mul I.n2 I.pl
  obtain ⟨e', h', w, line, L, x6, x7, x8, m, rfl, rfl, B⟩ := while_ix (c := wc_least_blocks_1) (b := lb_least_blocks_1)
    (fun m e h' => ∃ line L at_ x6 x7 x8, e = [some (.tup (ps.map dC)), some (dN n), some (.tup (prs.map dP)), some (.tup (L.map dN)), some (.ref h.length), some (dN at_), x6, x7, x8] ∧ h' = h ++ [.lst (line.map dP)] ∧ LB n ps prs line L at_ m)
    (fun e h' => ∃ line L x6 x7 x8 m, e = [some (.tup (ps.map dC)), some (dN n), some (.tup (prs.map dP)), some (.tup (L.map dN)), some (.ref h.length), some (dN line.length), x6, x7, x8] ∧ h' = h ++ [.lst (line.map dP)] ∧ LB n ps prs line L line.length m)
    (by
      rintro m e h' ⟨line, L, at_, x6, x7, x8, rfl, rfl, B⟩
      by_cases c : at_ = line.length
      · subst c
        exact .inl ⟨_, by simp [wc_least_blocks_1], line, L, x6, x7, x8, m, rfl, rfl, B⟩
      · have le := B.le
        have c2 : at_ < line.length := by omega
        refine .inr ⟨_, by simp [wc_least_blocks_1, c2]; rfl, ?_⟩
        obtain ⟨⟨a, b⟩, hx⟩ : ∃ y, line.getD at_ (0, 0) = y := ⟨_, rfl⟩
        have hm : (a, b) ∈ line := by rw [← hx]; exact getD_mem c2
        obtain ⟨ha, hb⟩ := B.lt _ hm
        simp only at ha hb
        have x1 : ∀ h, ixD (line.map dP) (at_ : Int) h = .ok (dP (a, b)) h := fun h => by rw [← hx]; exact ixD_map (getD_some c2)
        have x2 : ∀ h, ixD (L.map dN) (a : Int) h = .ok (dN (L.getD a 0)) h := fun h => ixD_N (by rw [B.len]; exact ha)
        have x3 : ∀ h, ixD (L.map dN) (b : Int) h = .ok (dN (L.getD b 0)) h := fun h => ixD_N (by rw [B.len]; exact hb)
        simp only [dN] at x2 x3
        by_cases q : L.getD a 0 = L.getD b 0
        · refine ⟨[some (.tup (ps.map dC)), some (dN n), some (.tup (prs.map dP)), some (.tup (L.map dN)), some (.ref h.length), some (dN (at_ + 1)), some (dN a), some (dN b), x8], h ++ [.lst (line.map dP)], by simp [lb_least_blocks_1, x1, x2, x3, dP, q, -List.getD_eq_getElem?_getD], m - 1, ?_, line, L, at_ + 1, some (dN a), some (dN b), x8, rfl, rfl, ⟨B.len, B.can, by omega, B.lt, B.sub, fun t ht => ?_, B.fl, B.fr, B.cl, B.sz, ?_⟩⟩
          · have := B.ms; omega
          · by_cases t2 : t = at_
            · subst t2; rw [hx]; exact q
            · exact B.done t (by omega)
          · have := B.ms; omega
        · have lL := B.len
          have Q : LB n ps prs (line ++ ps.map fun p => (p.getD a 0, p.getD b 0)) (mrg L a b) (at_ + 1) ((line.length + ps.length - (at_ + 1)) + cnt (mrg L a b) * (ps.length + 1)) := by
            have cc := mrg_cnt B.can (by omega) (by omega) q
            have cm : (cnt (mrg L a b) + 1) * ps.length ≤ cnt L * ps.length := Nat.mul_le_mul_right _ cc
            rw [Nat.add_mul, Nat.one_mul] at cm
            have sz := B.sz
            have hab : ∀ f, Good n ps prs f → f a = f b := fun f G => B.fl f G _ hm
            have mk : ∀ x ∈ line ++ ps.map (fun p => (p.getD a 0, p.getD b 0)), x ∈ line ∨ ∃ p ∈ ps, x = (p.getD a 0, p.getD b 0) := fun x hx => by
              rcases List.mem_append.mp hx with h | h
              · exact .inl h
              · obtain ⟨p, hp, rfl⟩ := List.mem_map.mp h
                exact .inr ⟨p, hp, rfl⟩
            refine ⟨by rw [mrg_len, lL], mrg_canon B.can (by omega) (by omega), by simp; omega, fun x hx => ?_, fun x hx => List.mem_append_left _ (B.sub x hx), fun t ht => ?_, fun f G x hx => ?_, fun f G i j hi hj e => ?_, fun g hg p hp i j hi hj e => ?_, by rw [List.length_append, List.length_map]; omega, by rw [List.length_append, List.length_map]⟩
            · rcases mk x hx with h | ⟨p, hp, rfl⟩
              · exact B.lt x h
              · exact ⟨(I.pm p hp).lt a ha, (I.pm p hp).lt b hb⟩
            · have tl : t < line.length := by omega
              have e0 : (line ++ ps.map fun p => (p.getD a 0, p.getD b 0)).getD t (0, 0) = line.getD t (0, 0) := by
                rw [List.getD_eq_getElem?_getD, List.getD_eq_getElem?_getD, List.getElem?_append_left tl]
              rw [e0]
              by_cases t2 : t = at_
              · subst t2; rw [hx]; exact mrg_do (by omega) (by omega)
              · have lt := B.lt _ (getD_mem (d := ((0, 0) : Nat × Nat)) tl)
                exact mrg_keep (by omega) (by omega) (B.done t (by omega))
            · rcases mk x hx with h | ⟨p, hp, rfl⟩
              · exact B.fl f G x h
              · exact G.cl p hp a b ha hb (hab f G)
            · rcases mrg_eq (by omega) (by omega) e with h | ⟨h1, h2⟩ | ⟨h1, h2⟩
              · exact B.fr f G i j hi hj h
              · rw [B.fr f G i a hi ha h1, hab f G, ← B.fr f G j b hj hb h2]
              · rw [B.fr f G i b hi hb h1, ← hab f G, ← B.fr f G j a hj ha h2]
            · have gl : ∀ x ∈ line, g x.1 = g x.2 := fun x hx => hg x (List.mem_append_left _ hx)
              have gp : g (p.getD a 0) = g (p.getD b 0) := hg (p.getD a 0, p.getD b 0) (List.mem_append_right _ (List.mem_map.mpr ⟨p, hp, rfl⟩))
              rcases mrg_eq (by omega) (by omega) e with h | ⟨h1, h2⟩ | ⟨h1, h2⟩
              · exact B.cl g gl p hp i j hi hj h
              · rw [B.cl g gl p hp i a hi ha h1, gp, ← B.cl g gl p hp j b hj hb h2]
              · rw [B.cl g gl p hp i b hi hb h1, ← gp, ← B.cl g gl p hp j a hj ha h2]
          have me := merged_spec (L := L) (a := a) (b := b) (by omega) (by omega) (by omega) (h := h ++ [.lst (line.map dP)])
          generalize hL2 : mrg L a b = L2 at Q me
          obtain ⟨e', h', w, y8, rfl, rfl⟩ := loopM (k := 8) (φ := dC) (b := lb_least_blocks_2)
            (fun i e h' => ∃ y8, e = [some (.tup (ps.map dC)), some (dN n), some (.tup (prs.map dP)), some (.tup (L2.map dN)), some (.ref h.length), some (dN (at_ + 1)), some (dN a), some (dN b), y8] ∧ h' = h ++ [.lst ((line ++ (ps.take i).map fun p => (p.getD a 0, p.getD b 0)).map dP)])
            ps (e := [some (.tup (ps.map dC)), some (dN n), some (.tup (prs.map dP)), some (.tup (L2.map dN)), some (.ref h.length), some (dN (at_ + 1)), some (dN a), some (dN b), x8]) (h := h ++ [.lst (line.map dP)])
            ⟨x8, rfl, by simp⟩ (by
              rintro i p e h' hp ⟨y8, rfl, rfl⟩
              have hpm : p ∈ ps := List.mem_of_getElem? hp
              have P := I.pm p hpm
              have hil := (List.getElem?_eq_some_iff.mp hp).1
              have z1 : ∀ h, ixD (p.map dN) (a : Int) h = .ok (dN (p.getD a 0)) h := fun h => ixD_N (by rw [P.len]; exact ha)
              have z2 : ∀ h, ixD (p.map dN) (b : Int) h = .ok (dN (p.getD b 0)) h := fun h => ixD_N (by rw [P.len]; exact hb)
              have tk : ps.take (i + 1) = ps.take i ++ [p] := by rw [List.take_add_one, hp]; rfl
              refine ⟨_, _, ?_, some (dC p), rfl, rfl⟩
              have sz := B.sz
              have ap : ∀ r v h, appO (some (.lst ((line ++ (ps.take i).map fun p => (p.getD a 0, p.getD b 0)).map dP))) r v h = .ok .non (h.set r (.lst ((line ++ (ps.take i).map fun p => (p.getD a 0, p.getD b 0)).map dP ++ [v]))) := fun r v h => appO_lst (by rw [List.length_map, List.length_append, List.length_map, List.length_take, sizeLine_eq]; have := I.rl; have := I.pl; omega)
              have tk2 : line ++ (ps.take (i + 1)).map (fun p => (p.getD a 0, p.getD b 0)) = (line ++ (ps.take i).map fun p => (p.getD a 0, p.getD b 0)) ++ [(p.getD a 0, p.getD b 0)] := by rw [tk]; simp
              rw [tk2]
              generalize line ++ (ps.take i).map (fun p => (p.getD a 0, p.getD b 0)) = ln at ap
              simp only [dN] at z1 z2
              simp [lb_least_blocks_2, dC, z1, z2, ap, dP, -List.getD_eq_getElem?_getD])
          rw [List.take_length] at w
          refine ⟨_, _, ?_, _, ?_, _, L2, at_ + 1, some (dN a), some (dN b), y8, rfl, rfl, Q⟩
          · have q' : ¬ ((L.getD a 0 : Nat) : Int) = ((L.getD b 0 : Nat) : Int) := by omega
            simp only [dN] at me
            simp [lb_least_blocks_1, x1, x2, x3, dP, q, me, -List.getD_eq_getElem?_getD]
            simp only [dN, List.length_append, List.length_map] at w
            simpa [dN, -List.getD_eq_getElem?_getD] using w
          · have cc := mrg_cnt B.can (by omega) (by omega) q
            rw [hL2] at cc
            have cm : (cnt L2 + 1) * (ps.length + 1) ≤ cnt L * (ps.length + 1) := Nat.mul_le_mul_right _ cc
            rw [Nat.add_mul, Nat.one_mul] at cm
            have := B.ms
            omega)
    (prs.length + cnt (List.range n) * (ps.length + 1)) [some (.tup (ps.map dC)), some (dN n), some (.tup (prs.map dP)), some (.tup ((List.range n).map dN)), some (.ref h.length), some (dN 0), none, none, none] (h ++ [.lst (prs.map dP)])
    ⟨prs, List.range n, 0, none, none, none, rfl, rfl, ⟨by simp, range_canon n, by omega, I.pr, fun _ h => h, fun t ht => absurd ht (by omega), fun f G => G.pr, fun f G i j hi hj e => range_eq hi hj e, fun g hg p hp i j hi hj e => by
      rw [range_D hi, range_D hj] at e; rw [e], by have := cnt_le (L := List.range n); rw [List.length_range] at this; have := Nat.mul_le_mul_right ps.length this; omega, by omega⟩⟩
  refine ⟨L, ?_, B.fin⟩
  have r1 : RgOk 0 (n : Int) := rgOk_nat (by omega)
  have a1 : c_alone [dN n] h = .ok (.tup ((List.range n).map dN)) h := by
    have e : c_alone [dN n] h = gc h (.ok (.tup ((List.range n).map dN)) h) := by
      unfold c_alone fsem
      simp [m_alone, r1, rg_zero]
    rw [e, gc_same (by simp)]
  have e : c_least_blocks [.tup (ps.map dC), dN n, .tup (prs.map dP)] h = gc h (.ok (.tup (L.map dN)) (h ++ [.lst (line.map dP)])) := by
    unfold c_least_blocks fsem
    simp only [dN] at a1
    have d0 : D.int ((0 : Nat) : Int) = D.int 0 := rfl
    simp only [dN, d0] at w
    simp [m_least_blocks, a1, w]
  rw [e, gc_app (by simp)]
end Law

set_option maxHeartbeats 1000000
namespace Law
open PySem Rf L2
/-- a walk that may be broken off -/
theorem loop_brk {g : GM} {b : SM} (P : Nat → AE → AH → Prop) (B : AE → AH → Prop) : ∀ (ds : List D) (k : Nat) (e : AE) (h : AH), P k e h →
    (∀ (i : Nat) (d : D) (e : AE) (h : AH), ds[i]? = some d → P (k + i) e h → (∃ e' h', (onlyNx (g d e h)).then b = .nx e' h' ∧ P (k + i + 1) e' h') ∨ ∃ e' h', (onlyNx (g d e h)).then b = .bk e' h' ∧ B e' h') →
    ∃ e' h', sLoop g b ds e h = .nx e' h' ∧ (P (k + ds.length) e' h' ∨ B e' h')
  | [], k, e, h, p, _ => ⟨e, h, rfl, .inl p⟩
  | d :: ds, k, e, h, p, st => by
    rcases st 0 d e h rfl p with ⟨e1, h1, q, p1⟩ | ⟨e1, h1, q, r⟩
    · obtain ⟨e2, h2, q2, p2⟩ := loop_brk P B ds (k + 1) e1 h1 p1 fun i d' e' h' hd hp => by
          have hp' : P (k + (i + 1)) e' h' := by rwa [show k + (i + 1) = k + 1 + i by omega]
          rcases st (i + 1) d' e' h' (by simpa using hd) hp' with ⟨e3, h3, a, c⟩ | z
          · exact .inl ⟨e3, h3, a, by rwa [show k + 1 + i + 1 = k + (i + 1) + 1 by omega]⟩
          · exact .inr z
      refine ⟨e2, h2, ?_, ?_⟩
      · unfold sLoop
        rw [q]
        exact q2
      · rw [List.length_cons, show k + (ds.length + 1) = k + 1 + ds.length by omega]; exact p2
    · refine ⟨e1, h1, ?_, .inr r⟩
      unfold sLoop
      rw [q]
      rfl
theorem loopN_brk {k : Nat} {b : SM} (P : Nat → AE → AH → Prop) (B : AE → AH → Prop) (n : Nat) {e : AE} {h : AH} (p : P 0 e h)
    (st : ∀ (i : Nat) (e : AE) (h : AH), i < n → P i e h → (∃ e' h', b (e.set k (some (dN i))) h = .nx e' h' ∧ P (i + 1) e' h') ∨ ∃ e' h', b (e.set k (some (dN i))) h = .bk e' h' ∧ B e' h') : ∃ e' h', sLoop (gVar k) b ((List.range n).map dN) e h = .nx e' h' ∧ (P n e' h' ∨ B e' h') := by
  have := loop_brk (g := gVar k) (b := b) P B ((List.range n).map dN) 0 e h p fun i d e h hd hp => by
    rw [List.getElem?_map] at hd
    by_cases hi : i < n
    · rw [List.getElem?_range hi] at hd
      cases hd
      rw [Nat.zero_add] at hp
      rcases st i e h hi hp with ⟨e', h', q, p'⟩ | z
      · exact .inl ⟨e', h', q, by rwa [Nat.zero_add]⟩
      · exact .inr z
    · rw [List.getElem?_eq_none (by simp; omega)] at hd; cases hd
  simpa using this
structure CL (n : Nat) (ps : List (List Nat)) (prs : List (Nat × Nat)) (L : List Nat) : Prop where
  len : L.length = n
  can : Canon L
  fr : ∀ f, Good n ps prs f → ∀ i j, i < n → j < n → L.getD i 0 = L.getD j 0 → f i = f j
theorem CL.merge {n : Nat} {ps : List (List Nat)} {prs : List (Nat × Nat)} {L : List Nat} (C : CL n ps prs L) {a b : Nat} (ha : a < n) (hb : b < n) (h : ∀ f, Good n ps prs f → f a = f b) : CL n ps prs (mrg L a b) := by
  have lL := C.len
  refine ⟨by rw [mrg_len, lL], mrg_canon C.can (by omega) (by omega), fun f G i j hi hj e => ?_⟩
  rcases mrg_eq (by omega) (by omega) e with q | ⟨h1, h2⟩ | ⟨h1, h2⟩
  · exact C.fr f G i j hi hj q
  · rw [C.fr f G i a hi ha h1, h f G, ← C.fr f G j b hj hb h2]
  · rw [C.fr f G i b hi hb h1, ← h f G, ← C.fr f G j a hj ha h2]
/-- all the pairs so far are one -/
def PS (prs : List (Nat × Nat)) (L : List Nat) : Prop := ∀ x ∈ prs, L.getD x.1 0 = L.getD x.2 0
theorem PS.merge {prs : List (Nat × Nat)} {L : List Nat} (h : PS prs L) (hl : ∀ x ∈ prs, x.1 < L.length ∧ x.2 < L.length) {a b : Nat} : PS prs (mrg L a b) := fun x hx => mrg_keep (hl x hx).1 (hl x hx).2 (h x hx)
/-- the perm p does well at k -/
def Ok1 (K p : List Nat) (k : Nat) : Prop := K.getD (p.getD k 0) 0 = K.getD (p.getD (K.getD k 0) 0) 0
theorem Least.of {n : Nat} {ps : List (List Nat)} {prs : List (Nat × Nat)} {L : List Nat} (C : CL n ps prs L) (h1 : PS prs L) (h2 : ∀ p ∈ ps, ∀ k, k < n → Ok1 L p k) : Least n ps prs L :=
  ⟨C.len, C.can, ⟨h1, fun p hp i j hi hj e => by
    have a := h2 p hp i hi
    have b := h2 p hp j hj
    unfold Ok1 at a b
    have e' : L.getD i 0 = L.getD j 0 := e
    show L.getD (p.getD i 0) 0 = L.getD (p.getD j 0) 0
    rw [a, b, e']⟩, C.fr⟩
/-- within a pass that began with K -/
structure PA (n : Nat) (ps : List (List Nat)) (prs : List (Nat × Nat)) (K L : List Nat) (dn : Prop) : Prop where
  cl : CL n ps prs L
  pr : PS prs L
  or : (L = K ∧ dn) ∨ cnt L < cnt K
theorem PA.step {n : Nat} {ps : List (List Nat)} {prs : List (Nat × Nat)} {K L p : List Nat} {dn dn' : Prop} (I : Inp n ps prs) (A : PA n ps prs K L dn) (hp : p ∈ ps) {k : Nat} (hk : k < n) (hd : dn → Ok1 K p k → dn') : PA n ps prs K (mrg L (p.getD k 0) (p.getD (L.getD k 0) 0)) dn' := by
  have lL := A.cl.len
  have ck := A.cl.can k (by omega)
  have P := I.pm p hp
  have h1 := P.lt k hk
  have h2 := P.lt (L.getD k 0) (by omega)
  refine ⟨A.cl.merge h1 h2 fun f G => G.cl p hp _ _ hk (by omega) (A.cl.fr f G _ _ hk (by omega) ck.2.symm), A.pr.merge fun x hx => by rw [lL]; exact I.pr x hx, ?_⟩
  by_cases q : L.getD (p.getD k 0) 0 = L.getD (p.getD (L.getD k 0) 0) 0
  · rw [mrg_same q]
    rcases A.or with ⟨rfl, d⟩ | z
    · exact .inl ⟨rfl, hd d q⟩
    · exact .inr z
  · have := mrg_cnt A.cl.can (by omega) (by omega) q
    rcases A.or with ⟨rfl, d⟩ | z
    · exact .inr (by omega)
    · exact .inr (by omega)
theorem closure_spec {n : Nat} {ps : List (List Nat)} {prs : List (Nat × Nat)} (I : Inp n ps prs) {h : AH} :
    ∃ L, c__law_closure [.tup (ps.map dC), dN n, .tup (prs.map dP)] h = .ok (.tup (L.map dN)) h ∧ Least n ps prs L := by
  have n1 := I.n1
  have n2 := I.n2
  have rB : RgB (n : Int) := rgB_nat (by omega)
  -- the pairs
  obtain ⟨e1, h1, w1, x4, r1, g1, L1, rfl, rfl, hr1, C1, S1⟩ := loopM (k := 4) (φ := dP) (b := lb__law_closure_1)
    (fun i e h' => ∃ x4 r g L, e = [some (.tup (ps.map dC)), some (dN n), some (.tup (prs.map dP)), some (.ref r), x4, none, none, none, none] ∧ h' = h ++ g ∧ (h ++ g)[r]? = some (.lst (L.map dN)) ∧ CL n ps prs L ∧ PS (prs.take i) L)
    prs (e := [some (.tup (ps.map dC)), some (dN n), some (.tup (prs.map dP)), some (.ref h.length), none, none, none, none, none]) (h := h ++ [.lst ((List.range n).map dN)])
    ⟨none, h.length, [.lst ((List.range n).map dN)], List.range n, rfl, rfl, by simp, ⟨by simp, range_canon n, fun f G i j hi hj e => range_eq hi hj e⟩, fun x hx => absurd hx (by simp)⟩ (by
      rintro i x e h' hx ⟨x4, r, g, L, rfl, rfl, hr, C, S⟩
      have hm : x ∈ prs := List.mem_of_getElem? hx
      obtain ⟨l1, l2⟩ := I.pr x hm
      have lL := C.len
      obtain ⟨r', g', em, hr'⟩ := mergedL_spec (L := L) (a := x.1) (b := x.2) (by omega) (by omega) (by omega) hr
      refine ⟨_, _, ?_, some (dP x), r', g ++ g', mrg L x.1 x.2, rfl, rfl, by rw [← List.append_assoc]; exact hr', C.merge l1 l2 fun f G => G.pr x hm, ?_⟩
      · simp only [dN] at em
        simp [lb__law_closure_1, dP, em]
      · have tk : prs.take (i + 1) = prs.take i ++ [x] := by rw [List.take_add_one, hx]; rfl
        rw [tk]
        intro y hy
        rcases List.mem_append.mp hy with hy | hy
        · exact S.merge (fun z hz => by have := I.pr z (List.mem_of_mem_take hz); omega) y hy
        · rw [List.mem_singleton] at hy
          subst hy
          exact mrg_do (by omega) (by omega))
  rw [List.take_length] at S1
  obtain ⟨e2, h2, w2, z2⟩ := loopN_brk (k := 5) (b := lb__law_closure_2)
    (fun i e h' => ∃ x5 x6 x7 x8 r g L, e = [some (.tup (ps.map dC)), some (dN n), some (.tup (prs.map dP)), some (.ref r), x4, x5, x6, x7, x8] ∧ h' = h ++ g ∧ (h ++ g)[r]? = some (.lst (L.map dN)) ∧ CL n ps prs L ∧ PS prs L ∧ cnt L + i ≤ n)
    (fun e h' => ∃ x5 x6 x7 x8 r g L, e = [some (.tup (ps.map dC)), some (dN n), some (.tup (prs.map dP)), some (.ref r), x4, x5, x6, x7, x8] ∧ h' = h ++ g ∧ (h ++ g)[r]? = some (.lst (L.map dN)) ∧ Least n ps prs L)
    n (e := [some (.tup (ps.map dC)), some (dN n), some (.tup (prs.map dP)), some (.ref r1), x4, none, none, none, none]) (h := h ++ g1)
    ⟨none, none, none, none, r1, g1, L1, rfl, rfl, hr1, C1, S1, by have := cnt_le (L := L1); rw [C1.len] at this; omega⟩ (by
      rintro i e h' hi ⟨x5, x6, x7, x8, rK, gK, K, rfl, rfl, hrK, CK, SK, cK⟩
      -- over the perms
      obtain ⟨e3, h3, w3, x7', x8', r3, g3, L3, rfl, rfl, hr3, hK3, A3⟩ := loopM (k := 7) (φ := dC) (b := lb__law_closure_3)
        (fun j e h' => ∃ x7 x8 r g L, e = [some (.tup (ps.map dC)), some (dN n), some (.tup (prs.map dP)), some (.ref r), x4, some (dN i), some (.ref rK), x7, x8] ∧ h' = h ++ gK ++ g ∧ (h ++ gK ++ g)[r]? = some (.lst (L.map dN)) ∧ (h ++ gK ++ g)[rK]? = some (.lst (K.map dN)) ∧ PA n ps prs K L (∀ p ∈ ps.take j, ∀ k, k < n → Ok1 K p k))
        ps (e := [some (.tup (ps.map dC)), some (dN n), some (.tup (prs.map dP)), some (.ref rK), x4, some (dN i), some (.ref rK), x7, x8]) (h := h ++ gK)
        ⟨x7, x8, rK, [], K, rfl, by simp, by simpa using hrK, by simpa using hrK, CK, SK, .inl ⟨rfl, fun p hp => absurd hp (by simp)⟩⟩ (by
          rintro j p e h' hp ⟨x7, x8, r, g, L, rfl, rfl, hr, hK, A⟩
          have hpm : p ∈ ps := List.mem_of_getElem? hp
          have P := I.pm p hpm
          obtain ⟨e4, h4, w4, x8'', r4, g4, L4, rfl, rfl, hr4, hK4, A4⟩ := loopN (k := 8) (b := lb__law_closure_4)
            (fun k e h' => ∃ x8 r g L, e = [some (.tup (ps.map dC)), some (dN n), some (.tup (prs.map dP)), some (.ref r), x4, some (dN i), some (.ref rK), some (dC p), x8] ∧ h' = h ++ gK ++ g ∧ (h ++ gK ++ g)[r]? = some (.lst (L.map dN)) ∧ (h ++ gK ++ g)[rK]? = some (.lst (K.map dN)) ∧ PA n ps prs K L ((∀ p ∈ ps.take j, ∀ k, k < n → Ok1 K p k) ∧ ∀ k', k' < k → Ok1 K p k'))
            n (e := [some (.tup (ps.map dC)), some (dN n), some (.tup (prs.map dP)), some (.ref r), x4, some (dN i), some (.ref rK), some (dC p), x8]) (h := h ++ gK ++ g)
            ⟨x8, r, g, L, rfl, rfl, hr, hK, A.cl, A.pr, by
              rcases A.or with ⟨a, b⟩ | z
              · exact .inl ⟨a, b, fun k' hk' => absurd hk' (by omega)⟩
              · exact .inr z⟩ (by
              rintro k e h' hk ⟨x8, r, g, L, rfl, rfl, hr, hK, A⟩
              have lL := A.cl.len
              have ck := A.cl.can k (by omega)
              have h1 := P.lt k hk
              have h2 := P.lt (L.getD k 0) (by omega)
              obtain ⟨r', g', em, hr'⟩ := mergedL_spec (L := L) (a := p.getD k 0) (b := p.getD (L.getD k 0) 0) (by omega) (by omega) (by omega) hr
              refine ⟨_, _, ?_, some (dN k), r', g ++ g', mrg L (p.getD k 0) (p.getD (L.getD k 0) 0), rfl, rfl, by rw [← List.append_assoc]; exact hr', by rw [← List.append_assoc]; exact app_get_l hK, A.step I hpm hk fun d o => ⟨d.1, fun k' hk' => ?_⟩⟩
              · have z1 : ∀ h, ixD (p.map dN) (k : Int) h = .ok (dN (p.getD k 0)) h := fun h => ixD_N (by rw [P.len]; exact hk)
                have z2 : ∀ h, ixD (L.map dN) (k : Int) h = .ok (dN (L.getD k 0)) h := fun h => ixD_N (by omega)
                have z3 : ∀ h, ixD (p.map dN) ((L.getD k 0 : Nat) : Int) h = .ok (dN (p.getD (L.getD k 0) 0)) h := fun h => ixD_N (by rw [P.len]; omega)
                simp only [dN] at em z1 z2 z3
                rw [← List.append_assoc]
                generalize h ++ gK ++ g = H at hr em ⊢
                simp [lb__law_closure_4, dC, hr, z1, z2, z3, em, -List.getD_eq_getElem?_getD]
              · by_cases q : k' = k
                · subst q; exact o
                · exact d.2 k' (by omega))
          refine ⟨_, _, ?_, some (dC p), x8'', r4, g4, L4, rfl, rfl, hr4, hK4, A4.cl, A4.pr, ?_⟩
          · simp only [dN] at w4
            simp only [lb__law_closure_3]
            simp [rB, rg_zero]
            simpa [dN] using w4
          · rcases A4.or with ⟨a, b⟩ | z
            · refine .inl ⟨a, fun p' hp' => ?_⟩
              have tk : ps.take (j + 1) = ps.take j ++ [p] := by rw [List.take_add_one, hp]; rfl
              rw [tk] at hp'
              rcases List.mem_append.mp hp' with hp' | hp'
              · exact b.1 p' hp'
              · rw [List.mem_singleton] at hp'
                subst hp'
                exact b.2
            · exact .inr z)
      rw [List.take_length] at A3
      have eq := oEq_L hr3 hK3
      by_cases c : L3 = K
      · have hd : ∀ p ∈ ps, ∀ k, k < n → Ok1 K p k := by
          rcases A3.or with ⟨_, b⟩ | z
          · exact b
          · rw [c] at z; omega
        refine .inr ⟨_, _, ?_, some (dN i), some (.ref rK), x7', x8', r3, gK ++ g3, L3, rfl, rfl, by rw [← List.append_assoc]; exact hr3, ?_⟩
        · rw [decide_eq_true c] at eq
          rw [← List.append_assoc]
          generalize h ++ gK ++ g3 = H3 at eq w3 ⊢
          simp [lb__law_closure_2]
          simp [dN] at w3 eq
          simp [w3, eq]
        · subst c
          exact Least.of A3.cl A3.pr hd
      · have lt : cnt L3 < cnt K := by
          rcases A3.or with ⟨a, _⟩ | z
          · exact absurd a c
          · exact z
        refine .inl ⟨_, _, ?_, some (dN i), some (.ref rK), x7', x8', r3, gK ++ g3, L3, rfl, rfl, by rw [← List.append_assoc]; exact hr3, A3.cl, A3.pr, by omega⟩
        rw [decide_eq_false c] at eq
        rw [← List.append_assoc]
        generalize h ++ gK ++ g3 = H3 at eq w3 ⊢
        simp [lb__law_closure_2]
        simp [dN] at w3 eq
        simp [w3, eq])
  have z3 : ∃ x5 x6 x7 x8 r g L, e2 = [some (.tup (ps.map dC)), some (dN n), some (.tup (prs.map dP)), some (.ref r), x4, x5, x6, x7, x8] ∧ h2 = h ++ g ∧ (h ++ g)[r]? = some (.lst (L.map dN)) ∧ Least n ps prs L := by
    rcases z2 with ⟨x5, x6, x7, x8, r, g, L, rfl, rfl, hr, C, S, c⟩ | z
    · have := cnt_pos C.can (by rw [C.len]; exact n1)
      omega
    · exact z
  obtain ⟨x5, x6, x7, x8, r, g, L, rfl, rfl, hr, Q⟩ := z3
  refine ⟨L, ?_, Q⟩
  have r2 : RgOk 0 (n : Int) := rgOk_nat (by omega)
  have e : c__law_closure [.tup (ps.map dC), dN n, .tup (prs.map dP)] h = gc h (.ok (.tup (L.map dN)) (h ++ g)) := by
    unfold c__law_closure fsem
    simp [m__law_closure, r2, rB, rg_zero]
    simp only [dN] at w1 w2
    simp [w1, rB, rg_zero, w2, hr]
  rw [e, gc_app (by simp)]
end Law

set_option maxHeartbeats 1000000
namespace Law
open PySem Rf L2
@[simp] theorem ci_ii (i : Int) (h : AH) : cIsi [.int i, .ty "int"] h = .ok (.bl true) h := by rw [cIsi_int _ _ _ (by decide)]; rfl
@[simp] theorem ci_ib (i : Int) (h : AH) : cIsi [.int i, .ty "bool"] h = .ok (.bl false) h := by rw [cIsi_int _ _ _ (by decide)]; rfl
@[simp] theorem ci_tt (ds : List D) (h : AH) : cIsi [.tup ds, .ty "tuple"] h = .ok (.bl true) h := by rw [cIsi_tup _ _ _ (by decide)]; rfl
theorem whole_spec (i : Int) (h : AH) : c__law_is_whole [.int i] h = .ok (.bl true) h := by
  have e : c__law_is_whole [.int i] h = gc h (.ok (.bl true) h) := by
    unfold c__law_is_whole fsem
    simp [m__law_is_whole]
  rw [e, gc_same (by simp)]
theorem row_spec {L : List Nat} (hl : L.length ≤ 1000) {y : D} {h : AH} (hy1 : cLen [y] h = .ok (.int (L.length : Nat)) h) (hy2 : ∀ i, i < L.length → oIx y (.int (i : Nat)) h = .ok (dN (L.getD i 0)) h) :
    c__law_is_row [.tup (L.map dN), y] h = .ok (.bl true) h := by
  obtain ⟨e', h', w, x2, rfl, rfl⟩ := loopN (k := 2) (b := lb__law_is_row_1)
    (fun i e h' => ∃ x2, e = [some (.tup (L.map dN)), some y, x2] ∧ h = h')
    L.length (e := [some (.tup (L.map dN)), some y, none]) (h := h) ⟨none, rfl, rfl⟩ (by
      rintro i e h' hi ⟨x2, rfl, rfl⟩
      have x1 : ∀ h, ixD (L.map dN) (i : Int) h = .ok (dN (L.getD i 0)) h := fun h => ixD_N hi
      refine ⟨_, _, ?_, some (dN i), rfl, rfl⟩
      have y2 := hy2 i hi
      simp only [dN] at x1 y2
      simp [lb__law_is_row_1, x1, y2, whole_spec, -List.getD_eq_getElem?_getD])
  have r1 : RgB (L.length : Int) := rgB_nat (by omega)
  have e : c__law_is_row [.tup (L.map dN), y] h = gc h (.ok (.bl true) h) := by
    unfold c__law_is_row fsem
    try simp only [dN] at w
    simp [m__law_is_row, hy1, r1, rg_zero, w]
  rw [e, gc_same (by simp)]
theorem labels_spec {L : List Nat} (C : Canon L) {n : Nat} (hn : L.length = n) (hl : n ≤ 1000) {h : AH} : c__law_is_labels [.tup (L.map dN), dN n] h = .ok (.bl true) h := by
  obtain ⟨e', h', w, x2, rfl, rfl⟩ := loopN (k := 2) (b := lb__law_is_labels_1)
    (fun i e h' => ∃ x2, e = [some (.tup (L.map dN)), some (dN n), x2] ∧ h = h')
    n (e := [some (.tup (L.map dN)), some (dN n), none]) (h := h) ⟨none, rfl, rfl⟩ (by
      rintro i e h' hi ⟨x2, rfl, rfl⟩
      have c := C i (by omega)
      have x1 : ∀ h, ixD (L.map dN) (i : Int) h = .ok (dN (L.getD i 0)) h := fun h => ixD_N (by omega)
      have x2 : ∀ h, ixD (L.map dN) ((L.getD i 0 : Nat) : Int) h = .ok (dN (L.getD i 0)) h := fun h => by rw [ixD_N (by omega), c.2]
      refine ⟨_, _, ?_, some (dN i), rfl, rfl⟩
      have c1 := c.1
      generalize L.getD i 0 = v at x1 x2 c1
      have y1 : ¬ (v : Int) < 0 := by omega
      have y2 : ¬ (i : Int) < (v : Int) := by omega
      simp only [dN] at x1 x2
      simp [lb__law_is_labels_1, x1, x2, whole_spec, y1, y2])
  have r1 : RgB (n : Int) := rgB_nat (by omega)
  have e : c__law_is_labels [.tup (L.map dN), dN n] h = gc h (.ok (.bl true) h) := by
    unfold c__law_is_labels fsem
    try simp only [dN] at w
    simp [m__law_is_labels, hn, r1, rg_zero, w]
  rw [e, gc_same (by simp)]
def HO (n : Nat) (ps : List (List Nat)) (prs : List (Nat × Nat)) (L : List Nat) : Prop := PS prs L ∧ ∀ p ∈ ps, ∀ k, k < n → Ok1 L p k
theorem HO.good {n : Nat} {ps : List (List Nat)} {prs : List (Nat × Nat)} {L : List Nat} (H : HO n ps prs L) : Good n ps prs (fun i => L.getD i 0) :=
  ⟨H.1, fun p hp i j hi hj e => by
    have a := H.2 p hp i hi
    have b := H.2 p hp j hj
    unfold Ok1 at a b
    have e' : L.getD i 0 = L.getD j 0 := e
    show L.getD (p.getD i 0) 0 = L.getD (p.getD j 0) 0
    rw [a, b, e']⟩
theorem Least.ho {n : Nat} {ps : List (List Nat)} {prs : List (Nat × Nat)} {L : List Nat} (A : Least n ps prs L) : HO n ps prs L :=
  ⟨A.good.pr, fun p hp k hk => by
    have c := A.can k (by rw [A.len]; exact hk)
    exact A.good.cl p hp k (L.getD k 0) hk (by omega) c.2.symm⟩
theorem holds_spec {n : Nat} {ps : List (List Nat)} {prs : List (Nat × Nat)} (I : Inp n ps prs) {L : List Nat} (C : Canon L) (hn : L.length = n) {h : AH} :
    ∃ b, c__law_holds [.tup (L.map dN), .tup (ps.map dC), .tup (prs.map dP)] h = .ok (.bl b) h ∧ (b = true → HO n ps prs L) ∧ (HO n ps prs L → b = true) := by
  have n2 := I.n2
  have rB : RgB (n : Int) := rgB_nat (by omega)
  have z := loopM_ret (k := 3) (φ := dP) (b := lb__law_holds_1)
    (fun i e h' => ∃ x3, e = [some (.tup (L.map dN)), some (.tup (ps.map dC)), some (.tup (prs.map dP)), x3, none, none] ∧ h = h' ∧ PS (prs.take i) L)
    (fun d h' => d = .bl false ∧ h = h' ∧ ¬ HO n ps prs L)
    prs (e := [some (.tup (L.map dN)), some (.tup (ps.map dC)), some (.tup (prs.map dP)), none, none, none]) (h := h) ⟨none, rfl, rfl, fun x hx => absurd hx (by simp)⟩ (by
      rintro i x e h' hx ⟨x3, rfl, rfl, S⟩
      have hm : x ∈ prs := List.mem_of_getElem? hx
      obtain ⟨l1, l2⟩ := I.pr x hm
      have x1 : ∀ h, ixD (L.map dN) (x.1 : Int) h = .ok (dN (L.getD x.1 0)) h := fun h => ixD_N (by omega)
      have x2 : ∀ h, ixD (L.map dN) (x.2 : Int) h = .ok (dN (L.getD x.2 0)) h := fun h => ixD_N (by omega)
      simp only [dN] at x1 x2
      by_cases q : L.getD x.1 0 = L.getD x.2 0
      · refine .inl ⟨_, _, ?_, some (dP x), rfl, rfl, ?_⟩
        · simp [lb__law_holds_1, dP, x1, x2, q, -List.getD_eq_getElem?_getD]
        · have tk : prs.take (i + 1) = prs.take i ++ [x] := by rw [List.take_add_one, hx]; rfl
          rw [tk]
          intro y hy
          rcases List.mem_append.mp hy with hy | hy
          · exact S y hy
          · rw [List.mem_singleton] at hy
            subst hy
            exact q
      · refine .inr ⟨_, _, ?_, rfl, rfl, fun H => q (H.1 x hm)⟩
        simp [lb__law_holds_1, dP, x1, x2, q, -List.getD_eq_getElem?_getD])
  rw [List.take_length] at z
  have gcb : ∀ b, gc h (.ok (.bl b) h) = .ok (.bl b) h := fun b => gc_same (by simp)
  rcases z with ⟨e', h', w, x3, rfl, rfl, S⟩ | ⟨d, h', w, rfl, rfl, N⟩
  · have z := loopM_ret (k := 4) (φ := dC) (b := lb__law_holds_2)
      (fun i e h' => ∃ x4 x5, e = [some (.tup (L.map dN)), some (.tup (ps.map dC)), some (.tup (prs.map dP)), x3, x4, x5] ∧ h = h' ∧ ∀ p ∈ ps.take i, ∀ k, k < n → Ok1 L p k)
      (fun d h' => d = .bl false ∧ h = h' ∧ ¬ HO n ps prs L)
      ps (e := [some (.tup (L.map dN)), some (.tup (ps.map dC)), some (.tup (prs.map dP)), x3, none, none]) (h := h) ⟨none, none, rfl, rfl, fun x hx => absurd hx (by simp)⟩ (by
        rintro j p e h' hp ⟨x4, x5, rfl, rfl, S2⟩
        have hpm : p ∈ ps := List.mem_of_getElem? hp
        have P := I.pm p hpm
        have z := loopN_ret (k := 5) (b := lb__law_holds_3)
          (fun k e h' => ∃ x5, e = [some (.tup (L.map dN)), some (.tup (ps.map dC)), some (.tup (prs.map dP)), x3, some (dC p), x5] ∧ h = h' ∧ ∀ k', k' < k → Ok1 L p k')
          (fun d h' => d = .bl false ∧ h = h' ∧ ¬ HO n ps prs L)
          n (e := [some (.tup (L.map dN)), some (.tup (ps.map dC)), some (.tup (prs.map dP)), x3, some (dC p), x5]) (h := h) ⟨x5, rfl, rfl, fun k' hk' => absurd hk' (by omega)⟩ (by
            rintro k e h' hk ⟨x5, rfl, rfl, S3⟩
            have ck := C k (by omega)
            have h1 := P.lt k hk
            have h2 := P.lt (L.getD k 0) (by omega)
            have z1 : ∀ h, ixD (p.map dN) (k : Int) h = .ok (dN (p.getD k 0)) h := fun h => ixD_N (by rw [P.len]; exact hk)
            have z2 : ∀ h, ixD (L.map dN) (k : Int) h = .ok (dN (L.getD k 0)) h := fun h => ixD_N (by omega)
            have z3 : ∀ h, ixD (p.map dN) ((L.getD k 0 : Nat) : Int) h = .ok (dN (p.getD (L.getD k 0) 0)) h := fun h => ixD_N (by rw [P.len]; omega)
            have z4 : ∀ h, ixD (L.map dN) ((p.getD k 0 : Nat) : Int) h = .ok (dN (L.getD (p.getD k 0) 0)) h := fun h => ixD_N (by omega)
            have z5 : ∀ h, ixD (L.map dN) ((p.getD (L.getD k 0) 0 : Nat) : Int) h = .ok (dN (L.getD (p.getD (L.getD k 0) 0) 0)) h := fun h => ixD_N (by omega)
            simp only [dN] at z1 z2 z3 z4 z5
            by_cases q : Ok1 L p k
            · refine .inl ⟨_, _, ?_, some (dN k), rfl, rfl, fun k' hk' => ?_⟩
              · have q' : L.getD (p.getD k 0) 0 = L.getD (p.getD (L.getD k 0) 0) 0 := q
                simp [lb__law_holds_3, dC, z1, z2, z3, z4, z5, q', -List.getD_eq_getElem?_getD]
              · by_cases y : k' = k
                · subst y; exact q
                · exact S3 k' (by omega)
            · refine .inr ⟨_, _, ?_, rfl, rfl, fun H => q (H.2 p hpm k hk)⟩
              have q' : ¬ L.getD (p.getD k 0) 0 = L.getD (p.getD (L.getD k 0) 0) 0 := q
              simp [lb__law_holds_3, dC, z1, z2, z3, z4, z5, q', -List.getD_eq_getElem?_getD])
        rcases z with ⟨e', h', w, x5, rfl, rfl, S3⟩ | ⟨d, h', w, rfl, rfl, N⟩
        · refine .inl ⟨_, _, ?_, some (dC p), x5, rfl, rfl, ?_⟩
          · skip
            simp [lb__law_holds_2, hn, rB, rg_zero, w]
          · have tk : ps.take (j + 1) = ps.take j ++ [p] := by rw [List.take_add_one, hp]; rfl
            rw [tk]
            intro y hy
            rcases List.mem_append.mp hy with hy | hy
            · exact S2 y hy
            · rw [List.mem_singleton] at hy
              subst hy
              exact S3
        · refine .inr ⟨_, _, ?_, rfl, rfl, N⟩
          try simp only [dN] at w
          simp [lb__law_holds_2, hn, rB, rg_zero, w])
    rw [List.take_length] at z
    rcases z with ⟨e', h', w2, x4, x5, rfl, rfl, S2⟩ | ⟨d, h', w2, rfl, rfl, N⟩
    · refine ⟨true, ?_, fun _ => ⟨S, S2⟩, fun _ => rfl⟩
      rw [← gcb]
      unfold c__law_holds fsem
      simp [m__law_holds, w, w2]
    · refine ⟨false, ?_, fun hc => (by cases hc), fun H => absurd H N⟩
      rw [← gcb]
      unfold c__law_holds fsem
      simp [m__law_holds, w, w2]
  · refine ⟨false, ?_, fun hc => (by cases hc), fun H => absurd H N⟩
    rw [← gcb]
    unfold c__law_holds fsem
    simp [m__law_holds, w]
end Law

set_option maxHeartbeats 1000000
/-! odd values; what a line of a reason says -/
namespace Law
open PySem Rf L2
@[simp] theorem ci_is (i : Int) (h : AH) : cIsi [.int i, .ty "str"] h = .ok (.bl false) h := by rw [cIsi_int _ _ _ (by decide)]; rfl
@[simp] theorem ci_it (i : Int) (h : AH) : cIsi [.int i, .ty "tuple"] h = .ok (.bl false) h := by rw [cIsi_int _ _ _ (by decide)]; rfl
@[simp] theorem ci_bi (i : Bool) (h : AH) : cIsi [.bl i, .ty "int"] h = .ok (.bl true) h := by rw [cIsi_bl _ _ _ (by decide)]; rfl
@[simp] theorem ci_bb (i : Bool) (h : AH) : cIsi [.bl i, .ty "bool"] h = .ok (.bl true) h := by rw [cIsi_bl _ _ _ (by decide)]; rfl
@[simp] theorem ci_bs (i : Bool) (h : AH) : cIsi [.bl i, .ty "str"] h = .ok (.bl false) h := by rw [cIsi_bl _ _ _ (by decide)]; rfl
@[simp] theorem ci_bt (i : Bool) (h : AH) : cIsi [.bl i, .ty "tuple"] h = .ok (.bl false) h := by rw [cIsi_bl _ _ _ (by decide)]; rfl
@[simp] theorem ci_si (i : Str) (h : AH) : cIsi [.str i, .ty "int"] h = .ok (.bl false) h := by rw [cIsi_str _ _ _ (by decide)]; rfl
@[simp] theorem ci_ss (i : Str) (h : AH) : cIsi [.str i, .ty "str"] h = .ok (.bl true) h := by rw [cIsi_str _ _ _ (by decide)]; rfl
@[simp] theorem ci_st (i : Str) (h : AH) : cIsi [.str i, .ty "tuple"] h = .ok (.bl false) h := by rw [cIsi_str _ _ _ (by decide)]; rfl
@[simp] theorem ci_ni (h : AH) : cIsi [.non, .ty "int"] h = .ok (.bl false) h := by rw [cIsi_non _ _ (by decide)]; rfl
@[simp] theorem ci_ns (h : AH) : cIsi [.non, .ty "str"] h = .ok (.bl false) h := by rw [cIsi_non _ _ (by decide)]; rfl
@[simp] theorem ci_nt (h : AH) : cIsi [.non, .ty "tuple"] h = .ok (.bl false) h := by rw [cIsi_non _ _ (by decide)]; rfl
@[simp] theorem ci_ti (ds : List D) (h : AH) : cIsi [.tup ds, .ty "int"] h = .ok (.bl false) h := by rw [cIsi_tup _ _ _ (by decide)]; rfl
@[simp] theorem ci_ts (ds : List D) (h : AH) : cIsi [.tup ds, .ty "str"] h = .ok (.bl false) h := by rw [cIsi_tup _ _ _ (by decide)]; rfl
@[simp] theorem gc_b_ (b : Bool) (h : AH) : gc h (.ok (.bl b) h) = .ok (.bl b) h := gc_same rfl
@[simp] theorem gc_n_ (h : AH) : gc h (.ok .non h) = .ok .non h := gc_same rfl
@[simp] theorem gc_i_ (i : Int) (h : AH) : gc h (.ok (.int i) h) = .ok (.int i) h := gc_same rfl
/-- a value of no parts -/
def B0 : D → Prop
  | .non => True
  | .bl _ => True
  | .int _ => True
  | .str x => PyData.strOk x = true
  | _ => False
/-- .. or (n,) -/
def W0 (d : D) : Prop := B0 d ∨ ∃ i : Int, d = .tup [.int i]
def Ln (d : D) : Prop := B0 d ∨ ∃ ws, d = .tup ws ∧ ws.length ≤ 10 ∧ ∀ w ∈ ws, W0 w
def Rs (d : D) : Prop := B0 d ∨ ∃ ls, d = .tup ls ∧ ls.length ≤ 1000 ∧ ∀ l ∈ ls, Ln l
theorem W0.pure {d : D} (w : W0 d) : d.pure = true := by
  rcases w with w | ⟨i, rfl⟩
  · cases d <;> first | rfl | exact w.elim
  · rfl
theorem Ln.pure {d : D} (w : Ln d) : d.pure = true := by
  rcases w with w | ⟨ws, rfl, _, w⟩
  · exact W0.pure (.inl w)
  · exact pures_iff.mpr fun d hd => (w d hd).pure
theorem Rs.pure {d : D} (w : Rs d) : d.pure = true := by
  rcases w with w | ⟨ws, rfl, _, w⟩
  · exact W0.pure (.inl w)
  · exact pures_iff.mpr fun d hd => (w d hd).pure
def isS (s : Str) : D → Bool
  | .str x => x == s
  | _ => false
theorem toP_int {i : Int} {h : AH} {k : Nat} : (D.int i).toP h k = some (.int i) := by cases k <;> rfl
theorem oEq_S {w : D} (hw : W0 w) {s : Str} (hs : PyData.strOk s = true) {h : AH} : oEq w (.str s) h = .ok (.bl (isS s w)) h := by
  have e2 : (D.str s).toP h 20 = some (.str s) := if_pos hs
  unfold oEq
  rw [e2]
  rcases hw with hw | ⟨i, rfl⟩
  · cases w with
    | non => rfl
    | bl b => rfl
    | int i => rfl
    | str x =>
      have hx : PyData.strOk x = true := hw
      have e1 : (D.str x).toP h 20 = some (.str x) := if_pos hx
      rw [e1]
      simp [PyData.eqv, isS]
    | _ => exact hw.elim
  · have : (D.tup [.int i]).toP h 20 = some (.tuple [.int i]) := by
      show ([D.int i].mapM (D.toP h 19)).map PyData.tuple = _
      simp [toP_int]
    rw [this]
    rfl
def idx (n : Nat) : D → Option Nat
  | .int i => if 0 ≤ i ∧ i < (n : Int) then some i.toNat else none
  | _ => none
theorem idx_some {n i : Nat} {d : D} (e : idx n d = some i) : d = dN i ∧ i < n := by
  cases d with
  | int j =>
    simp only [idx] at e
    by_cases q : 0 ≤ j ∧ j < (n : Int)
    · rw [if_pos q] at e
      have e := Option.some.inj e
      subst e
      exact ⟨by unfold dN; rw [Int.toNat_of_nonneg q.1], by omega⟩
    · rw [if_neg q] at e; exact absurd e (by simp)
  | _ => exact absurd e (by simp [idx])
theorem idx_N {n i : Nat} : idx n (dN i) = if i < n then some i else none := by
  simp only [idx, dN]
  by_cases h : i < n
  · rw [if_pos (by omega), if_pos h]; rfl
  · rw [if_neg (by omega), if_neg h]
theorem whole_W {w : D} (hw : W0 w) {h : AH} : c_is_whole [w] h = .ok (.bl (match w with | .int _ => true | _ => false)) h := by
  rcases hw with hw | ⟨i, rfl⟩
  · cases w <;> first | exact hw.elim | (unfold c_is_whole fsem; simp [m_is_whole])
  · unfold c_is_whole fsem; simp [m_is_whole]
theorem lwhole_W {w : D} (hw : W0 w) {h : AH} : c__law_is_whole [w] h = .ok (.bl (match w with | .int _ => true | _ => false)) h := by
  rcases hw with hw | ⟨i, rfl⟩
  · cases w <;> first | exact hw.elim | (unfold c__law_is_whole fsem; simp [m__law_is_whole])
  · unfold c__law_is_whole fsem; simp [m__law_is_whole]
theorem eChain_int (i : Int) (n : Nat) {a b c : EM} {e : AE} {h : AH} (ha : a e h = .ok (.int 0) h) (hb : b e h = .ok (.int i) h) (hc : c e h = .ok (.int (n : Int)) h) : eChain oLe oLt a b c e h = .ok (.bl (decide (0 ≤ i ∧ i < (n : Int)))) h := by
  unfold eChain
  by_cases q : 0 ≤ i
  · by_cases q2 : i < (n : Int)
    · simp [ha, hb, hc, q, q2, ER.then]
    · simp [ha, hb, hc, q, q2, ER.then]
  · simp [ha, hb, hc, q, ER.then]
theorem index_W {w : D} (hw : W0 w) {n : Nat} {h : AH} : c_is_index [w, .int (n : Int)] h = .ok (.bl (idx n w).isSome) h := by
  have e1 := fun h => whole_W hw (h := h)
  cases w with
  | int i =>
    have e : c_is_index [.int i, .int (n : Int)] h = gc h (.ok (.bl (decide (0 ≤ i ∧ i < (n : Int)))) h) := by
      unfold c_is_index fsem
      have := fun h => eChain_int i n (a := eC (.int 0)) (b := eVar 0) (c := eVar 1) (e := [some (.int i), some (.int (n : Int))]) (h := h) rfl rfl rfl
      simp [m_is_index, e1, this]
    rw [e, gc_same rfl]
    simp only [idx]
    by_cases q : 0 ≤ i ∧ i < (n : Int)
    · simp [q]
    · rw [if_neg q, decide_eq_false q]; rfl
  | _ =>
    unfold c_is_index fsem
    simp [m_is_index, e1, idx]
theorem lindex_W {w : D} (hw : W0 w) {n : Nat} {h : AH} : c__law_is_index [w, .int (n : Int)] h = .ok (.bl (idx n w).isSome) h := by
  have e1 := fun h => lwhole_W hw (h := h)
  cases w with
  | int i =>
    have e : c__law_is_index [.int i, .int (n : Int)] h = gc h (.ok (.bl (decide (0 ≤ i ∧ i < (n : Int)))) h) := by
      unfold c__law_is_index fsem
      have := fun h => eChain_int i n (a := eC (.int 0)) (b := eVar 0) (c := eVar 1) (e := [some (.int i), some (.int (n : Int))]) (h := h) rfl rfl rfl
      simp [m__law_is_index, e1, this]
    rw [e, gc_same rfl]
    simp only [idx]
    by_cases q : 0 ≤ i ∧ i < (n : Int)
    · simp [q]
    · rw [if_neg q, decide_eq_false q]; rfl
  | _ =>
    unfold c__law_is_index fsem
    simp [m__law_is_index, e1, idx]
theorem isrow_B {w : D} (hw : B0 w) {n : Int} {h : AH} : c_is_row [w, .int n] h = .ok (.bl false) h := by
  cases w <;> first | exact hw.elim | (unfold c_is_row fsem; simp [m_is_row])
theorem isrow_T {ws : List D} {n : Nat} {h : AH} : c_is_row [.tup ws, .int (n : Int)] h = .ok (.bl (ws.length == n)) h := by
  unfold c_is_row fsem
  simp [m_is_row]
end Law

set_option maxHeartbeats 1000000
namespace Law
open PySem Rf L2
abbrev sSelf : Str := Str.ofString "self"
abbrev sTold : Str := Str.ofString "told"
abbrev sSwap : Str := Str.ofString "swap"
abbrev sMoved : Str := Str.ofString "moved"
abbrev sThru : Str := Str.ofString "through"
theorem ok_self : PyData.strOk sSelf = true := by decide +kernel
theorem ok_told : PyData.strOk sTold = true := by decide +kernel
theorem ok_swap : PyData.strOk sSwap = true := by decide +kernel
theorem ok_moved : PyData.strOk sMoved = true := by decide +kernel
theorem ok_thru : PyData.strOk sThru = true := by decide +kernel
theorem isS_ne {a b : Str} {w : D} (q : isS a w = true) (h : (a == b) = false) : isS b w = false := by
  cases w with
  | str x =>
    have : x = a := by simpa [isS] using q
    subst this
    exact h
  | _ => rfl
theorem word5 (w : D) : (isS sSelf w = true ∧ isS sTold w = false ∧ isS sSwap w = false ∧ isS sMoved w = false ∧ isS sThru w = false) ∨
    (isS sSelf w = false ∧ isS sTold w = true ∧ isS sSwap w = false ∧ isS sMoved w = false ∧ isS sThru w = false) ∨
    (isS sSelf w = false ∧ isS sTold w = false ∧ isS sSwap w = true ∧ isS sMoved w = false ∧ isS sThru w = false) ∨
    (isS sSelf w = false ∧ isS sTold w = false ∧ isS sSwap w = false ∧ isS sMoved w = true ∧ isS sThru w = false) ∨
    (isS sSelf w = false ∧ isS sTold w = false ∧ isS sSwap w = false ∧ isS sMoved w = false ∧ isS sThru w = true) ∨
    (isS sSelf w = false ∧ isS sTold w = false ∧ isS sSwap w = false ∧ isS sMoved w = false ∧ isS sThru w = false) := by
  by_cases q1 : isS sSelf w = true
  · exact .inl ⟨q1, isS_ne q1 (by decide), isS_ne q1 (by decide), isS_ne q1 (by decide), isS_ne q1 (by decide)⟩
  · by_cases q2 : isS sTold w = true
    · exact .inr (.inl ⟨isS_ne q2 (by decide), q2, isS_ne q2 (by decide), isS_ne q2 (by decide), isS_ne q2 (by decide)⟩)
    · by_cases q3 : isS sSwap w = true
      · exact .inr (.inr (.inl ⟨isS_ne q3 (by decide), isS_ne q3 (by decide), q3, isS_ne q3 (by decide), isS_ne q3 (by decide)⟩))
      · by_cases q4 : isS sMoved w = true
        · exact .inr (.inr (.inr (.inl ⟨isS_ne q4 (by decide), isS_ne q4 (by decide), isS_ne q4 (by decide), q4, isS_ne q4 (by decide)⟩)))
        · by_cases q5 : isS sThru w = true
          · exact .inr (.inr (.inr (.inr (.inl ⟨isS_ne q5 (by decide), isS_ne q5 (by decide), isS_ne q5 (by decide), isS_ne q5 (by decide), q5⟩))))
          · exact .inr (.inr (.inr (.inr (.inr ⟨by simpa using q1, by simpa using q2, by simpa using q3, by simpa using q4, by simpa using q5⟩))))
/-- what a line of a reason says, told the pairs of the lines before it -/
def pairOf (n : Nat) (ps : List (List Nat)) (prs es : List (Nat × Nat)) : D → Option (Nat × Nat)
  | .tup [w, x] => if isS sSelf w then (idx n x).map fun i => (i, i)
    else if isS sTold w then (idx prs.length x).map fun i => prs.getD i (0, 0)
    else if isS sSwap w then (idx es.length x).map fun i => ((es.getD i (0, 0)).2, (es.getD i (0, 0)).1)
    else none
  | .tup [w, x, y] => (idx es.length x).bind fun i => if isS sMoved w then (idx ps.length y).map fun k => ((ps.getD k []).getD (es.getD i (0, 0)).1 0, (ps.getD k []).getD (es.getD i (0, 0)).2 0)
    else if isS sThru w then (idx es.length y).bind fun j => if (es.getD j (0, 0)).1 = (es.getD i (0, 0)).2 then some ((es.getD i (0, 0)).1, (es.getD j (0, 0)).2) else none
    else none
  | _ => none
def optP : Option (Nat × Nat) → D
  | none => .non
  | some x => dP x
def EsOk (n : Nat) (es : List (Nat × Nat)) : Prop := ∀ x ∈ es, x.1 < n ∧ x.2 < n
theorem pairOf_lt {n : Nat} {ps : List (List Nat)} {prs es : List (Nat × Nat)} (I : Inp n ps prs) (E : EsOk n es) {l : D} {x : Nat × Nat} (e : pairOf n ps prs es l = some x) : x.1 < n ∧ x.2 < n := by
  have G : ∀ i, i < es.length → (es.getD i (0, 0)).1 < n ∧ (es.getD i (0, 0)).2 < n := fun i hi => E _ (getD_mem hi)
  unfold pairOf at e
  split at e
  · split at e
    · obtain ⟨i, h1, rfl⟩ := Option.map_eq_some_iff.mp e
      have := (idx_some h1).2
      exact ⟨this, this⟩
    · split at e
      · obtain ⟨i, h1, rfl⟩ := Option.map_eq_some_iff.mp e
        exact I.pr _ (getD_mem (idx_some h1).2)
      · split at e
        · obtain ⟨i, h1, rfl⟩ := Option.map_eq_some_iff.mp e
          exact ⟨(G i (idx_some h1).2).2, (G i (idx_some h1).2).1⟩
        · cases e
  · obtain ⟨i, h1, e⟩ := Option.bind_eq_some_iff.mp e
    have g := G i (idx_some h1).2
    split at e
    · obtain ⟨k, h2, rfl⟩ := Option.map_eq_some_iff.mp e
      have P := I.pm _ (getD_mem (d := []) (idx_some h2).2)
      exact ⟨P.lt _ g.1, P.lt _ g.2⟩
    · split at e
      · obtain ⟨j, h2, e⟩ := Option.bind_eq_some_iff.mp e
        split at e
        · cases e
          exact ⟨g.1, (G j (idx_some h2).2).2⟩
        · cases e
      · cases e
  · cases e
@[simp] theorem gc_P_ (x : Nat × Nat) (h : AH) : gc h (.ok (dP x) h) = .ok (dP x) h := gc_same rfl
theorem pair_of_spec {n : Nat} {ps : List (List Nat)} {prs es : List (Nat × Nat)} (I : Inp n ps prs) (E : EsOk n es) {l : D} (hl : Ln l) {h : AH} {r : Nat} (hr : h[r]? = some (.lst (es.map dP))) :
    c__pair_of [l, .ref r, .tup (ps.map dC), dN n, .tup (prs.map dP)] h = .ok (optP (pairOf n ps prs es l)) h := by
  have pn : (optP (pairOf n ps prs es l)).pure = true := by cases pairOf n ps prs es l <;> rfl
  suffices e : c__pair_of [l, .ref r, .tup (ps.map dC), dN n, .tup (prs.map dP)] h = gc h (.ok (optP (pairOf n ps prs es l)) h) by rw [e, gc_same pn]
  have xe : ∀ i h, i < es.length → ixD (es.map dP) (i : Int) h = .ok (.tup [.int ((es.getD i (0, 0)).1 : Nat), .int ((es.getD i (0, 0)).2 : Nat)]) h := fun i h hi => ixD_map (getD_some hi)
  have xr : ∀ i h, i < prs.length → ixD (prs.map dP) (i : Int) h = .ok (dP (prs.getD i (0, 0))) h := fun i h hi => ixD_map (getD_some hi)
  have xp : ∀ i h, i < ps.length → ixD (ps.map dC) (i : Int) h = .ok (.tup ((ps.getD i []).map dN)) h := fun i h hi => ixD_map (getD_some hi)
  have G : ∀ i, i < es.length → (es.getD i (0, 0)).1 < n ∧ (es.getD i (0, 0)).2 < n := fun i hi => E _ (getD_mem hi)
  unfold c__pair_of fsem
  rcases hl with hb | ⟨ws, rfl, hlen, hw⟩
  · have b1 := fun n h => isrow_B hb (n := n) (h := h)
    have : pairOf n ps prs es l = none := by cases l <;> first | exact hb.elim | rfl
    simp [m__pair_of, b1, this, optP]
  · have b1 := fun (n : Nat) h => isrow_T (ws := ws) (n := n) (h := h)
    match ws, hw with
    | [], _ => simp [m__pair_of, b1 2, b1 3, pairOf, optP]; simp [show ∀ h, c_is_row [.tup [], .int 2] h = _ from b1 2, show ∀ h, c_is_row [.tup [], .int 3] h = _ from b1 3]
    | [a], _ => simp [m__pair_of, show ∀ h, c_is_row [.tup [a], .int 2] h = _ from b1 2, show ∀ h, c_is_row [.tup [a], .int 3] h = _ from b1 3, pairOf, optP]
    | a :: b :: c :: d :: t, _ => simp [m__pair_of, show ∀ h, c_is_row [.tup (a :: b :: c :: d :: t), .int 2] h = _ from b1 2, show ∀ h, c_is_row [.tup (a :: b :: c :: d :: t), .int 3] h = _ from b1 3, pairOf, optP]
    | [w, x], hw =>
      have b2 : ∀ h, c_is_row [.tup [w, x], .int 2] h = .ok (.bl true) h := b1 2
      have b3 : ∀ h, c_is_row [.tup [w, x], .int 3] h = .ok (.bl false) h := b1 3
      have hw1 : W0 w := hw w (by simp)
      have hx1 : W0 x := hw x (by simp)
      have q1 := fun h => oEq_S hw1 (s := sSelf) ok_self (h := h)
      have q2 := fun h => oEq_S hw1 (s := sTold) ok_told (h := h)
      have q3 := fun h => oEq_S hw1 (s := sSwap) ok_swap (h := h)
      have q4 := fun h => oEq_S hw1 (s := sMoved) ok_moved (h := h)
      have q5 := fun h => oEq_S hw1 (s := sThru) ok_thru (h := h)
      have i1 := fun (n : Nat) h => index_W hx1 (n := n) (h := h)
      rcases word5 w with ⟨f1, f2, f3, f4, f5⟩ | ⟨f1, f2, f3, f4, f5⟩ | ⟨f1, f2, f3, f4, f5⟩ | ⟨f1, f2, f3, f4, f5⟩ | ⟨f1, f2, f3, f4, f5⟩ | ⟨f1, f2, f3, f4, f5⟩
      · cases hi : idx n x with
        | none => simp [m__pair_of, b2, b3, q1, q2, q3, f1, f2, f3, i1, hi, pairOf, optP]
        | some i =>
          obtain ⟨rfl, hlt⟩ := idx_some hi
          simp [m__pair_of, b2, b3, q1, q2, q3, f1, f2, f3, i1, hi, pairOf, optP, dP]
      · cases hi : idx prs.length x with
        | none => simp [m__pair_of, b2, b3, q1, q2, q3, f1, f2, f3, i1, hi, pairOf, optP]
        | some i =>
          obtain ⟨rfl, hlt⟩ := idx_some hi
          simp only [dN] at i1 hi b2 b3
          simp [m__pair_of, b2, b3, q1, q2, q3, f1, f2, f3, i1, hi, pairOf, optP, dN, xr, hlt, -List.getD_eq_getElem?_getD]
      · cases hi : idx es.length x with
        | none => simp [m__pair_of, b2, b3, q1, q2, q3, f1, f2, f3, i1, hi, pairOf, optP, hr]
        | some i =>
          obtain ⟨rfl, hlt⟩ := idx_some hi
          simp only [dN] at i1 hi b2 b3
          simp [m__pair_of, b2, b3, q1, q2, q3, f1, f2, f3, i1, hi, pairOf, optP, dN, hr, xe, hlt, dP, -List.getD_eq_getElem?_getD]
      · simp [m__pair_of, b2, b3, q1, q2, q3, f1, f2, f3, pairOf, optP]
      · simp [m__pair_of, b2, b3, q1, q2, q3, f1, f2, f3, pairOf, optP]
      · simp [m__pair_of, b2, b3, q1, q2, q3, f1, f2, f3, pairOf, optP]
    | [w, x, y], hw =>
      have b2 : ∀ h, c_is_row [.tup [w, x, y], .int 2] h = .ok (.bl false) h := b1 2
      have b3 : ∀ h, c_is_row [.tup [w, x, y], .int 3] h = .ok (.bl true) h := b1 3
      have hw1 : W0 w := hw w (by simp)
      have hx1 : W0 x := hw x (by simp)
      have hy1 : W0 y := hw y (by simp)
      have q4 := fun h => oEq_S hw1 (s := sMoved) ok_moved (h := h)
      have q5 := fun h => oEq_S hw1 (s := sThru) ok_thru (h := h)
      have i1 := fun (n : Nat) h => index_W hx1 (n := n) (h := h)
      have i2 := fun (n : Nat) h => index_W hy1 (n := n) (h := h)
      cases hi : idx es.length x with
      | none => simp [m__pair_of, b2, b3, i1, hi, pairOf, optP, hr]
      | some i =>
        obtain ⟨rfl, hlt⟩ := idx_some hi
        have xi := fun h => xe i h hlt
        have gi := G i hlt
        simp only [dN] at i1 hi b2 b3
        rcases word5 w with ⟨f1, f2, f3, f4, f5⟩ | ⟨f1, f2, f3, f4, f5⟩ | ⟨f1, f2, f3, f4, f5⟩ | ⟨f1, f2, f3, f4, f5⟩ | ⟨f1, f2, f3, f4, f5⟩ | ⟨f1, f2, f3, f4, f5⟩
        · simp [m__pair_of, b2, b3, q4, q5, f4, f5, i1, hi, pairOf, optP, dN, hr, xi, -List.getD_eq_getElem?_getD]
        · simp [m__pair_of, b2, b3, q4, q5, f4, f5, i1, hi, pairOf, optP, dN, hr, xi, -List.getD_eq_getElem?_getD]
        · simp [m__pair_of, b2, b3, q4, q5, f4, f5, i1, hi, pairOf, optP, dN, hr, xi, -List.getD_eq_getElem?_getD]
        · cases hk : idx ps.length y with
          | none => simp [m__pair_of, b2, b3, q4, q5, f4, f5, i1, i2, hi, hk, pairOf, optP, dN, hr, xi, -List.getD_eq_getElem?_getD]
          | some k =>
            obtain ⟨rfl, hkl⟩ := idx_some hk
            have xk := fun h => xp k h hkl
            have P := I.pm _ (getD_mem (d := []) hkl)
            have z1 : ∀ h, ixD ((ps.getD k []).map dN) ((es.getD i (0, 0)).1 : Nat) h = .ok (dN ((ps.getD k []).getD (es.getD i (0, 0)).1 0)) h := fun h => ixD_N (by rw [P.len]; exact gi.1)
            have z2 : ∀ h, ixD ((ps.getD k []).map dN) ((es.getD i (0, 0)).2 : Nat) h = .ok (dN ((ps.getD k []).getD (es.getD i (0, 0)).2 0)) h := fun h => ixD_N (by rw [P.len]; exact gi.2)
            simp only [dN] at i2 hk b2 b3 xk z1 z2
            simp [m__pair_of, b2, b3, q4, q5, f4, f5, i1, i2, hi, hk, pairOf, optP, dN, hr, xi, xk, z1, z2, dP, -List.getD_eq_getElem?_getD]
        · cases hk : idx es.length y with
          | none => simp [m__pair_of, b2, b3, q4, q5, f4, f5, i1, i2, hi, hk, pairOf, optP, dN, hr, xi, -List.getD_eq_getElem?_getD]
          | some k =>
            obtain ⟨rfl, hkl⟩ := idx_some hk
            have xk := fun h => xe k h hkl
            simp only [dN] at i2 hk b2 b3
            by_cases c : (es.getD k (0, 0)).1 = (es.getD i (0, 0)).2
            · simp [m__pair_of, b2, b3, q4, q5, f4, f5, i1, i2, hi, hk, pairOf, optP, dN, hr, xi, xk, c, dP, -List.getD_eq_getElem?_getD]
            · simp [m__pair_of, b2, b3, q4, q5, f4, f5, i1, i2, hi, hk, pairOf, optP, dN, hr, xi, xk, c, dP, -List.getD_eq_getElem?_getD]
        · simp [m__pair_of, b2, b3, q4, q5, f4, f5, i1, hi, pairOf, optP, dN, hr, xi, -List.getD_eq_getElem?_getD]
end Law

set_option maxHeartbeats 1000000
namespace Law
open PySem Rf L2
def lims (w : D) (n a b c : Nat) : List Nat := if isS sSelf w then [n] else if isS sTold w then [a] else if isS sSwap w then [c] else if isS sMoved w then [c, b] else if isS sThru w then [c, c] else []
theorem limits_spec {w : D} (hw : W0 w) {n a b c : Nat} {h : AH} : c__law_limits [w, dN n, dN a, dN b, dN c] h = .ok (.ref h.length) (h ++ [.lst ((lims w n a b c).map dN)]) := by
  have q1 := fun h => oEq_S hw (s := sSelf) ok_self (h := h)
  have q2 := fun h => oEq_S hw (s := sTold) ok_told (h := h)
  have q3 := fun h => oEq_S hw (s := sSwap) ok_swap (h := h)
  have q4 := fun h => oEq_S hw (s := sMoved) ok_moved (h := h)
  have q5 := fun h => oEq_S hw (s := sThru) ok_thru (h := h)
  have e : c__law_limits [w, dN n, dN a, dN b, dN c] h = gc h (.ok (.ref (h.length + 0)) (h ++ [.lst ((lims w n a b c).map dN)])) := by
    unfold c__law_limits fsem
    rcases word5 w with ⟨f1, f2, f3, f4, f5⟩ | ⟨f1, f2, f3, f4, f5⟩ | ⟨f1, f2, f3, f4, f5⟩ | ⟨f1, f2, f3, f4, f5⟩ | ⟨f1, f2, f3, f4, f5⟩ | ⟨f1, f2, f3, f4, f5⟩ <;>
    simp [m__law_limits, q1, q2, q3, q4, q5, f1, f2, f3, f4, f5, lims]
  rw [e, gc_new (i := 0) rfl (by simp)]
theorem isStr_W {w : D} (hw : W0 w) : ∃ b, ∀ h, cIsi [w, .ty "str"] h = .ok (.bl b) h := by
  rcases hw with hw | ⟨i, rfl⟩
  · cases w with
    | non => exact ⟨_, ci_ns⟩
    | bl b => exact ⟨_, ci_bs b⟩
    | int i => exact ⟨_, ci_is i⟩
    | str x => exact ⟨_, ci_ss x⟩
    | _ => exact hw.elim
  · exact ⟨_, ci_ts _⟩
theorem isStr_S {s : Str} {w : D} (q : isS s w = true) (h : AH) : cIsi [w, .ty "str"] h = .ok (.bl true) h := by
  cases w with
  | str x => simp
  | _ => exact absurd q (by simp [isS])
theorem rg1 : rg 0 1 = [.int 0] := rfl
theorem rg2 : rg 0 2 = [.int 0, .int 1] := rfl
theorem line_spec {n : Nat} {ps : List (List Nat)} {prs es : List (Nat × Nat)} (I : Inp n ps prs) (E : EsOk n es) {l : D} (hl : Ln l) {h : AH} {r : Nat} (hr : h[r]? = some (.lst (es.map dP))) :
    c__law_line [l, .ref r, .tup (ps.map dC), dN n, .tup (prs.map dP)] h = .ok (optP (pairOf n ps prs es l)) h := by
  have pn : (optP (pairOf n ps prs es l)).pure = true := by cases pairOf n ps prs es l <;> rfl
  suffices e : ∃ g, c__law_line [l, .ref r, .tup (ps.map dC), dN n, .tup (prs.map dP)] h = gc h (.ok (optP (pairOf n ps prs es l)) (h ++ g)) by
    obtain ⟨g, e⟩ := e
    rw [e, gc_app pn]
  have xe : ∀ i h, i < es.length → ixD (es.map dP) (i : Int) h = .ok (.tup [.int ((es.getD i (0, 0)).1 : Nat), .int ((es.getD i (0, 0)).2 : Nat)]) h := fun i h hi => ixD_map (getD_some hi)
  have xr : ∀ i h, i < prs.length → ixD (prs.map dP) (i : Int) h = .ok (.tup [.int ((prs.getD i (0, 0)).1 : Nat), .int ((prs.getD i (0, 0)).2 : Nat)]) h := fun i h hi => ixD_map (getD_some hi)
  have xp : ∀ i h, i < ps.length → ixD (ps.map dC) (i : Int) h = .ok (.tup ((ps.getD i []).map dN)) h := fun i h hi => ixD_map (getD_some hi)
  have G : ∀ i, i < es.length → (es.getD i (0, 0)).1 < n ∧ (es.getD i (0, 0)).2 < n := fun i hi => E _ (getD_mem hi)
  have hr' : ∀ g, (h ++ g)[r]? = some (.lst (es.map dP)) := fun g => app_get_l hr
  have R0 : RgB (0 : Int) := rgB_nat (n := 0) (by omega)
  have R1 : RgB (1 : Int) := rgB_nat (n := 1) (by omega)
  have R2 : RgB (2 : Int) := rgB_nat (n := 2) (by omega)
  unfold c__law_line fsem
  rcases hl with hb | ⟨ws, rfl, hlen, hw⟩
  · have : pairOf n ps prs es l = none := by cases l <;> first | exact hb.elim | rfl
    refine ⟨[], ?_⟩
    rw [this]
    cases l <;> first | exact hb.elim | simp [m__law_line, optP]
  · match ws, hw with
    | [], _ => exact ⟨[], by simp [m__law_line, pairOf, optP]⟩
    | [a], _ => exact ⟨[], by simp [m__law_line, pairOf, optP]⟩
    | w :: b :: c :: d :: t, hw =>
      have hw1 : W0 w := hw w (by simp)
      obtain ⟨b1, hb1⟩ := isStr_W hw1
      cases b1 with
      | false => exact ⟨[], by simp [m__law_line, hb1, pairOf, optP, show ¬ ((t.length : Int) + 1 + 1 + 1 + 1 < 2) by omega]⟩
      | true =>
        have lm := fun h => limits_spec hw1 (n := n) (a := prs.length) (b := ps.length) (c := es.length) (h := h)
        simp only [dN] at lm
        refine ⟨[.lst ((lims w n prs.length ps.length es.length).map dN)], ?_⟩
        have ll : (lims w n prs.length ps.length es.length).length ≤ 2 := by
          unfold lims
          repeat' split
          all_goals simp
        simp [m__law_line, hb1, pairOf, optP, show ¬ ((t.length : Int) + 1 + 1 + 1 + 1 < 2) by omega, hr, dN, lm]
        rw [if_neg (by omega)]
        simp
    | [w, x], hw =>
      have hw1 : W0 w := hw w (by simp)
      have hx1 : W0 x := hw x (by simp)
      have q1 := fun h => oEq_S hw1 (s := sSelf) ok_self (h := h)
      have q2 := fun h => oEq_S hw1 (s := sTold) ok_told (h := h)
      have q3 := fun h => oEq_S hw1 (s := sSwap) ok_swap (h := h)
      have q4 := fun h => oEq_S hw1 (s := sMoved) ok_moved (h := h)
      have i1 := fun (n : Nat) h => lindex_W hx1 (n := n) (h := h)
      have lm := fun h => limits_spec hw1 (n := n) (a := prs.length) (b := ps.length) (c := es.length) (h := h)
      simp only [dN] at lm
      rcases word5 w with ⟨f1, f2, f3, f4, f5⟩ | ⟨f1, f2, f3, f4, f5⟩ | ⟨f1, f2, f3, f4, f5⟩ | ⟨f1, f2, f3, f4, f5⟩ | ⟨f1, f2, f3, f4, f5⟩ | ⟨f1, f2, f3, f4, f5⟩
      · have st := isStr_S f1
        refine ⟨[.lst [dN n]], ?_⟩
        cases hi : idx n x with
        | none => simp [m__law_line, lb__law_line_1, sLoop, rg1, R1, st, lm, lims, q1, f1, f2, f3, f4, f5, i1, hi, pairOf, optP, hr, dN]
        | some i =>
          obtain ⟨rfl, hlt⟩ := idx_some hi
          simp only [dN] at i1 hi
          simp [m__law_line, lb__law_line_1, sLoop, rg1, R1, st, lm, lims, q1, f1, f2, f3, f4, f5, i1, hi, pairOf, optP, hr, dN, dP]
      · have st := isStr_S f2
        refine ⟨[.lst [dN prs.length]], ?_⟩
        cases hi : idx prs.length x with
        | none => simp [m__law_line, lb__law_line_1, sLoop, rg1, R1, st, lm, lims, q1, q2, f1, f2, f3, f4, f5, i1, hi, pairOf, optP, hr, dN]
        | some i =>
          obtain ⟨rfl, hlt⟩ := idx_some hi
          have xi := fun h => xr i h hlt
          simp only [dN] at i1 hi
          simp [m__law_line, lb__law_line_1, sLoop, rg1, R1, st, lm, lims, q1, q2, f1, f2, f3, f4, f5, i1, hi, pairOf, optP, hr, dN, dP, xi, -List.getD_eq_getElem?_getD]
      · have st := isStr_S f3
        refine ⟨[.lst [dN es.length]], ?_⟩
        cases hi : idx es.length x with
        | none => simp [m__law_line, lb__law_line_1, sLoop, rg1, R1, st, lm, lims, q1, q2, q3, f1, f2, f3, f4, f5, i1, hi, pairOf, optP, hr, dN]
        | some i =>
          obtain ⟨rfl, hlt⟩ := idx_some hi
          have xi := fun h => xe i h hlt
          simp only [dN] at i1 hi
          simp [m__law_line, lb__law_line_1, sLoop, rg1, R1, st, lm, lims, q1, q2, q3, f1, f2, f3, f4, f5, i1, hi, pairOf, optP, hr, hr', dN, dP, xi, -List.getD_eq_getElem?_getD]
      · have st := isStr_S f4
        exact ⟨[.lst [dN es.length, dN ps.length]], by simp [m__law_line, st, lm, lims, f1, f2, f3, f4, f5, pairOf, optP, hr, dN]⟩
      · have st := isStr_S f5
        exact ⟨[.lst [dN es.length, dN es.length]], by simp [m__law_line, st, lm, lims, f1, f2, f3, f4, f5, pairOf, optP, hr, dN]⟩
      · obtain ⟨b1, hb1⟩ := isStr_W hw1
        cases b1 with
        | false => exact ⟨[], by simp [m__law_line, hb1, f1, f2, f3, f4, f5, pairOf, optP]⟩
        | true => exact ⟨[.lst []], by simp [m__law_line, hb1, lm, lims, f1, f2, f3, f4, f5, pairOf, optP, hr, dN]⟩
    | [w, x, y], hw =>
      have hw1 : W0 w := hw w (by simp)
      have hx1 : W0 x := hw x (by simp)
      have hy1 : W0 y := hw y (by simp)
      have q1 := fun h => oEq_S hw1 (s := sSelf) ok_self (h := h)
      have q2 := fun h => oEq_S hw1 (s := sTold) ok_told (h := h)
      have q3 := fun h => oEq_S hw1 (s := sSwap) ok_swap (h := h)
      have q4 := fun h => oEq_S hw1 (s := sMoved) ok_moved (h := h)
      have q5 := fun h => oEq_S hw1 (s := sThru) ok_thru (h := h)
      have i1 := fun (n : Nat) h => lindex_W hx1 (n := n) (h := h)
      have i2 := fun (n : Nat) h => lindex_W hy1 (n := n) (h := h)
      have lm := fun h => limits_spec hw1 (n := n) (a := prs.length) (b := ps.length) (c := es.length) (h := h)
      simp only [dN] at lm
      rcases word5 w with ⟨f1, f2, f3, f4, f5⟩ | ⟨f1, f2, f3, f4, f5⟩ | ⟨f1, f2, f3, f4, f5⟩ | ⟨f1, f2, f3, f4, f5⟩ | ⟨f1, f2, f3, f4, f5⟩ | ⟨f1, f2, f3, f4, f5⟩
      · have st := isStr_S f1
        refine ⟨[.lst [dN n]], ?_⟩
        cases hi : idx es.length x <;> simp [m__law_line, st, lm, lims, f1, f2, f3, f4, f5, pairOf, hi, optP, hr, dN]
      · have st := isStr_S f2
        refine ⟨[.lst [dN prs.length]], ?_⟩
        cases hi : idx es.length x <;> simp [m__law_line, st, lm, lims, f1, f2, f3, f4, f5, pairOf, hi, optP, hr, dN]
      · have st := isStr_S f3
        refine ⟨[.lst [dN es.length]], ?_⟩
        cases hi : idx es.length x <;> simp [m__law_line, st, lm, lims, f1, f2, f3, f4, f5, pairOf, hi, optP, hr, dN]
      · have st := isStr_S f4
        refine ⟨[.lst [dN es.length, dN ps.length]], ?_⟩
        cases hi : idx es.length x with
        | none => simp [m__law_line, lb__law_line_1, sLoop, rg2, R2, st, lm, lims, f1, f2, f3, f4, f5, i1, i2, hi, pairOf, optP, hr, dN]
        | some i =>
          obtain ⟨rfl, hlt⟩ := idx_some hi
          have xi := fun h => xe i h hlt
          have gi := G i hlt
          simp only [dN] at i1 hi
          cases hk : idx ps.length y with
          | none => simp [m__law_line, lb__law_line_1, sLoop, rg2, R2, st, lm, lims, f1, f2, f3, f4, f5, i1, i2, hi, hk, pairOf, optP, hr, dN]
          | some k =>
            obtain ⟨rfl, hkl⟩ := idx_some hk
            have xk := fun h => xp k h hkl
            have P := I.pm _ (getD_mem (d := []) hkl)
            have z1 : ∀ h, ixD ((ps.getD k []).map dN) ((es.getD i (0, 0)).1 : Nat) h = .ok (dN ((ps.getD k []).getD (es.getD i (0, 0)).1 0)) h := fun h => ixD_N (by rw [P.len]; exact gi.1)
            have z2 : ∀ h, ixD ((ps.getD k []).map dN) ((es.getD i (0, 0)).2 : Nat) h = .ok (dN ((ps.getD k []).getD (es.getD i (0, 0)).2 0)) h := fun h => ixD_N (by rw [P.len]; exact gi.2)
            simp only [dN] at i2 hk xk z1 z2
            simp [m__law_line, lb__law_line_1, sLoop, rg2, R2, st, lm, lims, q1, q2, q3, q4, f1, f2, f3, f4, f5, i1, i2, hi, hk, pairOf, optP, hr, hr', dN, dP, xi, xk, z1, z2, -List.getD_eq_getElem?_getD]
      · have st := isStr_S f5
        refine ⟨[.lst [dN es.length, dN es.length]], ?_⟩
        cases hi : idx es.length x with
        | none => simp [m__law_line, lb__law_line_1, sLoop, rg2, R2, st, lm, lims, f1, f2, f3, f4, f5, i1, i2, hi, pairOf, optP, hr, dN]
        | some i =>
          obtain ⟨rfl, hlt⟩ := idx_some hi
          have xi := fun h => xe i h hlt
          simp only [dN] at i1 hi
          cases hk : idx es.length y with
          | none => simp [m__law_line, lb__law_line_1, sLoop, rg2, R2, st, lm, lims, f1, f2, f3, f4, f5, i1, i2, hi, hk, pairOf, optP, hr, dN]
          | some k =>
            obtain ⟨rfl, hkl⟩ := idx_some hk
            have xk := fun h => xe k h hkl
            simp only [dN] at i2 hk
            by_cases c : (es.getD k (0, 0)).1 = (es.getD i (0, 0)).2
            · simp [m__law_line, lb__law_line_1, sLoop, rg2, R2, st, lm, lims, q1, q2, q3, q4, f1, f2, f3, f4, f5, i1, i2, hi, hk, pairOf, optP, hr, hr', dN, dP, xi, xk, c, -List.getD_eq_getElem?_getD]
            · have c' : ¬ (es.getD i (0, 0)).2 = (es.getD k (0, 0)).1 := fun e => c e.symm
              simp [m__law_line, lb__law_line_1, sLoop, rg2, R2, st, lm, lims, q1, q2, q3, q4, f1, f2, f3, f4, f5, i1, i2, hi, hk, pairOf, optP, hr, hr', dN, dP, xi, xk, c, c', -List.getD_eq_getElem?_getD]
      · obtain ⟨b1, hb1⟩ := isStr_W hw1
        cases b1 with
        | false => refine ⟨[], ?_⟩; cases hi : idx es.length x <;> simp [m__law_line, hb1, f1, f2, f3, f4, f5, pairOf, hi, optP]
        | true => refine ⟨[.lst []], ?_⟩; cases hi : idx es.length x <;> simp [m__law_line, hb1, lm, lims, f1, f2, f3, f4, f5, pairOf, hi, optP, hr, dN]
end Law

set_option maxHeartbeats 1000000
namespace Law
open PySem Rf L2
def readAll (n : Nat) (ps : List (List Nat)) (prs : List (Nat × Nat)) : List D → List (Nat × Nat) → Option (List (Nat × Nat))
  | [], es => some es
  | l :: ls, es => (pairOf n ps prs es l).bind fun x => readAll n ps prs ls (es ++ [x])
theorem readAll_len {n : Nat} {ps : List (List Nat)} {prs : List (Nat × Nat)} : ∀ {ls : List D} {es es' : List (Nat × Nat)}, readAll n ps prs ls es = some es' → es'.length = es.length + ls.length
  | [], es, es', e => by cases e; simp
  | l :: ls, es, es', e => by
    obtain ⟨x, h1, h2⟩ := Option.bind_eq_some_iff.mp e
    have := readAll_len h2
    rw [this]; simp; omega
theorem readAll_app {n : Nat} {ps : List (List Nat)} {prs : List (Nat × Nat)} : ∀ {ls ms : List D} {es : List (Nat × Nat)}, readAll n ps prs (ls ++ ms) es = (readAll n ps prs ls es).bind (readAll n ps prs ms)
  | [], ms, es => rfl
  | l :: ls, ms, es => by
    show (pairOf n ps prs es l).bind _ = ((pairOf n ps prs es l).bind _).bind _
    cases pairOf n ps prs es l with
    | none => rfl
    | some x => exact readAll_app (ls := ls)
theorem readAll_lt {n : Nat} {ps : List (List Nat)} {prs : List (Nat × Nat)} (I : Inp n ps prs) : ∀ {ls : List D} {es es' : List (Nat × Nat)}, readAll n ps prs ls es = some es' → EsOk n es → EsOk n es'
  | [], es, es', e, E => by cases e; exact E
  | l :: ls, es, es', e, E => by
    obtain ⟨x, h1, h2⟩ := Option.bind_eq_some_iff.mp e
    refine readAll_lt I h2 fun y hy => ?_
    rcases List.mem_append.mp hy with hy | hy
    · exact E y hy
    · rw [List.mem_singleton.mp hy]; exact pairOf_lt I E h1
/-- the pair that a reason shows to be joined -/
def endsOf (n : Nat) (ps : List (List Nat)) (prs : List (Nat × Nat)) : D → Option (Nat × Nat)
  | .tup (l :: ls) => (readAll n ps prs (l :: ls) []).bind (·.getLast?)
  | _ => none
theorem toP_P (x : Nat × Nat) {h : AH} : (dP x).toP h 20 = some (.tuple [.int x.1, .int x.2]) := by
  show ([dN x.1, dN x.2].mapM (D.toP h 19)).map PyData.tuple = _
  simp [dN, toP_int]
theorem oEq_P (x y : Nat × Nat) (h : AH) : oEq (dP x) (dP y) h = .ok (.bl (decide (x = y))) h := by
  unfold oEq
  rw [toP_P, toP_P]
  congr 2
  obtain ⟨a, b⟩ := x
  obtain ⟨c, d⟩ := y
  simp only [PyData.eqv, PyData.eqvAll]
  by_cases q1 : a = c
  · by_cases q2 : b = d
    · simp [q1, q2]
    · have : ¬ ((b : Int) = (d : Int)) := by omega
      simp [q1, q2, this]
  · have : ¬ ((a : Int) = (c : Int)) := by omega
    simp [q1, this]
theorem oNe_P (x y : Nat × Nat) (h : AH) : oNe (dP x) (dP y) h = .ok (.bl (!decide (x = y))) h := by
  have := oEq_P x y h
  unfold oEq at this
  unfold oNe
  rw [toP_P, toP_P] at this ⊢
  simp only [ER.ok.injEq, D.bl.injEq, and_true] at this ⊢
  rw [this]
theorem oEq_nP (y : Nat × Nat) (h : AH) : oEq .non (dP y) h = .ok (.bl false) h := by
  unfold oEq
  rw [toP_P]
  rfl
theorem oNe_nP (y : Nat × Nat) (h : AH) : oNe .non (dP y) h = .ok (.bl true) h := by
  unfold oNe
  rw [toP_P]
  rfl
theorem ixD_last {ds : List D} (hp : 0 < ds.length) (h : AH) : ixD ds (-1) h = .ok (ds.getD (ds.length - 1) .non) h := by
  have e : L2.atI ds (-1) = some (ds.getD (ds.length - 1) .non) := by
    unfold L2.atI L2.ixN
    rw [if_neg (by omega), if_pos (by omega)]
    have : ((-1 : Int) + (ds.length : Int)).toNat = ds.length - 1 := by omega
    rw [Option.bind_some, this]
    exact getD_some (by omega)
  simp [ixD, e]
section
variable {n : Nat} {ps : List (List Nat)} {prs : List (Nat × Nat)} {h : AH}
theorem loopJ (I : Inp n ps prs) (di dj dr : D) : ∀ (ls : List D) (es : List (Nat × Nat)) (x7 x8 : Option D), (∀ l ∈ ls, Ln l) → EsOk n es → es.length + ls.length ≤ 10000 →
    (∃ es' x7' x8', readAll n ps prs ls es = some es' ∧ sLoop (gVar 7) lb_shows_joined_1 ls [some (.tup (ps.map dC)), some (dN n), some (.tup (prs.map dP)), some di, some dj, some dr, some (.ref h.length), x7, x8] (h ++ [.lst (es.map dP)]) =
      .nx [some (.tup (ps.map dC)), some (dN n), some (.tup (prs.map dP)), some di, some dj, some dr, some (.ref h.length), x7', x8'] (h ++ [.lst (es'.map dP)])) ∨
    (readAll n ps prs ls es = none ∧ ∃ g, sLoop (gVar 7) lb_shows_joined_1 ls [some (.tup (ps.map dC)), some (dN n), some (.tup (prs.map dP)), some di, some dj, some dr, some (.ref h.length), x7, x8] (h ++ [.lst (es.map dP)]) = .rt (.bl false) (h ++ g))
  | [], es, x7, x8, _, _, _ => .inl ⟨es, x7, x8, rfl, rfl⟩
  | l :: ls, es, x7, x8, hl, E, hn => by
    have e1 := fun hr => pair_of_spec I E (hl l (by simp)) (h := h ++ [.lst (es.map dP)]) (r := h.length) hr
    have e1 := e1 (by simp)
    rw [List.length_cons] at hn
    cases hp : pairOf n ps prs es l with
    | none =>
      refine .inr ⟨?_, ?_⟩
      · show (pairOf n ps prs es l).bind _ = none
        rw [hp]; rfl
      · rw [hp] at e1
        exact ⟨_, by simp [sLoop, lb_shows_joined_1, e1, optP]; rfl⟩
    | some x =>
      rw [hp] at e1
      have ap : ∀ r v h, appO (some (.lst (es.map dP))) r v h = .ok .non (h.set r (.lst (es.map dP ++ [v]))) := fun r v h => appO_lst (by rw [List.length_map, sizeLine_eq]; omega)
      have E2 : EsOk n (es ++ [x]) := fun y hy => by
        rcases List.mem_append.mp hy with hy | hy
        · exact E y hy
        · rw [List.mem_singleton.mp hy]; exact pairOf_lt I E hp
      have st : sLoop (gVar 7) lb_shows_joined_1 (l :: ls) [some (.tup (ps.map dC)), some (dN n), some (.tup (prs.map dP)), some di, some dj, some dr, some (.ref h.length), x7, x8] (h ++ [.lst (es.map dP)]) =
          sLoop (gVar 7) lb_shows_joined_1 ls [some (.tup (ps.map dC)), some (dN n), some (.tup (prs.map dP)), some di, some dj, some dr, some (.ref h.length), some l, some (dP x)] (h ++ [.lst ((es ++ [x]).map dP)]) := by
        rw [List.map_append]
        simp [sLoop, lb_shows_joined_1, e1, optP, D.isNon, ap]
        simp [dP, D.isNon, ap]
      rw [st]
      have rd : readAll n ps prs (l :: ls) es = readAll n ps prs ls (es ++ [x]) := by
        show (pairOf n ps prs es l).bind _ = _
        rw [hp]; rfl
      rw [rd]
      exact loopJ I di dj dr ls (es ++ [x]) _ _ (fun l hl' => hl l (List.mem_cons_of_mem _ hl')) E2 (by simp; omega)
theorem loopE (I : Inp n ps prs) (dr : D) : ∀ (ls : List D) (es : List (Nat × Nat)) (x7 x8 : Option D), (∀ l ∈ ls, Ln l) → EsOk n es → es.length + ls.length ≤ 10000 →
    (∃ es' x7' x8', readAll n ps prs ls es = some es' ∧ sLoop (gVar 5) lb__law_ends_1 ls [some dr, some (.tup (ps.map dC)), some (dN n), some (.tup (prs.map dP)), some (.ref h.length), x7, x8] (h ++ [.lst (es.map dP)]) =
      .nx [some dr, some (.tup (ps.map dC)), some (dN n), some (.tup (prs.map dP)), some (.ref h.length), x7', x8'] (h ++ [.lst (es'.map dP)])) ∨
    (readAll n ps prs ls es = none ∧ ∃ g, sLoop (gVar 5) lb__law_ends_1 ls [some dr, some (.tup (ps.map dC)), some (dN n), some (.tup (prs.map dP)), some (.ref h.length), x7, x8] (h ++ [.lst (es.map dP)]) = .rt .non (h ++ g))
  | [], es, x7, x8, _, _, _ => .inl ⟨es, x7, x8, rfl, rfl⟩
  | l :: ls, es, x7, x8, hl, E, hn => by
    have e1 := fun hr => line_spec I E (hl l (by simp)) (h := h ++ [.lst (es.map dP)]) (r := h.length) hr
    have e1 := e1 (by simp)
    rw [List.length_cons] at hn
    cases hp : pairOf n ps prs es l with
    | none =>
      refine .inr ⟨?_, ?_⟩
      · show (pairOf n ps prs es l).bind _ = none
        rw [hp]; rfl
      · rw [hp] at e1
        exact ⟨_, by simp [sLoop, lb__law_ends_1, e1, optP]; rfl⟩
    | some x =>
      rw [hp] at e1
      have ap : ∀ r v h, appO (some (.lst (es.map dP))) r v h = .ok .non (h.set r (.lst (es.map dP ++ [v]))) := fun r v h => appO_lst (by rw [List.length_map, sizeLine_eq]; omega)
      have E2 : EsOk n (es ++ [x]) := fun y hy => by
        rcases List.mem_append.mp hy with hy | hy
        · exact E y hy
        · rw [List.mem_singleton.mp hy]; exact pairOf_lt I E hp
      have st : sLoop (gVar 5) lb__law_ends_1 (l :: ls) [some dr, some (.tup (ps.map dC)), some (dN n), some (.tup (prs.map dP)), some (.ref h.length), x7, x8] (h ++ [.lst (es.map dP)]) =
          sLoop (gVar 5) lb__law_ends_1 ls [some dr, some (.tup (ps.map dC)), some (dN n), some (.tup (prs.map dP)), some (.ref h.length), some l, some (dP x)] (h ++ [.lst ((es ++ [x]).map dP)]) := by
        rw [List.map_append]
        simp [sLoop, lb__law_ends_1, e1, optP, D.isNon, ap]
        simp [dP, D.isNon, ap]
      rw [st]
      have rd : readAll n ps prs (l :: ls) es = readAll n ps prs ls (es ++ [x]) := by
        show (pairOf n ps prs es l).bind _ = _
        rw [hp]; rfl
      rw [rd]
      exact loopE I dr ls (es ++ [x]) _ _ (fun l hl' => hl l (List.mem_cons_of_mem _ hl')) E2 (by simp; omega)
theorem last_at {es : List (Nat × Nat)} (h : 0 < es.length) : es.getLast? = some (es.getD (es.length - 1) (0, 0)) := by
  rw [List.getLast?_eq_getElem?]
  exact getD_some (by omega)
theorem joined_spec (I : Inp n ps prs) {d : D} (hd : Rs d) (i j : Nat) :
    c_shows_joined [.tup (ps.map dC), dN n, .tup (prs.map dP), dN i, dN j, d] h = .ok (.bl (decide (endsOf n ps prs d = some (i, j)))) h := by
  suffices e : ∃ g, c_shows_joined [.tup (ps.map dC), dN n, .tup (prs.map dP), dN i, dN j, d] h = gc h (.ok (.bl (decide (endsOf n ps prs d = some (i, j)))) (h ++ g)) by
    obtain ⟨g, e⟩ := e
    rw [e, gc_app rfl]
  unfold c_shows_joined fsem
  rcases hd with hb | ⟨ls, rfl, hlen, hl⟩
  · refine ⟨[], ?_⟩
    have : endsOf n ps prs d = none := by cases d <;> first | exact hb.elim | rfl
    rw [this]
    cases d <;> first | exact hb.elim | simp [m_shows_joined]
  · cases ls with
    | nil => exact ⟨[], by simp [m_shows_joined, endsOf]⟩
    | cons l ls =>
      rcases loopJ (h := h) I (dN i) (dN j) (.tup (l :: ls)) (l :: ls) [] none none hl (fun x hx => absurd hx (by simp)) (by simp at hlen ⊢; omega) with ⟨es', x7, x8, rd, w⟩ | ⟨rd, g, w⟩
      · have hlen' := readAll_len rd
        simp only [List.length_cons, List.length_nil] at hlen'
        have hp : 0 < es'.length := by omega
        have z : endsOf n ps prs (.tup (l :: ls)) = some (es'.getD (es'.length - 1) (0, 0)) := by
          show (readAll n ps prs (l :: ls) []).bind _ = _
          rw [rd]; exact last_at hp
        rw [z]
        refine ⟨[.lst (es'.map dP)], ?_⟩
        have x1 : ∀ h, ixD (es'.map dP) (-1) h = .ok (dP (es'.getD (es'.length - 1) (0, 0))) h := fun h => by
          rw [ixD_last (by simpa using hp), List.length_map, map_getD (d := (0, 0)) (by omega)]
        have x2 := fun h => oEq_P (es'.getD (es'.length - 1) (0, 0)) (i, j) h
        have x3 : D.tup [dN i, dN j] = dP (i, j) := rfl
        simp only [List.map_nil] at w
        simp [m_shows_joined, w, x1, x3, x2, show ¬ ((ls.length : Int) + 1 = 0) by omega, -List.getD_eq_getElem?_getD]
      · have z : endsOf n ps prs (.tup (l :: ls)) = none := by
          show (readAll n ps prs (l :: ls) []).bind _ = _
          rw [rd]; rfl
        rw [z]
        refine ⟨g, ?_⟩
        simp only [List.map_nil] at w
        simp [m_shows_joined, w, show ¬ ((ls.length : Int) + 1 = 0) by omega]
theorem optP_pure (x : Option (Nat × Nat)) : (optP x).pure = true := by cases x <;> rfl
theorem ends_spec (I : Inp n ps prs) {d : D} (hd : Rs d) :
    c__law_ends [d, .tup (ps.map dC), dN n, .tup (prs.map dP)] h = .ok (optP (endsOf n ps prs d)) h := by
  suffices e : ∃ g, c__law_ends [d, .tup (ps.map dC), dN n, .tup (prs.map dP)] h = gc h (.ok (optP (endsOf n ps prs d)) (h ++ g)) by
    obtain ⟨g, e⟩ := e
    rw [e, gc_app (optP_pure _)]
  unfold c__law_ends fsem
  rcases hd with hb | ⟨ls, rfl, hlen, hl⟩
  · refine ⟨[], ?_⟩
    have : endsOf n ps prs d = none := by cases d <;> first | exact hb.elim | rfl
    rw [this]
    cases d <;> first | exact hb.elim | simp [m__law_ends, optP]
  · cases ls with
    | nil => exact ⟨[], by simp [m__law_ends, endsOf, optP]⟩
    | cons l ls =>
      rcases loopE (h := h) I (.tup (l :: ls)) (l :: ls) [] none none hl (fun x hx => absurd hx (by simp)) (by simp at hlen ⊢; omega) with ⟨es', x7, x8, rd, w⟩ | ⟨rd, g, w⟩
      · have hlen' := readAll_len rd
        simp only [List.length_cons, List.length_nil] at hlen'
        have hp : 0 < es'.length := by omega
        have z : endsOf n ps prs (.tup (l :: ls)) = some (es'.getD (es'.length - 1) (0, 0)) := by
          show (readAll n ps prs (l :: ls) []).bind _ = _
          rw [rd]; exact last_at hp
        rw [z]
        refine ⟨[.lst (es'.map dP)], ?_⟩
        have x1 : ∀ h, ixD (es'.map dP) ((es'.length : Int) - 1) h = .ok (dP (es'.getD (es'.length - 1) (0, 0))) h := fun h => by
          rw [show ((es'.length : Int) - 1) = ((es'.length - 1 : Nat) : Int) by omega]
          exact ixD_map (getD_some (by omega))
        simp only [List.map_nil] at w
        simp [m__law_ends, w, x1, optP, show ¬ ((ls.length : Int) + 1 = 0) by omega, -List.getD_eq_getElem?_getD]
      · have z : endsOf n ps prs (.tup (l :: ls)) = none := by
          show (readAll n ps prs (l :: ls) []).bind _ = _
          rw [rd]; rfl
        rw [z]
        refine ⟨g, ?_⟩
        simp only [List.map_nil] at w
        simp [m__law_ends, w, optP, show ¬ ((ls.length : Int) + 1 = 0) by omega]
end
theorem truth_spec (a b : Bool) (h : AH) : c__law_is_truth [.bl a, .bl b] h = .ok (.bl (a == b)) h := by
  have e : c__law_is_truth [.bl a, .bl b] h = gc h (.ok (.bl (a == b)) h) := by
    unfold c__law_is_truth fsem
    have : oEq (.bl a) (.bl b) = fun h => .ok (.bl (a == b)) h := by
      funext h
      cases a <;> cases b <;> rfl
    simp [m__law_is_truth, this]
  rw [e, gc_same rfl]
theorem joined_as_spec {n : Nat} {ps : List (List Nat)} {prs : List (Nat × Nat)} {h : AH} (I : Inp n ps prs) {d : D} (hd : Rs d) {r : Nat} {ts : List (Nat × Nat)} (hr : h[r]? = some (.lst (ts.map dP))) :
    c__law_joined_as [d, .tup (ps.map dC), dN n, .tup (prs.map dP), .ref r] h = .ok (.bl true) h := by
  have e1 := fun h => ends_spec (h := h) I hd
  have j1 := fun h i j => joined_spec (h := h) I hd i j
  obtain ⟨e', h', w, x6, x7, rfl, rfl⟩ := liveL_inv (g := gVar 6) (b := lb__law_joined_as_1) (r := r) (ds := ts.map dP)
    (fun i e h' => ∃ x6 x7, e = [some d, some (.tup (ps.map dC)), some (dN n), some (.tup (prs.map dP)), some (.ref r), some (optP (endsOf n ps prs d)), x6, x7] ∧ h = h')
    (e := [some d, some (.tup (ps.map dC)), some (dN n), some (.tup (prs.map dP)), some (.ref r), some (optP (endsOf n ps prs d)), none, none]) (h := h)
    (by rintro i e h' ⟨x6, x7, rfl, rfl⟩; exact hr) ⟨none, none, rfl, rfl⟩ (by
      rintro i t e h' ht ⟨x6, x7, rfl, rfl⟩
      rw [List.getElem?_map] at ht
      obtain ⟨⟨a, b⟩, hx, rfl⟩ := Option.map_eq_some_iff.mp ht
      refine ⟨_, _, ?_, some (dP (a, b)), some (.bl (decide (endsOf n ps prs d = some (a, b)))), rfl, rfl⟩
      have q : ∀ h, oEq (optP (endsOf n ps prs d)) (.tup [dN a, dN b]) h = .ok (.bl (decide (endsOf n ps prs d = some (a, b)))) h := fun h => by
        cases endsOf n ps prs d with
        | none => exact oEq_nP (a, b) h
        | some x => 
          have := oEq_P x (a, b) h
          simpa [optP, dP] using this
      have j2 := fun h => j1 h a b
      simp only [dN] at j2 q
      simp [lb__law_joined_as_1, j2, q, dP, dN, truth_spec])
  have e : c__law_joined_as [d, .tup (ps.map dC), dN n, .tup (prs.map dP), .ref r] h = gc h (.ok (.bl true) h) := by
    unfold c__law_joined_as fsem
    cases he : endsOf n ps prs d with
    | none =>
      rw [he] at w e1
      simp [m__law_joined_as, e1, hr, w, optP]
      simp [optP] at w
      simp [w, D.isNon]
    | some x =>
      obtain ⟨a, b⟩ := x
      rw [he] at w e1
      have j2 : ∀ h, c_shows_joined [.tup (ps.map dC), .int n, .tup (prs.map dP), .int a, .int b, d] h = .ok (.bl true) h := fun h => by
        have := j1 h a b
        rw [he] at this
        simpa using this
      simp [optP] at w e1
      simp [m__law_joined_as, e1, hr, w, optP]
      simp [dP, D.isNon, dN] at w ⊢
      simp [w, j2, truth_spec, D.isNon]
  rw [e, gc_same rfl]
end Law

set_option maxHeartbeats 1000000
namespace Law
open PySem Rf L2
section
variable {n : Nat} {ps : List (List Nat)} {prs es : List (Nat × Nat)}
theorem pSelf {t : Nat} (h : t < n) : pairOf n ps prs es (.tup [.str sSelf, dN t]) = some (t, t) := by
  simp only [pairOf]
  rw [if_pos (by decide), idx_N, if_pos h]; rfl
theorem pTold {t : Nat} (h : t < prs.length) : pairOf n ps prs es (.tup [.str sTold, dN t]) = some (prs.getD t (0, 0)) := by
  simp only [pairOf]
  rw [if_neg (by decide), if_pos (by decide), idx_N, if_pos h]; rfl
theorem pSwap {t : Nat} (h : t < es.length) : pairOf n ps prs es (.tup [.str sSwap, dN t]) = some ((es.getD t (0, 0)).2, (es.getD t (0, 0)).1) := by
  simp only [pairOf]
  rw [if_neg (by decide), if_neg (by decide), if_pos (by decide), idx_N, if_pos h]; rfl
theorem pMoved {t k : Nat} (h : t < es.length) (hk : k < ps.length) : pairOf n ps prs es (.tup [.str sMoved, dN t, dN k]) = some ((ps.getD k []).getD (es.getD t (0, 0)).1 0, (ps.getD k []).getD (es.getD t (0, 0)).2 0) := by
  simp only [pairOf]
  rw [idx_N, if_pos h, Option.bind_some, if_pos (by decide), idx_N, if_pos hk]; rfl
theorem pThru {t k : Nat} (h : t < es.length) (hk : k < es.length) (e : (es.getD k (0, 0)).1 = (es.getD t (0, 0)).2) : pairOf n ps prs es (.tup [.str sThru, dN t, dN k]) = some ((es.getD t (0, 0)).1, (es.getD k (0, 0)).2) := by
  simp only [pairOf]
  rw [idx_N, if_pos h, Option.bind_some, if_neg (by decide), if_pos (by decide), idx_N, if_pos hk, Option.bind_some, if_pos e]
end
theorem B0_self : B0 (.str sSelf) := ok_self
theorem B0_told : B0 (.str sTold) := ok_told
theorem B0_swap : B0 (.str sSwap) := ok_swap
theorem B0_moved : B0 (.str sMoved) := ok_moved
theorem B0_thru : B0 (.str sThru) := ok_thru
theorem W0_N (k : Nat) : W0 (dN k) := .inl trivial
/-- a line of a right form: two or three values -/
def Gl (l : D) : Prop := ∃ ws, l = .tup ws ∧ 2 ≤ ws.length ∧ ws.length ≤ 3 ∧ ∀ w ∈ ws, W0 w
theorem Gl.ln {l : D} (g : Gl l) : Ln l := by
  obtain ⟨ws, rfl, _, h, w⟩ := g
  exact .inr ⟨ws, rfl, by omega, w⟩
theorem Gl.two {s : Str} {k : Nat} (hs : B0 (.str s)) : Gl (.tup [.str s, dN k]) := ⟨_, rfl, by simp, by simp, fun w hw => by
  simp at hw
  rcases hw with rfl | rfl
  · exact .inl hs
  · exact W0_N _⟩
theorem Gl.three {s : Str} {k j : Nat} (hs : B0 (.str s)) : Gl (.tup [.str s, dN k, dN j]) := ⟨_, rfl, by simp, by simp, fun w hw => by
  simp at hw
  rcases hw with rfl | rfl | rfl
  · exact .inl hs
  · exact W0_N _
  · exact W0_N _⟩
/-- the heap of drawn -/
def HB (h : AH) (a : Nat) (o : AO) (ls : List D) (es : List (Nat × Nat)) (g : AH) : AH := h.set a o ++ (.lst ls :: .lst (es.map dP) :: g)
section
variable {h : AH} {a : Nat} {o : AO} {ls : List D} {es : List (Nat × Nat)} {g : AH}
theorem HB_a (ha : a < h.length) : (HB h a o ls es g)[a]? = some o := app_get_l (List.getElem?_set_self ha)
theorem HB_0 : (HB h a o ls es g)[h.length]? = some (.lst ls) := by unfold HB; rw [app_get0]; rfl
theorem HB_1 : (HB h a o ls es g)[h.length + 1]? = some (.lst (es.map dP)) := by
  unfold HB
  have := app_get (h := h.set a o) (g := .lst ls :: .lst (es.map dP) :: g) (i := 1)
  rwa [List.length_set] at this
theorem HB_g {i : Nat} : (HB h a o ls es g)[h.length + 2 + i]? = g[i]? := by
  unfold HB
  have := app_get (h := h.set a o) (g := .lst ls :: .lst (es.map dP) :: g) (i := 2 + i)
  rw [List.length_set] at this
  rw [Nat.add_assoc, this, Nat.add_comm 2 i]; rfl
theorem HB_len : (HB h a o ls es g).length = h.length + 2 + g.length := by unfold HB; simp; omega
theorem HB_sa (ha : a < h.length) (o' : AO) : (HB h a o ls es g).set a o' = HB h a o' ls es g := by
  unfold HB; rw [app_set_l (by simpa using ha), List.set_set]
theorem HB_s0 (v : List D) : (HB h a o ls es g).set h.length (.lst v) = HB h a o v es g := by
  unfold HB
  have := app_set (h := h.set a o) (g := .lst ls :: .lst (es.map dP) :: g) (i := 0) (n := h.length) (o := .lst v) (by simp)
  rw [Nat.add_zero] at this
  rw [this]; rfl
theorem HB_s1 (v : List D) {es' : List (Nat × Nat)} (e : v = es'.map dP) : (HB h a o ls es g).set (h.length + 1) (.lst v) = HB h a o ls es' g := by
  subst e
  unfold HB; rw [app_set (i := 1) (by simp)]; rfl
theorem HB_app (x : AH) : HB h a o ls es g ++ x = HB h a o ls es (g ++ x) := by unfold HB; simp
theorem HB_take (ha : a < h.length) {N : Nat} (B : Bag N o) (hN : N ≤ 1000000000) {s : Nat} (hs : 0 < s) (hs2 : s < 10 ^ 60) : ∃ (d : Nat) (o' : AO), c__law_take [.ref a, .int s] (HB h a o ls es g) = .ok (.int d) (HB h a o' ls es g) ∧ d < s ∧ Bag (N + 1) o' := by
  obtain ⟨d, o', e, hd, B'⟩ := take_spec (s := (s : Int)) (HB_a (o := o) (ls := ls) (es := es) (g := g) ha) B hN (by omega) (by omega)
  rw [HB_sa ha] at e
  exact ⟨d, o', e, by omega, B'⟩
end
theorem drawn_spec {n : Nat} {ps : List (List Nat)} {prs : List (Nat × Nat)} (I : Inp n ps prs) {h : AH} {a N : Nat} {o : AO} (ha : h[a]? = some o) (hb : Bag N o) (hN : N + 1000 ≤ 1000000000) :
    ∃ (ls : List D) (o' : AO) (es : List (Nat × Nat)), c__law_drawn [.ref a, .tup (ps.map dC), dN n, .tup (prs.map dP)] h = .ok (.tup ls) (h.set a o') ∧ 0 < ls.length ∧ ls.length ≤ 10 ∧ (∀ l ∈ ls, Gl l) ∧ readAll n ps prs ls [] = some es ∧ Bag (N + 1000) o' := by
  have hal := (List.getElem?_eq_some_iff.mp ha).1
  have n1 := I.n1
  have n2 := I.n2
  have pl := I.pl
  have rl := I.rl
  obtain ⟨u, o0, e0, hu, B0'⟩ := HB_take (h := h) (a := a) (o := o) (ls := []) (es := []) (g := []) hal hb (by omega) (s := 10) (by omega) (by omega)
  replace e0 : c__law_take [.ref a, .int 10] (HB h a o [] [] []) = .ok (.int u) (HB h a o0 [] [] []) := e0
  obtain ⟨e', h', w, x6, x7, x8, x9, x10, x11, ls, es, g, o', rfl, rfl, len, gl, rd, B⟩ := loopN (k := 6) (b := lb__law_drawn_1)
    (fun i e h' => ∃ x6 x7 x8 x9 x10 x11 ls es g o', e = [some (.ref a), some (.tup (ps.map dC)), some (dN n), some (.tup (prs.map dP)), some (.ref h.length), some (.ref (h.length + 1)), x6, x7, x8, x9, x10, x11] ∧ h' = HB h a o' ls es g ∧ ls.length = i ∧ (∀ l ∈ ls, Gl l) ∧ readAll n ps prs ls [] = some es ∧ Bag (N + 1 + 10 * i) o')
    (1 + u) (e := [some (.ref a), some (.tup (ps.map dC)), some (dN n), some (.tup (prs.map dP)), some (.ref h.length), some (.ref (h.length + 1)), none, none, none, none, none, none]) (h := HB h a o0 [] [] [])
    ⟨none, none, none, none, none, none, [], [], [], o0, rfl, rfl, rfl, fun l hl => absurd hl (by simp), rfl, B0'⟩ (by
      rintro i e h' hi ⟨x6, x7, x8, x9, x10, x11, ls, es, g, o', rfl, rfl, len, gl, rd, B⟩
      have elen : es.length = i := by have := readAll_len rd; simp at this; omega
      have E : EsOk n es := readAll_lt I rd fun x hx => absurd hx (by simp)
      have ap : ∀ r v h, appO (some (.lst ls)) r v h = .ok .non (h.set r (.lst (ls ++ [v]))) := fun r v h => appO_lst (by rw [sizeLine_eq]; omega)
      have ap2 : ∀ r v h, appO (some (.lst (es.map dP))) r v h = .ok .non (h.set r (.lst (es.map dP ++ [v]))) := fun r v h => appO_lst (by rw [List.length_map, sizeLine_eq]; omega)
      have tl : ∀ l x o g, Gl l → pairOf n ps prs es l = some x → c__law_line [l, .ref (h.length + 1), .tup (ps.map dC), .int n, .tup (prs.map dP)] (HB h a o (ls ++ [l]) es g) = .ok (dP x) (HB h a o (ls ++ [l]) es g) := fun l x o g G q => by
        have := line_spec I E G.ln (HB_1 (h := h) (a := a) (o := o) (ls := ls ++ [l]) (g := g))
        rw [q] at this
        exact this
      have s1 : ∀ l x o g, (HB h a o (ls ++ [l]) es g).set (h.length + 1) (.lst (es.map dP ++ [dP x])) = HB h a o (ls ++ [l]) (es ++ [x]) g := fun l x o g => HB_s1 _ (by simp)
      obtain ⟨d, o1, t1, hd, B1⟩ := HB_take (h := h) (a := a) (o := o') (ls := ls) (es := es) (g := g) hal B (by omega) (s := 5) (by omega) (by omega)
      obtain ⟨t, o2, t2, ht, B2⟩ := HB_take (h := h) (a := a) (o := o1) (ls := ls) (es := es) (g := g) hal B1 (by omega) (s := n) (by omega) (by omega)
      replace t1 : c__law_take [.ref a, .int 5] (HB h a o' ls es g) = .ok (.int d) (HB h a o1 ls es g) := t1
      have fin : ∀ (l : D) (x : Nat × Nat) (o4 : AO) (g4 : AH) (x7' x9' x10' : Option D), Gl l → pairOf n ps prs es l = some x → Bag (N + 1 + 10 * i + 9) o4 →
          lb__law_drawn_1 [some (.ref a), some (.tup (ps.map dC)), some (dN n), some (.tup (prs.map dP)), some (.ref h.length), some (.ref (h.length + 1)), some (dN i), x7, x8, x9, x10, x11] (HB h a o' ls es g) =
            .nx [some (.ref a), some (.tup (ps.map dC)), some (dN n), some (.tup (prs.map dP)), some (.ref h.length), some (.ref (h.length + 1)), some (dN i), x7', some l, x9', x10', x11] (HB h a o4 (ls ++ [l]) (es ++ [x]) g4) →
          ∃ e' h', lb__law_drawn_1 ([some (.ref a), some (.tup (ps.map dC)), some (dN n), some (.tup (prs.map dP)), some (.ref h.length), some (.ref (h.length + 1)), x6, x7, x8, x9, x10, x11].set 6 (some (dN i))) (HB h a o' ls es g) = .nx e' h' ∧
            ∃ x6 x7 x8 x9 x10 x11 ls es g o', e' = [some (.ref a), some (.tup (ps.map dC)), some (dN n), some (.tup (prs.map dP)), some (.ref h.length), some (.ref (h.length + 1)), x6, x7, x8, x9, x10, x11] ∧ h' = HB h a o' ls es g ∧ ls.length = i + 1 ∧ (∀ l ∈ ls, Gl l) ∧ readAll n ps prs ls [] = some es ∧ Bag (N + 1 + 10 * (i + 1)) o' := by
        intro l x o4 g4 x7' x9' x10' G q B4 hq
        refine ⟨_, _, hq, some (dN i), x7', some l, x9', x10', x11, ls ++ [l], es ++ [x], g4, o4, rfl, rfl, by simp [len], fun m hm => ?_, ?_, B4.mono (by omega)⟩
        · rcases List.mem_append.mp hm with hm | hm
          · exact gl m hm
          · rw [List.mem_singleton.mp hm]; exact G
        · rw [readAll_app, rd, Option.bind_some]
          show (pairOf n ps prs es l).bind _ = _
          rw [q]; rfl
      have Gs : Gl (.tup [.str sSelf, .int t]) := Gl.two B0_self
      have qs : pairOf n ps prs es (.tup [.str sSelf, .int t]) = some (t, t) := pSelf ht
      have ts := fun o g => tl _ _ o g Gs qs
      have ft : Fits 2 := fits (by decide)
      have hd5 : d = 0 ∨ d = 1 ∨ d = 2 ∨ d = 3 ∨ d = 4 := by omega
      simp only [dN] at *
      rcases hd5 with rfl | rfl | rfl | rfl | rfl
      · refine fin _ _ o2 g (some (.int (0 : Nat))) x9 x10 Gs qs (B2.mono (by omega)) ?_
        simp [lb__law_drawn_1, t1, t2, HB_0, HB_1, ap, ap2, HB_s0, ts, s1]
      · by_cases c : 0 < prs.length
        · obtain ⟨v, o3, t3, hv, B3⟩ := HB_take (h := h) (a := a) (o := o2) (ls := ls) (es := es) (g := g) hal B2 (by omega) (s := prs.length) c (by omega)
          have G := Gl.two (k := v) B0_told
          have q : pairOf n ps prs es (.tup [.str sTold, .int v]) = _ := pTold hv
          have tt := fun o g => tl _ _ o g G q
          simp only [dN] at tt G
          refine fin _ _ o3 g (some (.int (1 : Nat))) x9 x10 G q (B3.mono (by omega)) ?_
          simp [lb__law_drawn_1, t1, t2, t3, c, HB_0, HB_1, ap, ap2, HB_s0, tt, s1, -List.getD_eq_getElem?_getD]
        · refine fin _ _ o2 g (some (.int (1 : Nat))) x9 x10 Gs qs (B2.mono (by omega)) ?_
          simp [lb__law_drawn_1, t1, t2, c, HB_0, HB_1, ap, ap2, HB_s0, ts, s1]
      · by_cases c : 0 < i
        · obtain ⟨v, o3, t3, hv, B3⟩ := HB_take (h := h) (a := a) (o := o2) (ls := ls) (es := es) (g := g) hal B2 (by omega) (s := i) c (by omega)
          have G := Gl.two (k := v) B0_swap
          have q : pairOf n ps prs es (.tup [.str sSwap, .int v]) = _ := pSwap (by rw [elen]; exact hv)
          have tt := fun o g => tl _ _ o g G q
          simp only [dN] at tt G
          refine fin _ _ o3 g (some (.int (2 : Nat))) x9 x10 G q (B3.mono (by omega)) ?_
          simp [lb__law_drawn_1, t1, t2, t3, c, HB_0, HB_1, ap, ap2, HB_s0, tt, s1, -List.getD_eq_getElem?_getD]
        · refine fin _ _ o2 g (some (.int (2 : Nat))) x9 x10 Gs qs (B2.mono (by omega)) ?_
          simp [lb__law_drawn_1, t1, t2, c, HB_0, HB_1, ap, ap2, HB_s0, ts, s1]
      · by_cases c : 0 < i
        · by_cases c2 : 0 < ps.length
          · obtain ⟨v, o3, t3, hv, B3⟩ := HB_take (h := h) (a := a) (o := o2) (ls := ls) (es := es) (g := g) hal B2 (by omega) (s := i) c (by omega)
            obtain ⟨v2, o4, t4, hv2, B4⟩ := HB_take (h := h) (a := a) (o := o3) (ls := ls) (es := es) (g := g) hal B3 (by omega) (s := ps.length) c2 (by omega)
            have G := Gl.three (k := v) (j := v2) B0_moved
            have q : pairOf n ps prs es (.tup [.str sMoved, .int v, .int v2]) = _ := pMoved (by rw [elen]; exact hv) hv2
            have tt := fun o g => tl _ _ o g G q
            simp only [dN] at tt G
            refine fin _ _ o4 g (some (.int (3 : Nat))) x9 x10 G q (B4.mono (by omega)) ?_
            simp [lb__law_drawn_1, t1, t2, t3, t4, c, c2, HB_0, HB_1, ap, ap2, HB_s0, tt, s1, -List.getD_eq_getElem?_getD]
          · refine fin _ _ o2 g (some (.int (3 : Nat))) x9 x10 Gs qs (B2.mono (by omega)) ?_
            simp [lb__law_drawn_1, t1, t2, c, c2, HB_0, HB_1, ap, ap2, HB_s0, ts, s1]
        · refine fin _ _ o2 g (some (.int (3 : Nat))) x9 x10 Gs qs (B2.mono (by omega)) ?_
          simp [lb__law_drawn_1, t1, t2, c, HB_0, HB_1, ap, ap2, HB_s0, ts, s1]
      · by_cases c : 0 < i
        · obtain ⟨v, o3, t3, hv, B3⟩ := HB_take (h := h) (a := a) (o := o2) (ls := ls) (es := es) (g := g) hal B2 (by omega) (s := i) c (by omega)
          have l0 : ∀ x10, lc__law_drawn_1 [some (.ref a), some (.tup (ps.map dC)), some (.int n), some (.tup (prs.map dP)), some (.ref h.length), some (.ref (h.length + 1)), some (.int i), some (.int 4), some (.tup [.str sSelf, .int t]), some (.int v), x10, x11] (HB h a o3 ls es g) =
              .ok (.ref (h.length + 2 + g.length)) (HB h a o3 ls es (g ++ [.lst (((List.range i).filter fun x => (es.getD x (0, 0)).1 == (es.getD v (0, 0)).2).map dN)])) := by
            intro x10
            unfold lc__law_drawn_1
            rw [eLc_pure (φ := dN) (List.range i) (fun x => (es.getD x (0, 0)).1 == (es.getD v (0, 0)).2) dN (h1 := HB h a o3 ls es g) (iRange1_nat (by simp) (by omega)) (by rw [List.length_range, sizeLine_eq]; omega)]
            · rw [HB_len, HB_app]
            · intro k hk
              rw [List.mem_range] at hk
              have y1 : ∀ h, ixD (es.map dP) (k : Int) h = .ok (.tup [.int ((es.getD k (0, 0)).1 : Nat), .int ((es.getD k (0, 0)).2 : Nat)]) h := fun h => ixD_map (getD_some (by omega))
              have y2 : ∀ h, ixD (es.map dP) (v : Int) h = .ok (.tup [.int ((es.getD v (0, 0)).1 : Nat), .int ((es.getD v (0, 0)).2 : Nat)]) h := fun h => ixD_map (getD_some (by omega))
              simp [wipeE, dN, HB_1, y1, y2, -List.getD_eq_getElem?_getD]
            · intro k hk _
              simp [wipeE]
          have hf : ∀ x ∈ (List.range i).filter (fun x => (es.getD x (0, 0)).1 == (es.getD v (0, 0)).2), x < i ∧ (es.getD x (0, 0)).1 = (es.getD v (0, 0)).2 := fun x hx => by
            have := List.mem_filter.mp hx
            exact ⟨List.mem_range.mp this.1, by simpa using this.2⟩
          have hfl : ((List.range i).filter (fun x => (es.getD x (0, 0)).1 == (es.getD v (0, 0)).2)).length ≤ i := Nat.le_trans (List.length_filter_le _ _) (by simp)
          generalize (List.range i).filter (fun x => (es.getD x (0, 0)).1 == (es.getD v (0, 0)).2) = F at l0 hf hfl
          have gF : ∀ o ls es, (HB h a o ls es (g ++ [.lst (F.map dN)]))[h.length + 2 + g.length]? = some (.lst (F.map dN)) := fun o ls es => by rw [HB_g]; simp
          by_cases c2 : 0 < F.length
          · obtain ⟨v2, o4, t4, hv2, B4⟩ := HB_take (h := h) (a := a) (o := o3) (ls := ls) (es := es) (g := g ++ [.lst (F.map dN)]) hal B3 (by omega) (s := F.length) c2 (by omega)
            have z := hf _ (getD_mem (d := 0) hv2)
            have x2 : ∀ h, ixD (F.map dN) (v2 : Int) h = .ok (dN (F.getD v2 0)) h := fun h => ixD_N hv2
            have G := Gl.three (k := v) (j := F.getD v2 0) B0_thru
            have q : pairOf n ps prs es (.tup [.str sThru, dN v, dN (F.getD v2 0)]) = _ := pThru (by rw [elen]; exact hv) (by rw [elen]; exact z.1) z.2
            have tt := fun o g => tl _ _ o g G q
            simp only [dN] at tt G q x2 l0 gF t4 ⊢
            refine fin _ _ o4 (g ++ [.lst (F.map dN)]) (some (.int (4 : Nat))) (some (.int v)) (some (.ref (h.length + 2 + g.length))) G q (B4.mono (by omega)) ?_
            simp [lb__law_drawn_1, t1, t2, t3, l0, t4, c, c2, gF, x2, HB_0, HB_1, ap, ap2, HB_s0, tt, s1, -List.getD_eq_getElem?_getD]
          · refine fin _ _ o3 (g ++ [.lst (F.map dN)]) (some (.int (4 : Nat))) (some (.int v)) (some (.ref (h.length + 2 + g.length))) Gs qs (B3.mono (by omega)) ?_
            simp [lb__law_drawn_1, t1, t2, t3, l0, c, c2, gF, HB_0, HB_1, ap, ap2, HB_s0, ts, s1, -List.getD_eq_getElem?_getD]
        · refine fin _ _ o2 g (some (.int (4 : Nat))) x9 x10 Gs qs (B2.mono (by omega)) ?_
          simp [lb__law_drawn_1, t1, t2, c, HB_0, HB_1, ap, ap2, HB_s0, ts, s1])
  refine ⟨ls, o', es, ?_, by omega, by omega, gl, rd, B.mono (by omega)⟩
  have r1 : RgB ((1 + u : Nat) : Int) := rgB_nat (by omega)
  have h0 : h ++ [AO.lst [], AO.lst []] = HB h a o [] [] [] := by unfold HB; rw [set_self ha]; rfl
  have e : c__law_drawn [.ref a, .tup (ps.map dC), dN n, .tup (prs.map dP)] h = gc h (.ok (.tup ls) (HB h a o' ls es g)) := by
    unfold c__law_drawn fsem
    have r1' : RgB (1 + (u : Int)) := by simpa using r1
    have r3 : (1 + (u : Int)).toNat = 1 + u := by omega
    simp [m__law_drawn, h0, e0, r1', r3, rg_zero]
    simp only [dN] at w
    simp [w, HB_0, dN]
  rw [e]
  unfold HB
  have pl' : (D.tup ls).pure = true := pures_iff.mpr fun d hd => (gl d hd).ln.pure
  rw [gc_set_app pl' B.flat]
end Law

set_option maxHeartbeats 1000000
/-! plain: the links of a join -/
namespace Law
open PySem Rf L2
section
variable {n : Nat} {ps : List (List Nat)} {prs line : List (Nat × Nat)} {L : List Nat} {at_ m a b : Nat}
theorem LB.skip (B : LB n ps prs line L at_ m) (c2 : at_ < line.length) (hx : line.getD at_ (0, 0) = (a, b)) (q : L.getD a 0 = L.getD b 0) : LB n ps prs line L (at_ + 1) (m - 1) := by
  refine ⟨B.len, B.can, by omega, B.lt, B.sub, fun t ht => ?_, B.fl, B.fr, B.cl, B.sz, ?_⟩
  · by_cases t2 : t = at_
    · subst t2; rw [hx]; exact q
    · exact B.done t (by omega)
  · have := B.ms; omega
theorem LB.step (I : Inp n ps prs) (B : LB n ps prs line L at_ m) (c2 : at_ < line.length) (hx : line.getD at_ (0, 0) = (a, b)) (q : ¬ L.getD a 0 = L.getD b 0) :
    LB n ps prs (line ++ ps.map fun p => (p.getD a 0, p.getD b 0)) (mrg L a b) (at_ + 1) ((line.length + ps.length - (at_ + 1)) + cnt (mrg L a b) * (ps.length + 1)) := by
  have n1 := I.n1
  have n2 := I.n2
  have le := B.le
  have hm : (a, b) ∈ line := by rw [← hx]; exact getD_mem c2
  obtain ⟨ha, hb⟩ := B.lt _ hm
  simp only at ha hb
  have lL := B.len
  have cc := mrg_cnt B.can (by omega) (by omega) q
  have cm : (cnt (mrg L a b) + 1) * ps.length ≤ cnt L * ps.length := Nat.mul_le_mul_right _ cc
  rw [Nat.add_mul, Nat.one_mul] at cm
  have sz := B.sz
  have hab : ∀ f, Good n ps prs f → f a = f b := fun f G => B.fl f G _ hm
  have mk : ∀ x ∈ line ++ ps.map (fun p => (p.getD a 0, p.getD b 0)), x ∈ line ∨ ∃ p ∈ ps, x = (p.getD a 0, p.getD b 0) := fun x hx => by
    rcases List.mem_append.mp hx with h | h
    · exact .inl h
    · obtain ⟨p, hp, rfl⟩ := List.mem_map.mp h
      exact .inr ⟨p, hp, rfl⟩
  refine ⟨by rw [mrg_len, lL], mrg_canon B.can (by omega) (by omega), by simp; omega, fun x hx => ?_, fun x hx => List.mem_append_left _ (B.sub x hx), fun t ht => ?_, fun f G x hx => ?_, fun f G i j hi hj e => ?_, fun g hg p hp i j hi hj e => ?_, by rw [List.length_append, List.length_map]; omega, by rw [List.length_append, List.length_map]⟩
  · rcases mk x hx with h | ⟨p, hp, rfl⟩
    · exact B.lt x h
    · exact ⟨(I.pm p hp).lt a ha, (I.pm p hp).lt b hb⟩
  · have tl : t < line.length := by omega
    have e0 : (line ++ ps.map fun p => (p.getD a 0, p.getD b 0)).getD t (0, 0) = line.getD t (0, 0) := by
      rw [List.getD_eq_getElem?_getD, List.getD_eq_getElem?_getD, List.getElem?_append_left tl]
    rw [e0]
    by_cases t2 : t = at_
    · subst t2; rw [hx]; exact mrg_do (by omega) (by omega)
    · have lt := B.lt _ (getD_mem (d := ((0, 0) : Nat × Nat)) tl)
      exact mrg_keep (by omega) (by omega) (B.done t (by omega))
  · rcases mk x hx with h | ⟨p, hp, rfl⟩
    · exact B.fl f G x h
    · exact G.cl p hp a b ha hb (hab f G)
  · rcases mrg_eq (by omega) (by omega) e with h | ⟨h1, h2⟩ | ⟨h1, h2⟩
    · exact B.fr f G i j hi hj h
    · rw [B.fr f G i a hi ha h1, hab f G, ← B.fr f G j b hj hb h2]
    · rw [B.fr f G i b hi hb h1, ← hab f G, ← B.fr f G j a hj ha h2]
  · have gl : ∀ x ∈ line, g x.1 = g x.2 := fun x hx => hg x (List.mem_append_left _ hx)
    have gp : g (p.getD a 0) = g (p.getD b 0) := hg (p.getD a 0, p.getD b 0) (List.mem_append_right _ (List.mem_map.mpr ⟨p, hp, rfl⟩))
    rcases mrg_eq (by omega) (by omega) e with h | ⟨h1, h2⟩ | ⟨h1, h2⟩
    · exact B.cl g gl p hp i j hi hj h
    · rw [B.cl g gl p hp i a hi ha h1, gp, ← B.cl g gl p hp j b hj hb h2]
    · rw [B.cl g gl p hp i b hi hb h1, ← gp, ← B.cl g gl p hp j a hj ha h2]
end
/-- the labels are those of the links -/
structure LK (n : Nat) (E : List (Nat × Nat)) (L : List Nat) : Prop where
  lt : EsOk n E
  fr : ∀ f : Nat → Nat, (∀ x ∈ E, f x.1 = f x.2) → ∀ i j, i < n → j < n → L.getD i 0 = L.getD j 0 → f i = f j
  sz : E.length + cnt L ≤ n
theorem LK.start (n : Nat) : LK n [] (List.range n) := ⟨fun x hx => absurd hx (by simp), fun f _ i j hi hj e => range_eq hi hj e, by have := cnt_le (L := List.range n); simp at this ⊢; omega⟩
theorem LK.step {n : Nat} {E : List (Nat × Nat)} {L : List Nat} (K : LK n E L) (C : Canon L) (hl : L.length = n) {a b : Nat} (ha : a < n) (hb : b < n) (q : ¬ L.getD a 0 = L.getD b 0) : LK n (E ++ [(a, b)]) (mrg L a b) := by
  have cc := mrg_cnt C (by omega) (by omega) q
  have sz := K.sz
  refine ⟨fun x hx => ?_, fun f hf i j hi hj e => ?_, by rw [List.length_append, List.length_singleton]; omega⟩
  · rcases List.mem_append.mp hx with h | h
    · exact K.lt x h
    · rw [List.mem_singleton.mp h]; exact ⟨ha, hb⟩
  · have h1 : ∀ x ∈ E, f x.1 = f x.2 := fun x hx => hf x (List.mem_append_left _ hx)
    have hab : f a = f b := hf (a, b) (by simp)
    rcases mrg_eq (by omega) (by omega) e with h | ⟨e1, e2⟩ | ⟨e1, e2⟩
    · exact K.fr f h1 i j hi hj h
    · rw [K.fr f h1 i a hi ha e1, hab, ← K.fr f h1 j b hj hb e2]
    · rw [K.fr f h1 i b hi hb e1, ← hab, ← K.fr f h1 j a hj ha e2]
open Classical in
theorem LK.conn {n : Nat} {E : List (Nat × Nat)} {L : List Nat} (K : LK n E L) {i j : Nat} (hi : i < n) (hj : j < n) (e : L.getD i 0 = L.getD j 0) (S : Nat → Prop) (h0 : S i) (hs : ∀ x ∈ E, S x.1 ↔ S x.2) : S j := by
  have := K.fr (fun x => if S x then 1 else 0) (fun x hx => by
    have := hs x hx
    by_cases q : S x.1
    · rw [if_pos q, if_pos (this.mp q)]
    · rw [if_neg q, if_neg fun z => q (this.mpr z)]) i j hi hj e
  by_cases q : S j
  · exact q
  · have e1 : (if S i then 1 else 0) = (if S j then 1 else 0) := this
    rw [if_pos h0, if_neg q] at e1
    exact absurd e1 (by omega)
/-- a walk over links -/
def Wk (E : List (Nat × Nat)) : Nat → List (Nat × Bool) → Nat → Prop
  | x, [], y => x = y
  | x, (k, w) :: r, y => k < E.length ∧ (if w then (E.getD k (0, 0)).2 = x ∧ Wk E (E.getD k (0, 0)).1 r y else (E.getD k (0, 0)).1 = x ∧ Wk E (E.getD k (0, 0)).2 r y)
/-- the points reached so far, each with the link by which it was reached -/
structure BC (n : Nat) (E : List (Nat × Nat)) (i : Nat) (came : List (Option (Nat × Nat × Bool))) (line : List Nat) : Prop where
  cl : came.length = n
  nd : line.Nodup
  lt : ∀ x ∈ line, x < n
  iff : ∀ x, x < n → ((came.getD x none).isSome = true ↔ x ∈ line)
  pos : 0 < line.length
  hd : line.getD 0 0 = i
  pa : ∀ t, 0 < t → t < line.length → ∃ p k w, came.getD (line.getD t 0) none = some (p, k, w) ∧ (∃ s, s < t ∧ line.getD s 0 = p) ∧ k < E.length ∧ (if w then (E.getD k (0, 0)).2 = p ∧ (E.getD k (0, 0)).1 = line.getD t 0 else (E.getD k (0, 0)).1 = p ∧ (E.getD k (0, 0)).2 = line.getD t 0)
theorem getD_setO {α : Type} {p : List α} {i j : Nat} {v d : α} (hi : i < p.length) : (p.set i v).getD j d = if i = j then v else p.getD j d := by
  rw [List.getD_eq_getElem?_getD, List.getElem?_set]
  split
  · rename_i e
    subst e
    simp
  · rw [List.getD_eq_getElem?_getD]
theorem getD_appO {α : Type} {p : List α} {j : Nat} {v d : α} : (p ++ [v]).getD j d = if j = p.length then v else p.getD j d := by
  simp only [List.getD_eq_getElem?_getD]
  by_cases h : j < p.length
  · rw [List.getElem?_append_left h, if_neg (by omega)]
  · by_cases h2 : j = p.length
    · subst h2; simp
    · rw [if_neg h2, List.getElem?_append_right (by omega), List.getElem?_eq_none (by simp; omega), List.getElem?_eq_none (by omega)]
theorem BC.add {n : Nat} {E : List (Nat × Nat)} {i : Nat} {came : List (Option (Nat × Nat × Bool))} {line : List Nat} (B : BC n E i came line) {s y k : Nat} {w : Bool} (hs : s < line.length) (hy : y < n) (hn : y ∉ line) (hk : k < E.length)
    (he : if w then (E.getD k (0, 0)).2 = line.getD s 0 ∧ (E.getD k (0, 0)).1 = y else (E.getD k (0, 0)).1 = line.getD s 0 ∧ (E.getD k (0, 0)).2 = y) : BC n E i (came.set y (some (line.getD s 0, k, w))) (line ++ [y]) := by
  have cl := B.cl
  refine ⟨by simp [cl], ?_, fun x hx => ?_, fun x hx => ?_, by simp, ?_, fun t h0 ht => ?_⟩
  · rw [List.nodup_append]
    refine ⟨B.nd, by simp, fun a ha b hb e => ?_⟩
    rw [List.mem_singleton.mp hb] at e
    rw [e] at ha; exact hn ha
  · rcases List.mem_append.mp hx with h | h
    · exact B.lt x h
    · rw [List.mem_singleton.mp h]; exact hy
  · rw [getD_setO (by omega)]
    by_cases q : y = x
    · rw [if_pos q]; simp [q]
    · rw [if_neg q, B.iff x hx]
      simp [Ne.symm q]
  · rw [getD_appO, if_neg (by have := B.pos; omega)]; exact B.hd
  · rw [List.length_append, List.length_singleton] at ht
    by_cases q : t = line.length
    · subst q
      rw [getD_appO, if_pos rfl, getD_setO (by omega), if_pos rfl]
      exact ⟨_, k, w, rfl, ⟨s, hs, by rw [getD_appO, if_neg (by omega)]⟩, hk, he⟩
    · obtain ⟨p, k', w', e1, ⟨s', h1, h2⟩, h3, h4⟩ := B.pa t h0 (by omega)
      rw [getD_appO, if_neg q, getD_setO (by omega), if_neg (fun z => hn (by rw [z]; exact getD_mem (by omega)))]
      exact ⟨p, k', w', e1, ⟨s', h1, by rw [getD_appO, if_neg (by omega)]; exact h2⟩, h3, h4⟩
theorem BC.le {n : Nat} {E : List (Nat × Nat)} {i : Nat} {came : List (Option (Nat × Nat × Bool))} {line : List Nat} (B : BC n E i came line) : line.length ≤ n := by
  have := sub_length (l1 := line) (l2 := List.range n) B.nd fun x hx => List.mem_range.mpr (B.lt x hx)
  simpa using this
end Law

set_option maxHeartbeats 1000000
/-! the path over the links -/
namespace Law
open PySem Rf L2
def dO : Option (Nat × Nat × Bool) → D
  | none => .non
  | some (p, k, w) => .tup [dN p, dN k, .bl w]
def dS (x : Nat × Bool) : D := .tup [dN x.1, .bl x.2]
theorem dO_non (o : Option (Nat × Nat × Bool)) : (dO o).isNon = !o.isSome := by
  cases o <;> rfl
def HT (h : AH) (came : List (Option (Nat × Nat × Bool))) (line : List Nat) (g : AH) : AH := h ++ (.lst [.non] :: .lst (came.map dO) :: .lst (line.map dN) :: g)
section
variable {h : AH} {came came' : List (Option (Nat × Nat × Bool))} {line line' : List Nat} {g : AH}
theorem HT_old {r : Nat} {o : AO} (hr : h[r]? = some o) : (HT h came line g)[r]? = some o := app_get_l hr
theorem HT_1 : (HT h came line g)[h.length + 1]? = some (.lst (came.map dO)) := by unfold HT; rw [app_get]; rfl
theorem HT_2 : (HT h came line g)[h.length + 2]? = some (.lst (line.map dN)) := by unfold HT; rw [app_get]; rfl
theorem HT_3 {o : AO} : (HT h came line (o :: g))[h.length + 3]? = some o := by unfold HT; rw [app_get]; rfl
theorem HT_len : (HT h came line g).length = h.length + 3 + g.length := by unfold HT; simp; omega
theorem HT_s1 (v : List D) (e : v = came'.map dO) : (HT h came line g).set (h.length + 1) (.lst v) = HT h came' line g := by
  subst e; unfold HT; rw [app_set rfl]; rfl
theorem HT_s2 (v : List D) (e : v = line'.map dN) : (HT h came line g).set (h.length + 2) (.lst v) = HT h came line' g := by
  subst e; unfold HT; rw [app_set rfl]; rfl
theorem HT_s3 {o o' : AO} : (HT h came line (o :: g)).set (h.length + 3) o' = HT h came line (o' :: g) := by
  unfold HT; rw [app_set rfl]; rfl
theorem HT_app (x : AH) : HT h came line g ++ x = HT h came line (g ++ x) := by unfold HT; simp
end
noncomputable def ifT (u v : Nat) (w : Bool) : SM := (sIf (eAnd (eOp oEq (eVar u) (eVar 7)) (eOp oIs (eOp oIx (eVar 4) (eVar v)) (eC .non)))
    (sSeq (sAsg (eTup (lCons (eVar 7) (lCons (eVar 8) (lCons (eC (.bl w)) lNil)))) (fun d e h => onlyNx ((gSub putL (eVar 4) (eVar v)) d e h)))
  (sExpr (eMeth "list" mAppend (eVar 5) (lCons (eVar v) lNil))))
    sPass)
theorem tp2 : lb__tree_path_2 = sSeq (ifT 9 10 false) (ifT 10 9 true) := rfl
theorem ifT_spec {n : Nat} {E : List (Nat × Nat)} {i : Nat} {came : List (Option (Nat × Nat × Bool))} {line : List Nat} (B : BC n E i came line) (hn : n ≤ 100) {h g : AH} {s k u v x y : Nat} {w : Bool} (hs : s < line.length) (hy : y < n) (hk : k < E.length)
    (he : if w then (E.getD k (0, 0)).2 = x ∧ (E.getD k (0, 0)).1 = y else (E.getD k (0, 0)).1 = x ∧ (E.getD k (0, 0)).2 = y) {e : AE} (e4 : e[4]? = some (some (.ref (h.length + 1)))) (e5 : e[5]? = some (some (.ref (h.length + 2)))) (e7 : e[7]? = some (some (dN (line.getD s 0)))) (e8 : e[8]? = some (some (dN k))) (eu : e[u]? = some (some (dN x))) (ev : e[v]? = some (some (dN y))) :
    ∃ came' z, ifT u v w e (HT h came line g) = .nx e (HT h came' (line ++ z) g) ∧ BC n E i came' (line ++ z) ∧ (x = line.getD s 0 → y ∈ line ++ z) := by
  have cl := B.cl
  have x1 : ∀ h, ixD (came.map dO) (y : Int) h = .ok (dO (came.getD y none)) h := fun h => ixD_map (getD_some (by omega))
  simp only [dN] at e7 e8 eu ev
  by_cases q : x = line.getD s 0
  · by_cases q2 : y ∈ line
    · refine ⟨came, [], ?_, by rw [List.append_nil]; exact B, fun _ => by simpa using q2⟩
      have q3 := (B.iff y hy).mpr q2
      unfold ifT
      simp [e4, e5, e7, e8, eu, ev, HT_1, x1, dO_non, q3, q, -List.getD_eq_getElem?_getD]
    · have q3 : (came.getD y none).isSome = false := by
        cases hc : (came.getD y none).isSome with
        | true => exact absurd ((B.iff y hy).mp hc) q2
        | false => rfl
      have he' : if w then (E.getD k (0, 0)).2 = line.getD s 0 ∧ (E.getD k (0, 0)).1 = y else (E.getD k (0, 0)).1 = line.getD s 0 ∧ (E.getD k (0, 0)).2 = y := by rw [← q]; exact he
      refine ⟨came.set y (some (line.getD s 0, k, w)), [y], ?_, B.add hs hy q2 hk he', fun _ => by simp⟩
      have ll := B.le
      have ap : ∀ r v h, appO (some (.lst (line.map dN))) r v h = .ok .non (h.set r (.lst (line.map dN ++ [v]))) := fun r v h => appO_lst (by rw [List.length_map, sizeLine_eq]; omega)
      have pu : ∀ r v h, putO (some (.lst (came.map dO))) r (y : Int) v h = some (h.set r (.lst ((came.map dO).set y v))) := fun r v h => putO_nat (by simp; omega)
      have s1 : ∀ line g, (HT h came line g).set (h.length + 1) (.lst ((came.map dO).set y (.tup [.int ((line.getD s 0 : Nat)), .int k, .bl w]))) = HT h (came.set y (some (line.getD s 0, k, w))) line g := fun line g => HT_s1 _ (by rw [List.map_set]; rfl)
      have s2 : ∀ came g, (HT h came line g).set (h.length + 2) (.lst (line.map dN ++ [.int (y : Nat)])) = HT h came (line ++ [y]) g := fun came g => HT_s2 _ (by simp [dN])
      have f3 : Fits 3 := fits (by decide)
      unfold ifT
      simp [e4, e5, e7, e8, eu, ev, HT_1, HT_2, x1, dO_non, q3, q, pu, s1, ap, s2, -List.getD_eq_getElem?_getD, -List.map_set]
  · refine ⟨came, [], ?_, by rw [List.append_nil]; exact B, fun z => absurd z q⟩
    have q' : ¬ (x : Int) = (line.getD s 0 : Nat) := by omega
    unfold ifT
    simp [e4, e5, e7, e8, eu, ev, q, q', -List.getD_eq_getElem?_getD]
/-- what is closed behind the points done -/
def Cl (E : List (Nat × Nat)) (line : List Nat) (x : Nat) : Prop := ∀ y ∈ E, (y.1 = x → y.2 ∈ line) ∧ (y.2 = x → y.1 ∈ line)
theorem getD_pre {line z : List Nat} {s : Nat} (h : s < line.length) : (line ++ z).getD s 0 = line.getD s 0 := by
  rw [List.getD_eq_getElem?_getD, List.getD_eq_getElem?_getD, List.getElem?_append_left h]
theorem path_spec {n : Nat} {E : List (Nat × Nat)} {L : List Nat} (K : LK n E L) (n1 : 1 ≤ n) (hn : n ≤ 100) {i j : Nat} (hi : i < n) (hj : j < n) (hij : L.getD i 0 = L.getD j 0) {h : AH} {r : Nat} (hr : h[r]? = some (.lst (E.map dP))) :
    ∃ P : List (Nat × Bool), c__tree_path [.ref r, dN n, dN i, dN j] h = .ok (.ref h.length) (h ++ [.lst (P.map dS)]) ∧ Wk E i P j ∧ P.length ≤ n := by
  have El : E.length ≤ n := by have := K.sz; omega
  -- the first while: the points reached
  obtain ⟨e', h', w, came, line, x7, x8, x9, x10, rfl, rfl, B, done⟩ := while_ix (c := wc__tree_path_1) (b := lb__tree_path_1)
    (fun m e h' => ∃ came line at_ x7 x8 x9 x10, e = [some (.ref r), some (dN n), some (dN i), some (dN j), some (.ref (h.length + 1)), some (.ref (h.length + 2)), some (dN at_), x7, x8, x9, x10, none, none] ∧ h' = HT h came line [] ∧ BC n E i came line ∧ at_ ≤ line.length ∧ (∀ t, t < at_ → Cl E line (line.getD t 0)) ∧ m = n - at_)
    (fun e h' => ∃ came line x7 x8 x9 x10, e = [some (.ref r), some (dN n), some (dN i), some (dN j), some (.ref (h.length + 1)), some (.ref (h.length + 2)), some (dN line.length), x7, x8, x9, x10, none, none] ∧ h' = HT h came line [] ∧ BC n E i came line ∧ (∀ t, t < line.length → Cl E line (line.getD t 0)))
    (by
      rintro m e h' ⟨came, line, at_, x7, x8, x9, x10, rfl, rfl, B, hat, cl, rfl⟩
      by_cases c : at_ = line.length
      · subst c
        exact .inl ⟨_, by simp [wc__tree_path_1, HT_2], came, line, x7, x8, x9, x10, rfl, rfl, B, cl⟩
      · have c2 : at_ < line.length := by omega
        have ll := B.le
        refine .inr ⟨_, by simp [wc__tree_path_1, HT_2, c2]; rfl, ?_⟩
        have x1 : ∀ h, ixD (line.map dN) (at_ : Int) h = .ok (dN (line.getD at_ 0)) h := fun h => ixD_N c2
        obtain ⟨e', h', w, came', z, y8, y9, y10, rfl, rfl, B', C'⟩ := sFor_enumL (m := eVar 0) (g := gTup 2 (gCons (gVar 8) (gCons (gTup 2 (gCons (gVar 9) (gCons (gVar 10) gNils))) gNils))) (b := lb__tree_path_2) (r := r) (ds := E.map dP)
          (e := [some (.ref r), some (dN n), some (dN i), some (dN j), some (.ref (h.length + 1)), some (.ref (h.length + 2)), some (dN at_), some (dN (line.getD at_ 0)), x8, x9, x10, none, none]) (h := HT h came line []) (h1 := HT h came line [])
          (fun k e h' => ∃ came' z y8 y9 y10, e = [some (.ref r), some (dN n), some (dN i), some (dN j), some (.ref (h.length + 1)), some (.ref (h.length + 2)), some (dN at_), some (dN (line.getD at_ 0)), y8, y9, y10, none, none] ∧ h' = HT h came' (line ++ z) [] ∧ BC n E i came' (line ++ z) ∧
            ∀ t, t < k → ((E.getD t (0, 0)).1 = line.getD at_ 0 → (E.getD t (0, 0)).2 ∈ line ++ z) ∧ ((E.getD t (0, 0)).2 = line.getD at_ 0 → (E.getD t (0, 0)).1 ∈ line ++ z))
          rfl (by rintro k e h' ⟨_, _, _, _, _, rfl, rfl, _⟩; exact HT_old hr) ⟨came, [], x8, x9, x10, rfl, by rw [List.append_nil], by rw [List.append_nil]; exact B, fun t ht => absurd ht (by omega)⟩ (by
            rintro k d e h' hd ⟨came', z, y8, y9, y10, rfl, rfl, B', C'⟩
            rw [List.getElem?_map] at hd
            obtain ⟨⟨a, b⟩, hx, rfl⟩ := Option.map_eq_some_iff.mp hd
            have hk := (List.getElem?_eq_some_iff.mp hx).1
            have ex : E.getD k (0, 0) = (a, b) := by rw [List.getD_eq_getElem?_getD, hx]; rfl
            have lt := K.lt _ (List.mem_of_getElem? hx)
            simp only at lt
            have gp : (line ++ z).getD at_ 0 = line.getD at_ 0 := getD_pre c2
            obtain ⟨came1, z1, q1, B1, m1⟩ := ifT_spec B' hn (h := h) (g := []) (s := at_) (k := k) (u := 9) (v := 10) (x := a) (y := b) (w := false) (by rw [List.length_append]; omega) lt.2 hk (by rw [ex]; exact ⟨rfl, rfl⟩)
              (e := [some (.ref r), some (dN n), some (dN i), some (dN j), some (.ref (h.length + 1)), some (.ref (h.length + 2)), some (dN at_), some (dN (line.getD at_ 0)), some (dN k), some (dN a), some (dN b), none, none]) rfl rfl (by rw [gp]; rfl) rfl rfl rfl
            rw [gp] at m1
            have gp2 : (line ++ z ++ z1).getD at_ 0 = line.getD at_ 0 := by rw [getD_pre (by rw [List.length_append]; omega), gp]
            obtain ⟨came2, z2, q2, B2, m2⟩ := ifT_spec B1 hn (h := h) (g := []) (s := at_) (k := k) (u := 10) (v := 9) (x := b) (y := a) (w := true) (by rw [List.length_append, List.length_append]; omega) lt.1 hk (by rw [ex]; exact ⟨rfl, rfl⟩)
              (e := [some (.ref r), some (dN n), some (dN i), some (dN j), some (.ref (h.length + 1)), some (.ref (h.length + 2)), some (dN at_), some (dN (line.getD at_ 0)), some (dN k), some (dN a), some (dN b), none, none]) rfl rfl (by rw [gp2]; rfl) rfl rfl rfl
            rw [gp2] at m2
            have el : line ++ (z ++ (z1 ++ z2)) = line ++ z ++ z1 ++ z2 := by simp
            refine ⟨_, _, ?_, came2, z ++ (z1 ++ z2), some (dN k), some (dN a), some (dN b), rfl, rfl, by simpa using B2, fun t ht => ?_⟩
            · rw [tp2]
              simp only [dN] at q1 q2
              simp [dP, dN, q1, q2, -List.getD_eq_getElem?_getD]
              simpa using q2
            · by_cases tk : t = k
              · subst tk
                rw [ex]
                rw [el]
                exact ⟨fun e => List.mem_append_left _ (m1 e), m2⟩
              · obtain ⟨c1, c2⟩ := C' t (by omega)
                rw [el]
                exact ⟨fun e => List.mem_append_left _ (List.mem_append_left _ (c1 e)), fun e => List.mem_append_left _ (List.mem_append_left _ (c2 e))⟩)
        rw [List.length_map] at C'
        refine ⟨_, _, ?_, n - (at_ + 1), by omega, came', line ++ z, at_ + 1, some (dN (line.getD at_ 0)), y8, y9, y10, rfl, rfl, B', by rw [List.length_append]; omega, fun t ht => ?_, rfl⟩
        · simp only [dN] at w x1
          simp [lb__tree_path_1, HT_2, x1, dN, w, -List.getD_eq_getElem?_getD]
        · by_cases ta : t = at_
          · subst ta
            rw [getD_pre c2]
            intro y hy
            obtain ⟨k, hk, e⟩ := mem_getD (d := ((0, 0) : Nat × Nat)) hy
            have := C' k hk
            rw [e] at this
            exact this
          · rw [getD_pre (by omega)]
            intro y hy
            have := cl t (by omega) y hy
            exact ⟨fun e => List.mem_append_left _ (this.1 e), fun e => List.mem_append_left _ (this.2 e)⟩)
    n [some (.ref r), some (dN n), some (dN i), some (dN j), some (.ref (h.length + 1)), some (.ref (h.length + 2)), some (dN 0), none, none, none, none, none, none] (HT h ((List.replicate n none).set i (some (i, 0, false))) [i] [])
    ⟨_, [i], 0, none, none, none, none, rfl, rfl, ⟨by simp, by simp, fun x hx => by rw [List.mem_singleton.mp hx]; exact hi, fun x hx => by
      rw [getD_setO (by simpa using hi)]
      by_cases q : i = x
      · simp [q]
      · rw [if_neg q]; simp [hx, Ne.symm q], by simp, rfl, fun t h0 ht => absurd ht (by simp; omega)⟩, by simp, fun t ht => absurd ht (by omega), rfl⟩
  have hjl : j ∈ line := LK.conn K hi hj hij (fun x => x ∈ line) (by rw [← B.hd]; exact getD_mem B.pos) fun x hx => ⟨fun q => by
    obtain ⟨t, ht, e⟩ := mem_getD (d := 0) q
    exact (done t ht x hx).1 e.symm, fun q => by
    obtain ⟨t, ht, e⟩ := mem_getD (d := 0) q
    exact (done t ht x hx).2 e.symm⟩
  obtain ⟨tj, htj, ej⟩ := mem_getD (d := 0) hjl
  have ll := B.le
  -- the second while: back to the first point
  obtain ⟨e2, h2, w2, P, y8, y12, rfl, rfl, W, Pl⟩ := while_ix (c := wc__tree_path_3) (b := lb__tree_path_3)
    (fun m e h' => ∃ (P : List (Nat × Bool)) (t : Nat) (y8 y12 : Option D), e = [some (.ref r), some (dN n), some (dN i), some (dN j), some (.ref (h.length + 1)), some (.ref (h.length + 2)), some (dN line.length), some (dN (line.getD t 0)), y8, x9, x10, some (.ref (h.length + 3)), y12] ∧ h' = HT h came line [.lst (P.map dS)] ∧ t < line.length ∧ Wk E (line.getD t 0) P.reverse j ∧ P.length + t ≤ n ∧ m = t)
    (fun e h' => ∃ (P : List (Nat × Bool)) (y8 y12 : Option D), e = [some (.ref r), some (dN n), some (dN i), some (dN j), some (.ref (h.length + 1)), some (.ref (h.length + 2)), some (dN line.length), some (dN i), y8, x9, x10, some (.ref (h.length + 3)), y12] ∧ h' = HT h came line [.lst (P.map dS)] ∧ Wk E i P.reverse j ∧ P.length ≤ n)
    (by
      rintro m e h' ⟨P, t, y8, y12, rfl, rfl, ht, W, Pl, em⟩
      by_cases c : line.getD t 0 = i
      · refine .inl ⟨HT h came line [.lst (P.map dS)], by simp [wc__tree_path_3, dN, c, -List.getD_eq_getElem?_getD], P, y8, y12, by rw [c], rfl, by rw [← c]; exact W, by omega⟩
      · have t0 : 0 < t := by
          rcases Nat.eq_zero_or_pos t with q | q
          · subst q; exact absurd B.hd c
          · exact q
        have c' : ¬ ((line.getD t 0 : Nat) : Int) = (i : Int) := by omega
        refine .inr ⟨HT h came line [.lst (P.map dS)], by simp [wc__tree_path_3, dN, c, c', -List.getD_eq_getElem?_getD], ?_⟩
        obtain ⟨p, k, b, e1, ⟨s, h1, h2⟩, h3, h4⟩ := B.pa t t0 ht
        have xl := B.lt _ (getD_mem (d := 0) ht)
        have x1 : ∀ h, ixD (came.map dO) ((line.getD t 0 : Nat) : Int) h = .ok (.tup [.int p, .int k, .bl b]) h := fun h => by
          have := ixD_map (f := dO) (h := h) (getD_some (a := none) (xs := came) (i := line.getD t 0) (by rw [B.cl]; exact xl))
          rw [e1] at this
          exact this
        have ap : ∀ r v h, appO (some (.lst (P.map dS))) r v h = .ok .non (h.set r (.lst (P.map dS ++ [v]))) := fun r v h => appO_lst (by rw [List.length_map, sizeLine_eq]; omega)
        refine ⟨[some (.ref r), some (dN n), some (dN i), some (dN j), some (.ref (h.length + 1)), some (.ref (h.length + 2)), some (dN line.length), some (dN (line.getD s 0)), some (dN k), x9, x10, some (.ref (h.length + 3)), some (.bl b)], HT h came line [.lst ((P ++ [(k, b)]).map dS)], ?_, s, by omega, P ++ [(k, b)], s, some (dN k), some (.bl b), rfl, rfl, by omega, ?_, by rw [List.length_append, List.length_singleton]; omega, rfl⟩
        · rw [h2]
          generalize line.getD t 0 = x at x1
          simp [lb__tree_path_3, dN, HT_1, x1, HT_3, ap, HT_s3, dS]
        · rw [List.reverse_append]
          refine ⟨h3, ?_⟩
          rw [h2]
          cases b with
          | true => exact ⟨h4.1, by rw [show (E.getD k (0, 0)).1 = line.getD t 0 from h4.2]; exact W⟩
          | false => exact ⟨h4.1, by rw [show (E.getD k (0, 0)).2 = line.getD t 0 from h4.2]; exact W⟩)
    tj [some (.ref r), some (dN n), some (dN i), some (dN j), some (.ref (h.length + 1)), some (.ref (h.length + 2)), some (dN line.length), some (dN j), x8, x9, x10, some (.ref (h.length + 3)), none] (HT h came line [.lst []])
    ⟨[], tj, x8, none, by rw [ej], rfl, htj, ej, by simp; omega, rfl⟩
  refine ⟨P.reverse, ?_, W, by simpa using Pl⟩
  have e : c__tree_path [.ref r, dN n, dN i, dN j] h = gc h (.ok (.ref (h.length + 4)) (h ++ [.lst [.non], .lst (came.map dO), .lst (line.map dN), .lst (P.map dS), .lst (P.reverse.map dS)])) := by
    have rp : RepOk 1 (n : Int) := ⟨by omega, by omega, by rw [sizeLine_eq]; omega⟩
    have pu : ∀ r v h, putO (some (.lst (List.replicate n D.non))) r (i : Int) v h = some (h.set r (.lst ((List.replicate n D.non).set i v))) := fun r v h => putO_nat (by simpa using hi)
    have h0 : h ++ [AO.lst [.non], .lst ((List.replicate n D.non).set i (.tup [dN i, .int 0, .bl false])), .lst [dN i]] = HT h ((List.replicate n none).set i (some (i, 0, false))) [i] [] := by
      unfold HT
      rw [List.map_set, List.map_replicate]
      rfl
    have f3 : Fits 3 := fits (by decide)
    simp only [dN] at w w2
    unfold c__tree_path fsem
    simp [m__tree_path, dN, rp, pu]
    simp only [dN] at h0
    rw [show ((0 : Nat) : Int) = 0 from rfl] at w
    have rv : eRev (eVar 11) [some (.ref r), some (.int n), some (.int i), some (.int j), some (.ref (h.length + 1)), some (.ref (h.length + 2)), some (.int line.length), some (.int i), y8, x9, x10, some (.ref (h.length + 3)), y12] (HT h came line [.lst (P.map dS)]) = .ok (.ref (h.length + 4)) (HT h came line [.lst (P.map dS), .lst (P.map dS).reverse]) := by
      rw [eRev_ref (ds := P.map dS) rfl HT_3, HT_len, HT_app]; rfl
    rw [h0, w]
    simp [HT_app, HT_len, w2, rv]
    rfl
  rw [e, gc_new (i := 4) rfl (by simp; exact pures_iff.mpr fun d hd => by obtain ⟨x, _, rfl⟩ := List.mem_map.mp (List.mem_reverse.mp hd); rfl)]
end Law

set_option maxHeartbeats 1000000
/-! a reason followed along a path; the reason of a join -/
namespace Law
open PySem Rf L2
theorem readAll_snoc {n : Nat} {ps : List (List Nat)} {prs es : List (Nat × Nat)} {ls : List D} {l : D} {x : Nat × Nat} (rd : readAll n ps prs ls [] = some es) (q : pairOf n ps prs es l = some x) : readAll n ps prs (ls ++ [l]) [] = some (es ++ [x]) := by
  rw [readAll_app, rd, Option.bind_some]
  show (pairOf n ps prs es l).bind _ = _
  rw [q]; rfl
theorem gl_snoc {ls : List D} (g : ∀ l ∈ ls, Gl l) {l : D} (h : Gl l) : ∀ m ∈ ls ++ [l], Gl m := fun m hm => by
  rcases List.mem_append.mp hm with q | q
  · exact g m q
  · rw [List.mem_singleton.mp q]; exact h
/-- told so far: the last line shows (i, x) -/
structure TD (n : Nat) (ps : List (List Nat)) (prs E : List (Nat × Nat)) (i x : Nat) (ls : List D) (es : List (Nat × Nat)) : Prop where
  gl : ∀ l ∈ ls, Gl l
  rd : readAll n ps prs ls [] = some es
  pre : ∀ q, q < E.length → es.getD q (0, 0) = E.getD q (0, 0)
  le : E.length ≤ es.length
  pos : 0 < es.length
  last : es.getD (es.length - 1) (0, 0) = (i, x)
theorem TD.len {n : Nat} {ps : List (List Nat)} {prs E : List (Nat × Nat)} {i x : Nat} {ls : List D} {es : List (Nat × Nat)} (T : TD n ps prs E i x ls es) : es.length = ls.length := by
  have := readAll_len T.rd
  simpa using this
theorem TD.snoc {n : Nat} {ps : List (List Nat)} {prs E : List (Nat × Nat)} {i x y : Nat} {ls : List D} {es : List (Nat × Nat)} (T : TD n ps prs E i x ls es) {l : D} (g : Gl l) (q : pairOf n ps prs es l = some (i, y)) : TD n ps prs E i y (ls ++ [l]) (es ++ [(i, y)]) := by
  refine ⟨gl_snoc T.gl g, readAll_snoc T.rd q, fun k hk => ?_, by rw [List.length_append]; have := T.le; omega, by simp, ?_⟩
  · rw [getD_appO, if_neg (by have := T.le; omega)]; exact T.pre k hk
  · rw [List.length_append, List.length_singleton, getD_appO, if_pos (by omega)]
def lThru (a b : Nat) : D := .tup [.str sThru, dN a, dN b]
def lSwap (a : Nat) : D := .tup [.str sSwap, dN a]
theorem TD.fwd {n : Nat} {ps : List (List Nat)} {prs E : List (Nat × Nat)} {i x k : Nat} {ls : List D} {es : List (Nat × Nat)} (T : TD n ps prs E i x ls es) (hk : k < E.length) (h1 : (E.getD k (0, 0)).1 = x) :
    TD n ps prs E i (E.getD k (0, 0)).2 (ls ++ [lThru (ls.length - 1) k]) (es ++ [(i, (E.getD k (0, 0)).2)]) := by
  have len := T.len
  have pos := T.pos
  have le := T.le
  refine T.snoc (Gl.three B0_thru) ?_
  have := pThru (n := n) (ps := ps) (prs := prs) (es := es) (t := ls.length - 1) (k := k) (by omega) (by omega) (by rw [← len, T.last, T.pre k hk]; exact h1)
  unfold lThru
  rw [this, ← len, T.last, T.pre k hk]
theorem TD.bwd {n : Nat} {ps : List (List Nat)} {prs E : List (Nat × Nat)} {i x k : Nat} {ls : List D} {es : List (Nat × Nat)} (T : TD n ps prs E i x ls es) (hk : k < E.length) (h1 : (E.getD k (0, 0)).2 = x) :
    TD n ps prs E i (E.getD k (0, 0)).1 (ls ++ [lSwap k] ++ [lThru (ls.length - 1) ls.length]) (es ++ [(x, (E.getD k (0, 0)).1)] ++ [(i, (E.getD k (0, 0)).1)]) := by
  have len := T.len
  have pos := T.pos
  have le := T.le
  have q1 : pairOf n ps prs es (lSwap k) = some (x, (E.getD k (0, 0)).1) := by
    unfold lSwap
    rw [pSwap (by omega), T.pre k hk, h1]
  have r1 := readAll_snoc T.rd q1
  have g1 := gl_snoc T.gl (Gl.two (k := k) B0_swap)
  have z1 : (es ++ [(x, (E.getD k (0, 0)).1)]).getD (ls.length - 1) (0, 0) = (i, x) := by
    rw [getD_appO, if_neg (by omega), ← len]; exact T.last
  have z2 : (es ++ [(x, (E.getD k (0, 0)).1)]).getD ls.length (0, 0) = (x, (E.getD k (0, 0)).1) := by
    rw [getD_appO, if_pos (by omega)]
  have q2 : pairOf n ps prs (es ++ [(x, (E.getD k (0, 0)).1)]) (lThru (ls.length - 1) ls.length) = some (i, (E.getD k (0, 0)).1) := by
    unfold lThru
    rw [pThru (by simp; omega) (by simp; omega) (by rw [z1, z2]), z1, z2]
  refine ⟨gl_snoc g1 (Gl.three B0_thru), readAll_snoc r1 q2, fun q hq => ?_, by simp; omega, by simp, ?_⟩
  · rw [getD_appO, if_neg (by simp; omega), getD_appO, if_neg (by omega)]; exact T.pre q hq
  · rw [List.length_append, List.length_singleton, getD_appO, if_pos (by omega)]
theorem followed_spec {n : Nat} {ps : List (List Nat)} {prs E : List (Nat × Nat)} {lines : List D} (gl : ∀ l ∈ lines, Gl l) (rd : readAll n ps prs lines [] = some E) (hE : E.length ≤ 100) {i j : Nat} (hi : i < n) {P : List (Nat × Bool)} (W : Wk E i P j) (hP : P.length ≤ 100) {h : AH} {r q : Nat} (hr : h[r]? = some (.lst lines)) (hq : h[q]? = some (.lst (P.map dS))) :
    ∃ ls, c__followed [.ref r, .ref q, dN i] h = .ok (.tup ls) h ∧ (∀ l ∈ ls, Gl l) ∧ 0 < ls.length ∧ ls.length ≤ 400 ∧ endsOf n ps prs (.tup ls) = some (i, j) := by
  have ll : E.length = lines.length := by have := readAll_len rd; simpa using this
  have T0 : TD n ps prs E i i (lines ++ [.tup [.str sSelf, dN i]]) (E ++ [(i, i)]) := by
    refine ⟨gl_snoc gl (Gl.two B0_self), readAll_snoc rd (pSelf hi), fun k hk => ?_, by simp, by simp, ?_⟩
    · rw [getD_appO, if_neg (by omega)]
    · rw [List.length_append, List.length_singleton, getD_appO, if_pos (by omega)]
  obtain ⟨e', h', w, x4, x5, x6, ls, es, x, rfl, rfl, T, W', l2⟩ := liveL_inv (g := gTup 2 (gCons (gVar 4) (gCons (gVar 5) gNils))) (b := lb__followed_1) (r := q) (ds := P.map dS)
    (fun k e h' => ∃ x4 x5 x6 ls es x, e = [some (.ref r), some (.ref q), some (dN i), some (.ref h.length), x4, x5, x6] ∧ h' = h ++ [.lst ls] ∧ TD n ps prs E i x ls es ∧ Wk E x (P.drop k) j ∧ ls.length ≤ lines.length + 1 + 2 * k)
    (e := [some (.ref r), some (.ref q), some (dN i), some (.ref h.length), none, none, none]) (h := h ++ [.lst (lines ++ [.tup [.str sSelf, dN i]])])
    (by rintro k e h' ⟨_, _, _, _, _, _, rfl, rfl, _⟩; exact app_get_l hq)
    ⟨none, none, none, _, _, i, rfl, rfl, T0, W, by simp⟩ (by
      rintro k d e h' hd ⟨x4, x5, x6, ls, es, x, rfl, rfl, T, W', l2⟩
      rw [List.getElem?_map] at hd
      obtain ⟨⟨m, b⟩, hx, rfl⟩ := Option.map_eq_some_iff.mp hd
      have hk := (List.getElem?_eq_some_iff.mp hx).1
      have dr : P.drop k = (m, b) :: P.drop (k + 1) := by
        rw [List.drop_eq_getElem_cons hk]
        congr 1
        rw [List.getElem?_eq_getElem hk] at hx
        exact Option.some.inj hx
      rw [dr] at W'
      obtain ⟨hm, W2⟩ := W'
      have tl := T.len
      have pos := T.pos
      have ap : ∀ (ls : List D), ls.length ≤ 1000 → ∀ r v h, appO (some (.lst ls)) r v h = .ok .non (h.set r (.lst (ls ++ [v]))) := fun ls hl r v h => appO_lst (by rw [sizeLine_eq]; omega)
      have ap1 := ap ls (by omega)
      have f3 : Fits 3 := fits (by decide)
      have c1 : ((ls.length : Int) - 1) = ((ls.length - 1 : Nat) : Int) := by omega
      cases b with
      | false =>
        obtain ⟨h1, W3⟩ := W2
        refine ⟨[some (.ref r), some (.ref q), some (dN i), some (.ref h.length), some (dN m), some (.bl false), some (dN (ls.length - 1))], h ++ [.lst (ls ++ [lThru (ls.length - 1) m])], ?_, _, _, _, _, _, _, rfl, rfl, T.fwd hm h1, W3, by simp; omega⟩
        simp [lb__followed_1, dS, dN, c1, ap1, lThru]
      | true =>
        obtain ⟨h1, W3⟩ := W2
        have c2 : ((ls.length - 1 : Nat) : Int) + 1 = (ls.length : Int) := by omega
        have ap2 := ap (ls ++ [lSwap m]) (by simp; omega)
        refine ⟨[some (.ref r), some (.ref q), some (dN i), some (.ref h.length), some (dN m), some (.bl true), some (dN (ls.length - 1))], h ++ [.lst (ls ++ [lSwap m] ++ [lThru (ls.length - 1) ls.length])], ?_, _, _, _, _, _, _, rfl, rfl, T.bwd hm h1, W3, by simp; omega⟩
        simp only [lSwap, lThru, dN] at ap2 ⊢
        simp [lb__followed_1, dS, dN, c1, c2, ap1, ap2])
  rw [List.length_map, List.drop_length] at W'
  rw [List.length_map] at l2
  obtain rfl : x = j := W'
  refine ⟨ls, ?_, T.gl, by have := T.pos; have := T.len; omega, by omega, ?_⟩
  · have st : lStar (eVar 0) (lCons (eTup (lCons (eC (.str (Str.ofString "self"))) (lCons (eVar 2) lNil))) lNil) [some (.ref r), some (.ref q), some (.int i), none, none, none, none] h = .ok (lines ++ [.tup [.str (Str.ofString "self"), .int i]]) h := by
      rw [lStar_ref (i := r) (xs := lines) rfl hr]; simp
    have ff : Fits (lines.length + 1) := fits (by omega)
    have e : c__followed [.ref r, .ref q, dN i] h = gc h (.ok (.tup ls) (h ++ [.lst ls])) := by
      unfold c__followed fsem
      have hq' : ∀ g, (h ++ g)[q]? = some (.lst (P.map dS)) := fun g => app_get_l hq
      simp only [dN] at w
      simp [m__followed, dN, st, ff, hq', w]
    have pl : (D.tup ls).pure = true := pures_iff.mpr fun d hd => (T.gl d hd).ln.pure
    rw [e, gc_app pl]
  · cases ls with
    | nil => have h1 := T.pos; have h2 := T.len; rw [List.length_nil] at h2; omega
    | cons l ls =>
      show (readAll n ps prs (l :: ls) []).bind _ = _
      rw [T.rd, Option.bind_some, last_at T.pos, T.last]
end Law

set_option maxHeartbeats 1000000
/-! the reason of a join -/
namespace Law
open PySem Rf L2
abbrev Wt := Nat × Nat × D
def dW (x : Wt) : D := .tup [dN x.1, dN x.2.1, x.2.2]
def prW (x : Wt) : Nat × Nat := (x.1, x.2.1)
/-- the line says the pair, whatever links come behind -/
def SW (n : Nat) (ps : List (List Nat)) (prs E : List (Nat × Nat)) (x : Wt) : Prop := Gl x.2.2 ∧ ∀ z, pairOf n ps prs (E ++ z) x.2.2 = some (prW x)
theorem SW.mono {n : Nat} {ps : List (List Nat)} {prs E : List (Nat × Nat)} {x : Wt} (s : SW n ps prs E x) (z : List (Nat × Nat)) : SW n ps prs (E ++ z) x :=
  ⟨s.1, fun y => by rw [List.append_assoc]; exact s.2 _⟩
def told0 (prs : List (Nat × Nat)) : List Wt := (List.range prs.length).map fun q => ((prs.getD q (0, 0)).1, (prs.getD q (0, 0)).2, .tup [.str sTold, dN q])
theorem told0_pr (prs : List (Nat × Nat)) : (told0 prs).map prW = prs := by
  apply List.ext_getElem
  · simp [told0]
  · intro i h1 h2
    simp [told0, prW, h2]
theorem told0_SW {n : Nat} {ps : List (List Nat)} {prs : List (Nat × Nat)} : ∀ x ∈ told0 prs, SW n ps prs [] x := fun x hx => by
  obtain ⟨q, hq, rfl⟩ := List.mem_map.mp hx
  rw [List.mem_range] at hq
  exact ⟨Gl.two B0_told, fun z => by rw [pTold hq]; rfl⟩
/-- the new lines of a merge -/
def nw (ps : List (List Nat)) (a b t : Nat) (m : Nat) : List Wt := (List.range m).map fun k => ((ps.getD k []).getD a 0, (ps.getD k []).getD b 0, .tup [.str sMoved, dN t, dN k])
theorem nw_pr (ps : List (List Nat)) (a b t : Nat) : (nw ps a b t ps.length).map prW = ps.map fun p => (p.getD a 0, p.getD b 0) := by
  apply List.ext_getElem
  · simp [nw]
  · intro i h1 h2
    simp [nw, prW]
    have h3 : i < ps.length := by simpa using h2
    simp [h3]
theorem nw_SW {n : Nat} {ps : List (List Nat)} {prs E : List (Nat × Nat)} {a b : Nat} : ∀ x ∈ nw ps a b E.length ps.length, SW n ps prs (E ++ [(a, b)]) x := fun x hx => by
  obtain ⟨k, hk, rfl⟩ := List.mem_map.mp hx
  rw [List.mem_range] at hk
  refine ⟨Gl.three B0_moved, fun z => ?_⟩
  have e : (E ++ [(a, b)] ++ z).getD E.length (0, 0) = (a, b) := by
    rw [List.getD_eq_getElem?_getD, List.append_assoc, List.getElem?_append_right (by omega)]
    simp
  show pairOf n ps prs (E ++ [(a, b)] ++ z) (.tup [.str sMoved, dN E.length, dN k]) = _
  rw [pMoved (by simp) hk, e]
  rfl
def HJ (h : AH) (ls : List D) (E : List (Nat × Nat)) (W : List Wt) : AH := h ++ [.lst ls, .lst (E.map dP), .lst (W.map dW)]
section
variable {h : AH} {ls ls' : List D} {E E' : List (Nat × Nat)} {W W' : List Wt}
theorem HJ_0 : (HJ h ls E W)[h.length]? = some (.lst ls) := by unfold HJ; rw [app_get0]; rfl
theorem HJ_1 : (HJ h ls E W)[h.length + 1]? = some (.lst (E.map dP)) := by unfold HJ; rw [app_get]; rfl
theorem HJ_2 : (HJ h ls E W)[h.length + 2]? = some (.lst (W.map dW)) := by unfold HJ; rw [app_get]; rfl
theorem HJ_len : (HJ h ls E W).length = h.length + 3 := by unfold HJ; simp
theorem HJ_s0 (v : List D) : (HJ h ls E W).set h.length (.lst v) = HJ h v E W := by
  unfold HJ
  have := app_set (h := h) (g := [.lst ls, .lst (E.map dP), .lst (W.map dW)]) (i := 0) (n := h.length) (o := .lst v) rfl
  rw [Nat.add_zero] at this
  rw [this]; rfl
theorem HJ_s1 (v : List D) (e : v = E'.map dP) : (HJ h ls E W).set (h.length + 1) (.lst v) = HJ h ls E' W := by
  subst e; unfold HJ; rw [app_set rfl]; rfl
theorem HJ_s2 (v : List D) (e : v = W'.map dW) : (HJ h ls E W).set (h.length + 2) (.lst v) = HJ h ls E W' := by
  subst e; unfold HJ; rw [app_set rfl]; rfl
end
/-- the state of the search for a reason -/
structure JR (n : Nat) (ps : List (List Nat)) (prs : List (Nat × Nat)) (L : List Nat) (ls : List D) (E : List (Nat × Nat)) (W : List Wt) (at_ m : Nat) : Prop where
  lb : LB n ps prs (W.map prW) L at_ m
  lk : LK n E L
  gl : ∀ l ∈ ls, Gl l
  rd : readAll n ps prs ls [] = some E
  sw : ∀ x ∈ W, SW n ps prs E x
theorem alone_spec {n : Nat} (hn : n ≤ 1000) {h : AH} : c_alone [dN n] h = .ok (.tup ((List.range n).map dN)) h := by
  have r1 : RgOk 0 (n : Int) := rgOk_nat (by omega)
  have e : c_alone [dN n] h = gc h (.ok (.tup ((List.range n).map dN)) h) := by
    unfold c_alone fsem
    simp [m_alone, r1, rg_zero]
  rw [e, gc_same (by simp)]
theorem reason_spec {n : Nat} {ps : List (List Nat)} {prs : List (Nat × Nat)} (I : Inp n ps prs) {L0 : List Nat} (A : Least n ps prs L0) {i j : Nat} (hi : i < n) (hj : j < n) {h : AH} :
    (L0.getD i 0 ≠ L0.getD j 0 ∧ c_join_reason [.tup (ps.map dC), dN n, .tup (prs.map dP), dN i, dN j] h = .ok .non h) ∨
    (L0.getD i 0 = L0.getD j 0 ∧ ∃ ls, c_join_reason [.tup (ps.map dC), dN n, .tup (prs.map dP), dN i, dN j] h = .ok (.tup ls) h ∧ (∀ l ∈ ls, Gl l) ∧ 0 < ls.length ∧ ls.length ≤ 400 ∧ endsOf n ps prs (.tup ls) = some (i, j)) := by
  have n1 := I.n1
  have n2 := I.n2
  have pl := I.pl
  have rl := I.rl
  have hsz : n * ps.length ≤ 100 * 100 := Nat.mul_le_mul I.n2 I.pl
  obtain ⟨e', h', w, L, ls, E, W, at_, m, y10, y11, y13, y14, y15, rfl, rfl, J, fin⟩ := while_ix (c := wc_join_reason_1) (b := lb_join_reason_1)
    (fun m e h' => ∃ L ls E W at_ y10 y11 y13 y14 y15, e = [some (.tup (ps.map dC)), some (dN n), some (.tup (prs.map dP)), some (dN i), some (dN j), some (.ref h.length), some (.ref (h.length + 1)), some (.tup (L.map dN)), some (.ref (h.length + 2)), none, y10, y11, some (dN at_), y13, y14, y15] ∧ h' = HJ h ls E W ∧ JR n ps prs L ls E W at_ m)
    (fun e h' => ∃ L ls E W at_ m y10 y11 y13 y14 y15, e = [some (.tup (ps.map dC)), some (dN n), some (.tup (prs.map dP)), some (dN i), some (dN j), some (.ref h.length), some (.ref (h.length + 1)), some (.tup (L.map dN)), some (.ref (h.length + 2)), none, y10, y11, some (dN at_), y13, y14, y15] ∧ h' = HJ h ls E W ∧ JR n ps prs L ls E W at_ m ∧ (at_ = W.length ∨ L.getD i 0 = L.getD j 0))
    (by
      rintro m e h' ⟨L, ls, E, W, at_, y10, y11, y13, y14, y15, rfl, rfl, J⟩
      have B := J.lb
      have le := B.le
      rw [List.length_map] at le
      have lL := B.len
      have xi : ∀ h, ixD (L.map dN) (i : Int) h = .ok (dN (L.getD i 0)) h := fun h => ixD_N (by omega)
      have xj : ∀ h, ixD (L.map dN) (j : Int) h = .ok (dN (L.getD j 0)) h := fun h => ixD_N (by omega)
      simp only [dN] at xi xj
      by_cases c : at_ = W.length
      · subst c
        exact .inl ⟨HJ h ls E W, by simp [wc_join_reason_1, dN, HJ_2], L, ls, E, W, W.length, m, y10, y11, y13, y14, y15, rfl, rfl, J, .inl rfl⟩
      · have c2 : at_ < W.length := by omega
        by_cases cij : L.getD i 0 = L.getD j 0
        · exact .inl ⟨HJ h ls E W, by simp [wc_join_reason_1, dN, HJ_2, c2, xi, xj, cij, -List.getD_eq_getElem?_getD], L, ls, E, W, at_, m, y10, y11, y13, y14, y15, rfl, rfl, J, .inr cij⟩
        · have cij' : ¬ ((L.getD i 0 : Nat) : Int) = ((L.getD j 0 : Nat) : Int) := by omega
          refine .inr ⟨HJ h ls E W, by simp [wc_join_reason_1, dN, HJ_2, c2, xi, xj, cij, cij', -List.getD_eq_getElem?_getD], ?_⟩
          obtain ⟨⟨a, b, l⟩, hx⟩ : ∃ y, W.getD at_ (0, 0, .non) = y := ⟨_, rfl⟩
          have hm : (a, b, l) ∈ W := by rw [← hx]; exact getD_mem c2
          have hx2 : (W.map prW).getD at_ (0, 0) = (a, b) := by rw [map_getD (d := (0, 0, .non)) c2, hx]; rfl
          obtain ⟨ha, hb⟩ := B.lt (a, b) (List.mem_map.mpr ⟨_, hm, rfl⟩)
          simp only at ha hb
          have S := J.sw _ hm
          have x1 : ∀ h, ixD (W.map dW) (at_ : Int) h = .ok (dW (a, b, l)) h := fun h => by rw [← hx]; exact ixD_map (getD_some c2)
          have x2 : ∀ h, ixD (L.map dN) (a : Int) h = .ok (dN (L.getD a 0)) h := fun h => ixD_N (by omega)
          have x3 : ∀ h, ixD (L.map dN) (b : Int) h = .ok (dN (L.getD b 0)) h := fun h => ixD_N (by omega)
          simp only [dN] at x2 x3
          have sz := B.sz
          rw [List.length_map] at sz
          have Es := J.lk.sz
          have lsl : E.length = ls.length := by have := readAll_len J.rd; simpa using this
          by_cases q : L.getD a 0 = L.getD b 0
          · refine ⟨[some (.tup (ps.map dC)), some (dN n), some (.tup (prs.map dP)), some (dN i), some (dN j), some (.ref h.length), some (.ref (h.length + 1)), some (.tup (L.map dN)), some (.ref (h.length + 2)), none, some (dN a), some (dN b), some (dN (at_ + 1)), some l, y14, y15], HJ h ls E W, by simp [lb_join_reason_1, dN, HJ_2, x1, x2, x3, dW, q, -List.getD_eq_getElem?_getD], m - 1, ?_, L, ls, E, W, at_ + 1, _, _, _, _, _, rfl, rfl, ⟨B.skip (by simpa using c2) hx2 q, J.lk, J.gl, J.rd, J.sw⟩⟩
            have := B.ms
            rw [List.length_map] at this
            omega
          · have Q := LB.step I B (by simpa using c2) hx2 q
            have me := merged_spec (L := L) (a := a) (b := b) (by omega) (by omega) (by omega) (h := HJ h ls E W)
            have KK := J.lk.step B.can lL ha hb q
            have rd2 := readAll_snoc J.rd (by have := S.2 []; rw [List.append_nil] at this; exact this)
            rw [← nw_pr ps a b E.length, ← List.map_append] at Q
            have mlt : ((W.map prW).length + ps.length - (at_ + 1)) + cnt (mrg L a b) * (ps.length + 1) < m := by
              have cc := mrg_cnt B.can (by omega) (by omega) q
              have cm : (cnt (mrg L a b) + 1) * (ps.length + 1) ≤ cnt L * (ps.length + 1) := Nat.mul_le_mul_right _ cc
              rw [Nat.add_mul, Nat.one_mul] at cm
              have := B.ms
              rw [List.length_map] at this ⊢
              omega
            have cc := mrg_cnt B.can (by omega) (by omega) q
            generalize hL2 : mrg L a b = L2 at Q me KK mlt
            obtain ⟨e', h', w, z14, z15, rfl, rfl⟩ := sFor_enumT (m := eVar 0) (g := gTup 2 (gCons (gVar 14) (gCons (gVar 15) gNils))) (b := lb_join_reason_2) (ds := ps.map dC)
              (e := [some (.tup (ps.map dC)), some (dN n), some (.tup (prs.map dP)), some (dN i), some (dN j), some (.ref h.length), some (.ref (h.length + 1)), some (.tup (L2.map dN)), some (.ref (h.length + 2)), none, some (dN a), some (dN b), some (dN (at_ + 1)), some l, y14, y15]) (h := HJ h ls E W) (h1 := HJ h ls E W)
              (fun k e h' => ∃ z14 z15, e = [some (.tup (ps.map dC)), some (dN n), some (.tup (prs.map dP)), some (dN i), some (dN j), some (.ref h.length), some (.ref (h.length + 1)), some (.tup (L2.map dN)), some (.ref (h.length + 2)), none, some (dN a), some (dN b), some (dN (at_ + 1)), some l, z14, z15] ∧ h' = HJ h ls E (W ++ nw ps a b E.length k))
              rfl ⟨y14, y15, rfl, by simp [nw]⟩ (by
                rintro k d e h' hd ⟨z14, z15, rfl, rfl⟩
                rw [List.getElem?_map] at hd
                obtain ⟨p, hp, rfl⟩ := Option.map_eq_some_iff.mp hd
                have hk := (List.getElem?_eq_some_iff.mp hp).1
                have ep : ps.getD k [] = p := by rw [List.getD_eq_getElem?_getD, hp]; rfl
                have P := I.pm p (List.mem_of_getElem? hp)
                have z1 : ∀ h, ixD (p.map dN) (a : Int) h = .ok (dN (p.getD a 0)) h := fun h => ixD_N (by rw [P.len]; exact ha)
                have z2 : ∀ h, ixD (p.map dN) (b : Int) h = .ok (dN (p.getD b 0)) h := fun h => ixD_N (by rw [P.len]; exact hb)
                have ap : ∀ r v h, appO (some (.lst ((W ++ nw ps a b E.length k).map dW))) r v h = .ok .non (h.set r (.lst ((W ++ nw ps a b E.length k).map dW ++ [v]))) := fun r v h => appO_lst (by
                  rw [List.length_map, List.length_append, sizeLine_eq]
                  simp [nw]
                  omega)
                have tk : W ++ nw ps a b E.length (k + 1) = (W ++ nw ps a b E.length k) ++ [(p.getD a 0, p.getD b 0, .tup [.str sMoved, dN E.length, dN k])] := by
                  unfold nw
                  rw [List.range_succ, List.map_append, List.append_assoc, ← ep]; rfl
                refine ⟨_, _, ?_, some (dN k), some (dC p), rfl, rfl⟩
                rw [tk]
                generalize W ++ nw ps a b E.length k = W' at ap
                have s2 : (HJ h ls E W').set (h.length + 2) (.lst (W'.map dW ++ [.tup [.int ((p.getD a 0 : Nat)), .int ((p.getD b 0 : Nat)), .tup [.str (Str.ofString "moved"), .int ls.length, .int k]]])) = HJ h ls E (W' ++ [(p.getD a 0, p.getD b 0, .tup [.str sMoved, dN E.length, dN k])]) := HJ_s2 _ (by rw [lsl]; simp [dW, dN])
                have f3 : Fits 3 := fits (by decide)
                simp only [dN] at z1 z2
                simp [lb_join_reason_2, dC, dN, z1, z2, HJ_0, HJ_2, ap, -List.getD_eq_getElem?_getD]
                simpa [dN] using s2)
            rw [List.length_map] at w
            have ap1 : ∀ r v h, appO (some (.lst ls)) r v h = .ok .non (h.set r (.lst (ls ++ [v]))) := fun r v h => appO_lst (by rw [sizeLine_eq]; omega)
            have ap2 : ∀ r v h, appO (some (.lst (E.map dP))) r v h = .ok .non (h.set r (.lst (E.map dP ++ [v]))) := fun r v h => appO_lst (by rw [List.length_map, sizeLine_eq]; omega)
            refine ⟨[some (.tup (ps.map dC)), some (dN n), some (.tup (prs.map dP)), some (dN i), some (dN j), some (.ref h.length), some (.ref (h.length + 1)), some (.tup (L2.map dN)), some (.ref (h.length + 2)), none, some (dN a), some (dN b), some (dN (at_ + 1)), some l, z14, z15], HJ h (ls ++ [l]) (E ++ [(a, b)]) (W ++ nw ps a b E.length ps.length), ?_, _, mlt, L2, ls ++ [l], E ++ [(a, b)], W ++ nw ps a b E.length ps.length, at_ + 1, _, _, _, _, _, rfl, rfl, ⟨Q, KK, gl_snoc J.gl S.1, rd2, fun x hx => ?_⟩⟩
            · have q' : ¬ ((L.getD a 0 : Nat) : Int) = ((L.getD b 0 : Nat) : Int) := by omega
              generalize W ++ nw ps a b E.length ps.length = W' at w
              have s1 : ∀ ls, (HJ h ls E W').set (h.length + 1) (.lst (E.map dP ++ [.tup [.int a, .int b]])) = HJ h ls (E ++ [(a, b)]) W' := fun ls => HJ_s1 _ (by simp [dP, dN])
              simp only [dN] at w me
              simp [lb_join_reason_1, dN, HJ_2, x1, x2, x3, dW, q, q', me, -List.getD_eq_getElem?_getD]
              have c5 : ((at_ : Int) + 1) = ((at_ + 1 : Nat) : Int) := by omega
              rw [c5, w]
              simp [HJ_0, HJ_1, ap1, ap2, HJ_s0, s1]
            · rcases List.mem_append.mp hx with hx | hx
              · exact (J.sw x hx).mono _
              · exact nw_SW x hx)
    _ [some (.tup (ps.map dC)), some (dN n), some (.tup (prs.map dP)), some (dN i), some (dN j), some (.ref h.length), some (.ref (h.length + 1)), some (.tup ((List.range n).map dN)), some (.ref (h.length + 2)), none, none, none, some (dN 0), none, none, none] (HJ h [] [] (told0 prs))
    ⟨List.range n, [], [], told0 prs, 0, none, none, none, none, none, rfl, rfl, ⟨by
      rw [told0_pr]
      exact ⟨by simp, range_canon n, by omega, I.pr, fun x hx => hx, fun t ht => absurd ht (by omega), fun f G x hx => G.pr x hx, fun f _ i j hi hj e => range_eq hi hj e, fun g _ p _ i j hi hj e => by rw [range_D hi, range_D hj] at e; rw [e], by
        have := cnt_le (L := List.range n)
        rw [List.length_range] at this
        exact Nat.add_le_add_left (Nat.mul_le_mul_right _ this) _, rfl⟩, LK.start n, fun l hl => absurd hl (by simp), rfl, told0_SW⟩⟩
  have lc1 : ∀ (x3 x4 x5 x6 x7 x8 x9 x10 x11 x12 x13 x14 x15 : Option D) (g : AH), lc_join_reason_1 [some (.tup (ps.map dC)), some (dN n), some (.tup (prs.map dP)), x3, x4, x5, x6, x7, x8, x9, x10, x11, x12, x13, x14, x15] g = .ok (.ref g.length) (g ++ [.lst ((told0 prs).map dW)]) := by
    intro x3 x4 x5 x6 x7 x8 x9 x10 x11 x12 x13 x14 x15 g
    unfold lc_join_reason_1
    have f3 : Fits 3 := fits (by decide)
    rw [eLc_gen (ds := numD (prs.map dP)) (h1 := g) (fun q => dW ((prs.getD q (0, 0)).1, (prs.getD q (0, 0)).2, .tup [.str sTold, dN q])) (iEnum2_tup rfl) (by rw [numD_len, List.length_map, sizeLine_eq]; omega)]
    · rw [numD_len, List.length_map]
      congr 3
      unfold told0
      rw [List.map_map]; rfl
    · intro q d hd
      rw [numD_at, List.getElem?_map] at hd
      cases hp : prs[q]? with
      | none => rw [hp] at hd; exact absurd hd (by simp)
      | some p =>
        rw [hp] at hd
        have ep : prs.getD q (0, 0) = p := by rw [List.getD_eq_getElem?_getD, hp]; rfl
        obtain rfl : D.tup [.int (q : Nat), dP p] = d := by simpa using hd
        refine ⟨_, by simp [wipeE, dP]; rfl, ?_⟩
        rw [ep]
        simp [wipeE, dW, dN, f3]
  have B := J.lb
  have lL := B.len
  have xi : ∀ h, ixD (L.map dN) (i : Int) h = .ok (dN (L.getD i 0)) h := fun h => ixD_N (by omega)
  have xj : ∀ h, ixD (L.map dN) (j : Int) h = .ok (dN (L.getD j 0)) h := fun h => ixD_N (by omega)
  simp only [dN] at xi xj
  have al := fun h => alone_spec (n := n) (by omega) (h := h)
  have h0 : h ++ [AO.lst [], .lst [], .lst ((told0 prs).map dW)] = HJ h [] [] (told0 prs) := rfl
  by_cases cij : L.getD i 0 = L.getD j 0
  · refine .inr ⟨B.fr _ A.good i j hi hj cij, ?_⟩
    obtain ⟨P, p1, p2, p3⟩ := path_spec J.lk n1 n2 hi hj cij (h := HJ h ls E W) (r := h.length + 1) HJ_1
    have Es := J.lk.sz
    obtain ⟨lz, f1, f2, f3, f4, f5⟩ := followed_spec J.gl J.rd (by omega) hi p2 (by omega) (h := HJ h ls E W ++ [.lst (P.map dS)]) (r := h.length) (q := (HJ h ls E W).length) (app_get_l HJ_0) (by simp)
    refine ⟨lz, ?_, f2, f3, f4, f5⟩
    have e : c_join_reason [.tup (ps.map dC), dN n, .tup (prs.map dP), dN i, dN j] h = gc h (.ok (.tup lz) (h ++ ([.lst ls, .lst (E.map dP), .lst (W.map dW)] ++ [.lst (P.map dS)]))) := by
      unfold c_join_reason fsem
      rw [← List.append_assoc]
      simp only [dN] at w al lc1 p1 f1
      rw [show ((0 : Nat) : Int) = 0 from rfl] at w
      simp [m_join_reason, dN, al, lc1]
      rw [h0, w]
      simp [xi, xj, cij, p1, f1, -List.getD_eq_getElem?_getD]
      simp [HJ]
    have pl : (D.tup lz).pure = true := pures_iff.mpr fun d hd => (f2 d hd).ln.pure
    rw [e, gc_app pl]
  · have hat : at_ = W.length := by
      rcases fin with q | q
      · exact q
      · exact absurd q cij
    have A2 : Least n ps prs L := by
      have B' := B
      rw [hat, ← List.length_map (f := prW)] at B'
      exact B'.fin
    have eL := A.uniq A2
    subst eL
    refine .inl ⟨cij, ?_⟩
    have cij' : ¬ ((L0.getD i 0 : Nat) : Int) = ((L0.getD j 0 : Nat) : Int) := by omega
    have e : c_join_reason [.tup (ps.map dC), dN n, .tup (prs.map dP), dN i, dN j] h = gc h (.ok .non (h ++ [.lst ls, .lst (E.map dP), .lst (W.map dW)])) := by
      unfold c_join_reason fsem
      simp only [dN] at w al lc1
      rw [show ((0 : Nat) : Int) = 0 from rfl] at w
      simp [m_join_reason, dN, al, lc1]
      rw [h0, w]
      simp [xi, xj, cij, cij', -List.getD_eq_getElem?_getD]
      rfl
    rw [e, gc_app rfl]
end Law

set_option maxHeartbeats 1000000
/-! odd labels -/
namespace Law
open PySem Rf L2
/-- a value that an odd row of labels may hold; an odd row of labels -/
def V0 (d : D) : Prop := B0 d ∨ ∃ ws, d = .tup ws ∧ pures ws = true
def Vd (d : D) : Prop := B0 d ∨ ∃ vs, d = .tup vs ∧ vs.length ≤ 1000 ∧ ∀ v ∈ vs, V0 v
theorem V0.pure {d : D} (w : V0 d) : d.pure = true := by
  rcases w with w | ⟨ws, rfl, h⟩
  · exact W0.pure (.inl w)
  · exact h
def isI : D → Bool
  | .int _ => true
  | _ => false
theorem whole_V {w : D} (hw : V0 w) {h : AH} : c_is_whole [w] h = .ok (.bl (isI w)) h := by
  rcases hw with hw | ⟨ws, rfl, _⟩
  · cases w <;> first | exact hw.elim | (unfold c_is_whole fsem; simp [m_is_whole, isI])
  · unfold c_is_whole fsem; simp [m_is_whole, isI]
theorem lwhole_V {w : D} (hw : V0 w) {h : AH} : c__law_is_whole [w] h = .ok (.bl (isI w)) h := by
  rcases hw with hw | ⟨ws, rfl, _⟩
  · cases w <;> first | exact hw.elim | (unfold c__law_is_whole fsem; simp [m__law_is_whole, isI])
  · unfold c__law_is_whole fsem; simp [m__law_is_whole, isI]
theorem index_V {w : D} (hw : V0 w) {n : Nat} {h : AH} : c_is_index [w, .int (n : Int)] h = .ok (.bl (idx n w).isSome) h := by
  rcases hw with hw | ⟨ws, rfl, hp⟩
  · exact index_W (.inl hw)
  · have e1 := fun h => whole_V (.inr ⟨ws, rfl, hp⟩) (w := .tup ws) (h := h)
    unfold c_is_index fsem
    simp [m_is_index, e1, idx, isI]
def IsLab (n : Nat) (d : D) : Prop := ∃ L : List Nat, d = .tup (L.map dN) ∧ L.length = n ∧ Canon L
section
variable {n k : Nat} {vs : List D} {v : D} {M : List Nat}
theorem IsLab.at (q : IsLab n (.tup vs)) (hv : vs[k]? = some v) : ∃ L : List Nat, vs = L.map dN ∧ v = dN (L.getD k 0) ∧ k < L.length ∧ L.getD k 0 ≤ k ∧ L.getD (L.getD k 0) 0 = L.getD k 0 := by
  obtain ⟨L, e, l, C⟩ := q
  cases e
  rw [List.getElem?_map] at hv
  obtain ⟨x, hx, rfl⟩ := Option.map_eq_some_iff.mp hv
  have hk := (List.getElem?_eq_some_iff.mp hx).1
  have ex : L.getD k 0 = x := by rw [List.getD_eq_getElem?_getD, hx]; rfl
  have c := C k hk
  exact ⟨L, rfl, by rw [ex], hk, c.1, c.2⟩
theorem lab_no1 (hv : vs[k]? = some v) (q : idx (k + 1) v = none) : ¬ IsLab n (.tup vs) := fun z => by
  obtain ⟨L, e, ev, hk, c1, c2⟩ := z.at hv
  rw [ev, idx_N, if_pos (by omega)] at q
  cases q
theorem pre_get (e : vs.take k = M.map dN) (l : M.length = k) {t : Nat} (ht : t < k) : vs[t]? = some (dN (M.getD t 0)) := by
  have := congrArg (fun z => z[t]?) e
  simp only [List.getElem?_take, List.getElem?_map] at this
  rw [if_pos ht] at this
  rw [this, getD_some (by omega) (a := 0)]
  rfl
theorem lab_no2 (e : vs.take k = M.map dN) (l : M.length = k) (hv : vs[k]? = some v) {t : Nat} (q : idx (k + 1) v = some t) (ht : t < k) (ne : M.getD t 0 ≠ t) : ¬ IsLab n (.tup vs) := fun z => by
  obtain ⟨L, e2, ev, hk, c1, c2⟩ := z.at hv
  have := (idx_some q).1
  rw [this] at ev
  have et : t = L.getD k 0 := by have := D.int.inj ev; omega
  have g := pre_get e l ht
  rw [e2, List.getElem?_map, getD_some (by omega) (a := 0)] at g
  have g2 : L.getD t 0 = M.getD t 0 := by have := D.int.inj (Option.some.inj g); omega
  rw [← et, g2] at c2
  exact ne c2
theorem lab_step (e : vs.take k = M.map dN) (l : M.length = k) (C : Canon M) (hv : vs[k]? = some v) {t : Nat} (q : idx (k + 1) v = some t) (ok : t < k → M.getD t 0 = t) : vs.take (k + 1) = (M ++ [t]).map dN ∧ Canon (M ++ [t]) := by
  have h := idx_some q
  refine ⟨?_, C.push ?_⟩
  · rw [List.take_add_one, hv, e, h.1]; simp
  · by_cases c : t < k
    · exact .inr ⟨by omega, ok c⟩
    · exact .inl (by omega)
end
theorem is_labels_spec {d : D} (hd : Vd d) {n : Nat} (hn : n ≤ 1000) {h : AH} : ∃ b, c_is_labels [d, dN n] h = .ok (.bl b) h ∧ (b = true ↔ IsLab n d) := by
  rcases hd with hb | ⟨vs, rfl, hl, hv⟩
  · refine ⟨false, ?_, by simp; rintro ⟨L, e, _⟩; subst e; exact hb⟩
    unfold c_is_labels fsem
    have e1 := fun h => isrow_B hb (n := (n : Int)) (h := h)
    simp [m_is_labels, e1, dN]
  · have e1 := fun h => isrow_T (ws := vs) (n := n) (h := h)
    by_cases c : vs.length = n
    · rcases sFor_enumT_ret (m := eVar 0) (g := gTup 2 (gCons (gVar 2) (gCons (gVar 3) gNils))) (b := lb_is_labels_1) (ds := vs) (e := [some (.tup vs), some (dN n), none, none]) (h := h) (h1 := h)
        (fun k e h' => ∃ x2 x3 M, e = [some (.tup vs), some (dN n), x2, x3] ∧ h = h' ∧ vs.take k = M.map dN ∧ M.length = k ∧ Canon M)
        (fun d h' => d = .bl false ∧ h = h' ∧ ¬ IsLab n (.tup vs)) rfl ⟨none, none, [], rfl, rfl, rfl, rfl, fun j hj => absurd hj (by simp)⟩ (by
          rintro k v e h' hk ⟨x2, x3, M, rfl, rfl, eM, lM, C⟩
          have hkl := (List.getElem?_eq_some_iff.mp hk).1
          have i1 := fun h => index_V (hv v (List.mem_of_getElem? hk)) (n := k + 1) (h := h)
          rw [show ((k + 1 : Nat) : Int) = (k : Int) + 1 from rfl] at i1
          cases hi : idx (k + 1) v with
          | none =>
            refine .inr ⟨.bl false, h, ?_, rfl, rfl, lab_no1 hk hi⟩
            simp [lb_is_labels_1, i1, hi]
          | some t =>
            obtain ⟨rfl, ht⟩ := idx_some hi
            by_cases c2 : t < k
            · have x1 : ∀ h, ixD vs (t : Int) h = .ok (dN (M.getD t 0)) h := fun h => ixD_some (pre_get eM lM c2)
              by_cases c3 : M.getD t 0 = t
              · obtain ⟨s1, s2⟩ := lab_step eM lM C hk hi fun _ => c3
                refine .inl ⟨_, _, ?_, some (dN k), some (dN t), M ++ [t], rfl, rfl, s1, by simp [lM], s2⟩
                rw [c3] at x1
                simp only [dN] at i1 hi x1
                simp [lb_is_labels_1, i1, hi, x1, dN]
              · refine .inr ⟨.bl false, h, ?_, rfl, rfl, lab_no2 eM lM hk hi c2 c3⟩
                have c4 : ¬ ((M.getD t 0 : Nat) : Int) = (t : Int) := by omega
                simp only [dN] at i1 hi x1
                simp [lb_is_labels_1, i1, hi, x1, dN, c3, c4, -List.getD_eq_getElem?_getD]
            · have et : t = k := by omega
              subst et
              obtain ⟨s1, s2⟩ := lab_step eM lM C hk hi fun z => absurd z c2
              have x1 : ∀ h, ixD vs (t : Int) h = .ok (dN t) h := fun h => ixD_some hk
              refine .inl ⟨_, _, ?_, some (dN t), some (dN t), M ++ [t], rfl, rfl, s1, by simp [lM], s2⟩
              simp only [dN] at i1 hi x1
              simp [lb_is_labels_1, i1, hi, x1, dN]) with ⟨e', h', w, x2, x3, M, rfl, rfl, eM, lM, C⟩ | ⟨d', h', w, rfl, rfl, no⟩
      · rw [List.take_length] at eM
        refine ⟨true, ?_, by simp; exact ⟨M, by rw [eM], by omega, C⟩⟩
        have e : c_is_labels [.tup vs, dN n] h = gc h (.ok (.bl true) h) := by
          unfold c_is_labels fsem
          simp only [dN] at w
          simp [m_is_labels, e1, dN, c, w]
        rw [e, gc_same rfl]
      · refine ⟨false, ?_, by simpa using no⟩
        have e : c_is_labels [.tup vs, dN n] h = gc h (.ok (.bl false) h) := by
          unfold c_is_labels fsem
          simp only [dN] at w
          simp [m_is_labels, e1, dN, c, w]
        rw [e, gc_same rfl]
    · refine ⟨false, ?_, by simp; rintro ⟨L, e, l, _⟩; cases e; simp at c; exact c l⟩
      unfold c_is_labels fsem
      simp [m_is_labels, e1, dN, c]
theorem lis_labels_spec {d : D} (hd : Vd d) {n : Nat} (hn : n ≤ 1000) {h : AH} : ∃ b, c__law_is_labels [d, dN n] h = .ok (.bl b) h ∧ (b = true ↔ IsLab n d) := by
  rcases hd with hb | ⟨vs, rfl, hl, hv⟩
  · refine ⟨false, ?_, by simp; rintro ⟨L, e, _⟩; subst e; exact hb⟩
    unfold c__law_is_labels fsem
    cases d <;> first | exact hb.elim | simp [m__law_is_labels]
  · by_cases c : vs.length = n
    · rcases loopN_ret (k := 2) (b := lb__law_is_labels_1) 
        (fun k e h' => ∃ x2 M, e = [some (.tup vs), some (dN n), x2] ∧ h = h' ∧ vs.take k = M.map dN ∧ M.length = k ∧ Canon M)
        (fun d h' => d = .bl false ∧ h = h' ∧ ¬ IsLab n (.tup vs)) n (e := [some (.tup vs), some (dN n), none]) (h := h) ⟨none, [], rfl, rfl, rfl, rfl, fun j hj => absurd hj (by simp)⟩ (by
          rintro k e h' hk ⟨x2, M, rfl, rfl, eM, lM, C⟩
          have hkl : k < vs.length := by omega
          obtain ⟨v, hkv⟩ : ∃ v, vs[k]? = some v := ⟨_, List.getElem?_eq_getElem hkl⟩
          have V := hv v (List.mem_of_getElem? hkv)
          have i1 := fun h => lwhole_V V (h := h)
          have xk : ∀ h, ixD vs (k : Int) h = .ok v h := fun h => ixD_some hkv
          cases hi : idx (k + 1) v with
          | none =>
            refine .inr ⟨.bl false, h, ?_, rfl, rfl, lab_no1 hkv hi⟩
            cases v with
            | int i =>
              have : ¬ (0 ≤ i ∧ i < (k : Int) + 1) := fun z => by
                simp only [idx] at hi
                rw [if_pos (by omega)] at hi
                cases hi
              by_cases c5 : i < 0
              · simp [lb__law_is_labels_1, xk, i1, isI, c5]
              · have c6 : (k : Int) < i := by omega
                simp [lb__law_is_labels_1, xk, i1, isI, c5, c6]
            | _ => simp [lb__law_is_labels_1, xk, i1, isI]
          | some t =>
            obtain ⟨rfl, ht⟩ := idx_some hi
            have i2 : ∀ h, c__law_is_whole [.int t] h = .ok (.bl true) h := i1
            have y1 : ¬ (t : Int) < 0 := by omega
            have y2 : ¬ (k : Int) < (t : Int) := by omega
            by_cases c2 : t < k
            · have x1 : ∀ h, ixD vs (t : Int) h = .ok (dN (M.getD t 0)) h := fun h => ixD_some (pre_get eM lM c2)
              by_cases c3 : M.getD t 0 = t
              · obtain ⟨s1, s2⟩ := lab_step eM lM C hkv hi fun _ => c3
                refine .inl ⟨_, _, ?_, some (dN k), M ++ [t], rfl, rfl, s1, by simp [lM], s2⟩
                rw [c3] at x1
                simp only [dN] at xk x1
                simp [lb__law_is_labels_1, xk, i2, x1, dN, y1, y2]
              · refine .inr ⟨.bl false, h, ?_, rfl, rfl, lab_no2 eM lM hkv hi c2 c3⟩
                have c4 : ¬ ((M.getD t 0 : Nat) : Int) = (t : Int) := by omega
                simp only [dN] at xk x1
                simp [lb__law_is_labels_1, xk, i2, x1, dN, y1, y2, c3, c4, -List.getD_eq_getElem?_getD]
            · have et : t = k := by omega
              subst et
              obtain ⟨s1, s2⟩ := lab_step eM lM C hkv hi fun z => absurd z c2
              refine .inl ⟨_, _, ?_, some (dN t), M ++ [t], rfl, rfl, s1, by simp [lM], s2⟩
              simp only [dN] at xk
              simp [lb__law_is_labels_1, xk, i2, dN, y1, y2]) with ⟨e', h', w, x2, M, rfl, rfl, eM, lM, C⟩ | ⟨d', h', w, rfl, rfl, no⟩
      · rw [← c, List.take_length] at eM
        have r1 : RgB (n : Int) := rgB_nat (by omega)
        refine ⟨true, ?_, by simp; exact ⟨M, by rw [eM], by omega, C⟩⟩
        have e : c__law_is_labels [.tup vs, dN n] h = gc h (.ok (.bl true) h) := by
          unfold c__law_is_labels fsem
          simp only [dN] at w
          simp [m__law_is_labels, dN, c, r1, rg_zero, w]
        rw [e, gc_same rfl]
      · have r1 : RgB (n : Int) := rgB_nat (by omega)
        refine ⟨false, ?_, by simpa using no⟩
        have e : c__law_is_labels [.tup vs, dN n] h = gc h (.ok (.bl false) h) := by
          unfold c__law_is_labels fsem
          simp only [dN] at w
          simp [m__law_is_labels, dN, c, r1, rg_zero, w]
        rw [e, gc_same rfl]
    · refine ⟨false, ?_, by simp; rintro ⟨L, e, l, _⟩; cases e; simp at c; exact c l⟩
      unfold c__law_is_labels fsem
      have c' : ¬ (vs.length : Int) = (n : Int) := by omega
      simp [m__law_is_labels, dN, c, c']
end Law

set_option maxHeartbeats 1000000
/-! labels that part -/
namespace Law
open PySem Rf L2
theorem sFor_rg2 {l : LM} {g : GM} {b : SM} {e : AE} {h h1 : AH} {i j : Nat} (hl : l e h = .ok [.int i, .int j] h1) (hi : i ≤ 1000000) (hj : j ≤ 1000000) : sFor (iRange2 l) g b e h = sLoop g b ((List.range (j - i)).map fun t => dN (i + t)) e h1 := by
  have r : RgB2 (i : Int) (j : Int) := ⟨by omega, by omega, by omega, by omega⟩
  have : iRange2 l e h = .ok (stat ((List.range (j - i)).map fun t => dN (i + t))) h1 := by
    unfold iRange2
    rw [hl]
    dsimp only
    rw [if_pos r]
    have : ((j : Int) - (i : Int)).toNat = j - i := by omega
    rw [this]
    rfl
  exact sFor_stat this
def Kept (n : Nat) (ps : List (List Nat)) (L : List Nat) : Prop := ∀ p ∈ ps, ∀ i j, i < n → j < n → L.getD i 0 = L.getD j 0 → L.getD (p.getD i 0) 0 = L.getD (p.getD j 0) 0
def Brk (n : Nat) (ps : List (List Nat)) (L : List Nat) : Prop := ∃ p ∈ ps, ∃ i j, i < n ∧ j < n ∧ L.getD i 0 = L.getD j 0 ∧ L.getD (p.getD i 0) 0 ≠ L.getD (p.getD j 0) 0
theorem broken_spec {n : Nat} {ps : List (List Nat)} {prs : List (Nat × Nat)} (I : Inp n ps prs) {L : List Nat} (hL : L.length = n) {h : AH} :
    ∃ d, c_broken [.tup (L.map dN), .tup (ps.map dC)] h = .ok d h ∧ (d.isNon = true ↔ Kept n ps L) := by
  have n2 := I.n2
  rcases sFor_enumT_ret (m := eVar 1) (g := gTup 2 (gCons (gVar 3) (gCons (gVar 4) gNils))) (b := lb_broken_1) (ds := ps.map dC)
    (e := [some (.tup (L.map dN)), some (.tup (ps.map dC)), some (dN n), none, none, none, none, none, none]) (h := h) (h1 := h)
    (fun k e h' => ∃ x3 x4 x5 x6 x7 g, e = [some (.tup (L.map dN)), some (.tup (ps.map dC)), some (dN n), x3, x4, x5, x6, x7, none] ∧ h' = h ++ g ∧ ∀ t, t < k → ∀ i j, i < n → j < n → L.getD i 0 = L.getD j 0 → L.getD ((ps.getD t []).getD i 0) 0 = L.getD ((ps.getD t []).getD j 0) 0)
    (fun d h' => (∃ x y z, d = .tup [dN x, dN y, dN z]) ∧ (∃ g, h' = h ++ g) ∧ Brk n ps L)
    rfl ⟨none, none, none, none, none, [], rfl, by simp, fun t ht => absurd ht (by omega)⟩ (by
      rintro k d e h' hd ⟨x3, x4, x5, x6, x7, g, rfl, rfl, ok⟩
      rw [List.getElem?_map] at hd
      obtain ⟨p, hp, rfl⟩ := Option.map_eq_some_iff.mp hd
      have hpm : p ∈ ps := List.mem_of_getElem? hp
      have P := I.pm p hpm
      have ep : ps.getD k [] = p := by rw [List.getD_eq_getElem?_getD, hp]; rfl
      have lp := P.len
      have l0 : lc_broken_1 [some (.tup (L.map dN)), some (.tup (ps.map dC)), some (dN n), some (dN k), some (dC p), x5, x6, x7, none] (h ++ g) = .ok (.ref (h ++ g).length) (h ++ g ++ [.lst ((p.map fun x => L.getD x 0).map dN)]) := by
        unfold lc_broken_1
        rw [eLc_map (φ := dN) p (fun x => dN (L.getD x 0)) (h1 := h ++ g) (iVal_tup (by rfl)) (by rw [lp, sizeLine_eq]; omega)]
        · rw [List.map_map]; rfl
        · intro x hx
          obtain ⟨t, ht, rfl⟩ := mem_getD (d := 0) hx
          have := P.lt t (by omega)
          have x1 : ∀ h, ixD (L.map dN) ((p.getD t 0 : Nat) : Int) h = .ok (dN (L.getD (p.getD t 0) 0)) h := fun h => ixD_N (by omega)
          simp only [dN] at x1
          simp [wipeE, dN, x1, -List.getD_eq_getElem?_getD]
      have gi : ∀ t, t < n → (p.map fun x => L.getD x 0).getD t 0 = L.getD (p.getD t 0) 0 := fun t ht => map_getD (d := 0) (by omega)
      have il : (p.map fun x => L.getD x 0).length = n := by rw [List.length_map, lp]
      generalize (p.map fun x => L.getD x 0) = im at l0 gi il
      have xi : ∀ t h, t < n → ixD (im.map dN) (t : Int) h = .ok (dN (im.getD t 0)) h := fun t h ht => ixD_N (by omega)
      have xl : ∀ t h, t < n → ixD (L.map dN) (t : Int) h = .ok (dN (L.getD t 0)) h := fun t h ht => ixD_N (by omega)
      have hr : (h ++ g ++ [AO.lst (im.map dN)])[(h ++ g).length]? = some (.lst (im.map dN)) := by simp
      generalize hH : h ++ g ++ [AO.lst (im.map dN)] = H at l0 hr
      generalize hq : (h ++ g).length = q at l0 hr
      have st : ∀ x6 x7, (∃ e' h', sLoop (gVar 6) lb_broken_2 ((List.range n).map dN) [some (.tup (L.map dN)), some (.tup (ps.map dC)), some (dN n), some (dN k), some (dC p), some (.ref q), x6, x7, none] H = .nx e' h' ∧
          ∃ x6 x7, e' = [some (.tup (L.map dN)), some (.tup (ps.map dC)), some (dN n), some (dN k), some (dC p), some (.ref q), x6, x7, none] ∧ H = h' ∧ ∀ i, i < n → ∀ j, i < j → j < n → L.getD i 0 = L.getD j 0 → im.getD i 0 = im.getD j 0) ∨
        ∃ d' h', sLoop (gVar 6) lb_broken_2 ((List.range n).map dN) [some (.tup (L.map dN)), some (.tup (ps.map dC)), some (dN n), some (dN k), some (dC p), some (.ref q), x6, x7, none] H = .rt d' h' ∧
          H = h' ∧ ∃ i j, i < n ∧ j < n ∧ L.getD i 0 = L.getD j 0 ∧ im.getD i 0 ≠ im.getD j 0 ∧ d' = .tup [dN k, dN i, dN j] := by
        intro x6 x7
        refine loopN_ret (k := 6) (b := lb_broken_2)
          (fun i e h' => ∃ x6 x7, e = [some (.tup (L.map dN)), some (.tup (ps.map dC)), some (dN n), some (dN k), some (dC p), some (.ref q), x6, x7, none] ∧ H = h' ∧ ∀ i', i' < i → ∀ j, i' < j → j < n → L.getD i' 0 = L.getD j 0 → im.getD i' 0 = im.getD j 0)
          (fun d' h' => H = h' ∧ ∃ i j, i < n ∧ j < n ∧ L.getD i 0 = L.getD j 0 ∧ im.getD i 0 ≠ im.getD j 0 ∧ d' = .tup [dN k, dN i, dN j])
          n ⟨x6, x7, rfl, rfl, fun i hi => absurd hi (by omega)⟩ ?_
        rintro i e h' hi ⟨x6, x7, rfl, rfl, ok1⟩
        have xii := fun h => xi i h hi
        have xli := fun h => xl i h hi
        have inner := loopM_ret (k := 7) (b := lb_broken_3) (φ := fun t => dN (i + 1 + t))
          (fun t e h' => ∃ x7, e = [some (.tup (L.map dN)), some (.tup (ps.map dC)), some (dN n), some (dN k), some (dC p), some (.ref q), some (dN i), x7, none] ∧ H = h' ∧ ∀ j, i < j → j < i + 1 + t → L.getD i 0 = L.getD j 0 → im.getD i 0 = im.getD j 0)
          (fun d' h' => H = h' ∧ ∃ i j, i < n ∧ j < n ∧ L.getD i 0 = L.getD j 0 ∧ im.getD i 0 ≠ im.getD j 0 ∧ d' = .tup [dN k, dN i, dN j])
          (List.range (n - (i + 1))) (e := [some (.tup (L.map dN)), some (.tup (ps.map dC)), some (dN n), some (dN k), some (dC p), some (.ref q), some (dN i), x7, none]) (h := H) ⟨x7, rfl, rfl, fun j h1 h2 => absurd h2 (by omega)⟩ (by
            rintro t u e h' hu ⟨x7, rfl, rfl, ok2⟩
            have htl := (List.getElem?_eq_some_iff.mp hu).1
            rw [List.length_range] at htl
            rw [List.getElem?_range htl] at hu
            obtain rfl : t = u := Option.some.inj hu
            have hjn : i + 1 + t < n := by omega
            generalize hJ : i + 1 + t = j at hjn
            have xij := fun h => xi j h hjn
            have xlj := fun h => xl j h hjn
            simp only [dN] at xii xli xij xlj
            have f3 : Fits 3 := fits (by decide)
            by_cases c1 : L.getD i 0 = L.getD j 0
            · by_cases c2 : im.getD i 0 = im.getD j 0
              · refine .inl ⟨_, _, by simp [lb_broken_3, dN, xii, xli, xij, xlj, hr, c1, c2, -List.getD_eq_getElem?_getD], some (dN j), rfl, rfl, fun j' h1 h2 e => ?_⟩
                by_cases jj : j' = j
                · rw [jj]; exact c2
                · exact ok2 j' h1 (by omega) e
              · have c3 : ¬ ((im.getD i 0 : Nat) : Int) = ((im.getD j 0 : Nat) : Int) := by omega
                exact .inr ⟨_, _, by simp [lb_broken_3, dN, xii, xli, xij, xlj, hr, c1, c2, c3, -List.getD_eq_getElem?_getD], rfl, i, j, hi, hjn, c1, c2, rfl⟩
            · have c3 : ¬ ((L.getD i 0 : Nat) : Int) = ((L.getD j 0 : Nat) : Int) := by omega
              refine .inl ⟨_, _, by simp [lb_broken_3, dN, xii, xli, xij, xlj, hr, c1, c3, -List.getD_eq_getElem?_getD], some (dN j), rfl, rfl, fun j' h1 h2 e => ?_⟩
              by_cases jj : j' = j
              · rw [jj] at e; exact absurd e c1
              · exact ok2 j' h1 (by omega) e)
        have go : lb_broken_2 [some (.tup (L.map dN)), some (.tup (ps.map dC)), some (dN n), some (dN k), some (dC p), some (.ref q), some (dN i), x7, none] H = sLoop (gVar 7) lb_broken_3 ((List.range (n - (i + 1))).map fun t => dN (i + 1 + t)) [some (.tup (L.map dN)), some (.tup (ps.map dC)), some (dN n), some (dN k), some (dC p), some (.ref q), some (dN i), x7, none] H := by
          unfold lb_broken_2
          exact sFor_rg2 (i := i + 1) (j := n) (by simp [dN]) (by omega) (by omega)
        rcases inner with ⟨e', h', w, x7', rfl, rfl, ok2⟩ | ⟨d', h', w, rfl, z⟩
        · refine .inl ⟨_, _, go.trans w, some (dN i), x7', rfl, rfl, fun i' hi' j h1 h2 e => ?_⟩
          by_cases ii : i' = i
          · subst ii
            rw [List.length_range] at ok2
            exact ok2 j h1 (by omega) e
          · exact ok1 i' (by omega) j h1 h2 e
        · exact .inr ⟨_, _, go.trans w, rfl, z⟩
      have rB : RgB (n : Int) := rgB_nat (by omega)
      rcases st x6 x7 with ⟨e', h', w, y6, y7, rfl, rfl, ok1⟩ | ⟨d', h', w, rfl, i, j, hi, hj, e1, e2, rfl⟩
      · refine .inl ⟨_, _, ?_, some (dN k), some (dC p), some (.ref q), y6, y7, g ++ [.lst (im.map dN)], rfl, by rw [← List.append_assoc, hH], fun t ht i j hi hj e => ?_⟩
        · simp only [dN] at l0 w
          simp [lb_broken_1, dN, l0, rB, rg_zero]
          simp [dN, w]
        · by_cases tk : t = k
          · subst tk
            rw [ep, ← gi i hi, ← gi j hj]
            rcases Nat.lt_trichotomy i j with q | q | q
            · exact ok1 i hi j q hj e
            · rw [q]
            · exact (ok1 j hj i q hi e.symm).symm
          · exact ok t (by omega) i j hi hj e
      · refine .inr ⟨_, _, ?_, ⟨k, i, j, rfl⟩, ⟨g ++ [.lst (im.map dN)], by rw [← List.append_assoc, hH]⟩, p, hpm, i, j, hi, hj, e1, by rw [← gi i hi, ← gi j hj]; exact e2⟩
        simp only [dN] at l0 w
        simp [lb_broken_1, dN, l0, rB, rg_zero]
        simp [dN, w]) with ⟨e', h', w, x3, x4, x5, x6, x7, g, rfl, rfl, ok⟩ | ⟨d', h', w, ⟨x, y, z, rfl⟩, ⟨g, rfl⟩, bk⟩
  · refine ⟨.non, ?_, ⟨fun _ p hp i j hi hj e => ?_, fun _ => rfl⟩⟩
    · have e : c_broken [.tup (L.map dN), .tup (ps.map dC)] h = gc h (.ok .non (h ++ g)) := by
        unfold c_broken fsem
        simp only [dN] at w
        simp [m_broken, dN, hL, w]
      rw [e, gc_app rfl]
    · obtain ⟨t, ht, rfl⟩ := mem_getD (d := []) hp
      rw [List.length_map] at ok
      exact ok t ht i j hi hj e
  · refine ⟨.tup [dN x, dN y, dN z], ?_, ⟨fun q => absurd q (by simp [D.isNon]), fun K => ?_⟩⟩
    · have e : c_broken [.tup (L.map dN), .tup (ps.map dC)] h = gc h (.ok (.tup [dN x, dN y, dN z]) (h ++ g)) := by
        unfold c_broken fsem
        simp only [dN] at w
        simp [m_broken, dN, hL, w]
      rw [e, gc_app rfl]
    · obtain ⟨p, hp, i, j, hi, hj, e1, e2⟩ := bk
      exact absurd (K p hp i j hi hj e1) e2
theorem good_iff {n : Nat} {ps : List (List Nat)} {prs : List (Nat × Nat)} {L : List Nat} : Good n ps prs (fun i => L.getD i 0) ↔ PS prs L ∧ Kept n ps L := ⟨fun G => ⟨G.pr, G.cl⟩, fun ⟨a, b⟩ => ⟨a, b⟩⟩
theorem ho_iff {n : Nat} {ps : List (List Nat)} {prs : List (Nat × Nat)} {L : List Nat} (hL : L.length = n) (C : Canon L) : HO n ps prs L ↔ Good n ps prs (fun i => L.getD i 0) :=
  ⟨fun H => H.good, fun G => ⟨G.pr, fun p hp k hk => by
    have c := C k (by omega)
    exact G.cl p hp k (L.getD k 0) hk (by omega) c.2.symm⟩⟩
/-- d is a row of labels that parts i and j -/
def PT (n : Nat) (ps : List (List Nat)) (prs : List (Nat × Nat)) (i j : Nat) (d : D) : Prop := ∃ L : List Nat, d = .tup (L.map dN) ∧ L.length = n ∧ Canon L ∧ Good n ps prs (fun i => L.getD i 0) ∧ L.getD i 0 ≠ L.getD j 0
theorem dN_inj {L M : List Nat} (e : D.tup (L.map dN) = .tup (M.map dN)) : L = M := by
  have e := D.tup.inj e
  have := List.map_inj_right (f := dN) (fun a b q => by have := D.int.inj q; omega) (l := L) (l' := M)
  exact this.mp e
theorem cAll_ref {r : Nat} {bs : List Bool} {h : AH} (e : h[r]? = some (.lst (bs.map D.bl))) : cAll [.ref r] h = .ok (.bl (bs.all id)) h := by
  have q : ∀ bs : List Bool, blsOf (bs.map D.bl) = some bs := by
    intro bs
    induction bs with
    | nil => rfl
    | cons b bs ih => simp [blsOf, ih]
  simp [cAll, Rf.listOf, e, q]
theorem parted_spec {n : Nat} {ps : List (List Nat)} {prs : List (Nat × Nat)} (I : Inp n ps prs) {d : D} (hd : Vd d) {i j : Nat} (hi : i < n) (hj : j < n) {h : AH} :
    ∃ b, c_shows_parted [.tup (ps.map dC), dN n, .tup (prs.map dP), dN i, dN j, d] h = .ok (.bl b) h ∧ (b = true ↔ PT n ps prs i j d) := by
  have n2 := I.n2
  obtain ⟨b1, e1, q1⟩ := is_labels_spec hd (n := n) (by omega) (h := h)
  simp only [dN] at e1
  cases b1 with
  | false =>
    refine ⟨false, ?_, by simp; rintro ⟨L, e, l, C, _⟩; exact absurd (q1.mpr ⟨L, e, l, C⟩) (by simp)⟩
    unfold c_shows_parted fsem
    simp [m_shows_parted, dN, e1]
  | true =>
    obtain ⟨L, rfl, hL, C⟩ := q1.mp rfl
    obtain ⟨d2, e2, q2⟩ := broken_spec I hL (h := h)
    have xi : ∀ h, ixD (L.map dN) (i : Int) h = .ok (dN (L.getD i 0)) h := fun h => ixD_N (by omega)
    have xj : ∀ h, ixD (L.map dN) (j : Int) h = .ok (dN (L.getD j 0)) h := fun h => ixD_N (by omega)
    simp only [dN] at xi xj
    cases hb : d2.isNon with
    | false =>
      refine ⟨false, ?_, by
        simp
        rintro ⟨M, e, l, C, G, _⟩
        cases dN_inj e
        rw [q2.mpr (good_iff.mp G).2] at hb
        cases hb⟩
      unfold c_shows_parted fsem
      simp [m_shows_parted, dN, e1, e2, hb]
    | true =>
      have K := q2.mp hb
      by_cases c : L.getD i 0 = L.getD j 0
      · refine ⟨false, ?_, by
          simp
          rintro ⟨M, e, l, C, G, ne⟩
          cases dN_inj e
          exact ne c⟩
        unfold c_shows_parted fsem
        simp [m_shows_parted, dN, e1, e2, hb, xi, xj, c, -List.getD_eq_getElem?_getD]
      · have c' : ¬ ((L.getD i 0 : Nat) : Int) = ((L.getD j 0 : Nat) : Int) := by omega
        have l0 : lc_shows_parted_1 [some (.tup (ps.map dC)), some (.int n), some (.tup (prs.map dP)), some (.int i), some (.int j), some (.tup (L.map dN)), none, none] h = .ok (.ref h.length) (h ++ [.lst (((List.range prs.length).map fun q => L.getD (prs.getD q (0, 0)).1 0 == L.getD (prs.getD q (0, 0)).2 0).map D.bl)]) := by
          unfold lc_shows_parted_1
          have rl := I.rl
          rw [eLc_gen (ds := prs.map dP) (h1 := h) (fun q => .bl (L.getD (prs.getD q (0, 0)).1 0 == L.getD (prs.getD q (0, 0)).2 0)) (iVal_tup rfl) (by rw [List.length_map, sizeLine_eq]; omega)]
          · rw [List.length_map, List.map_map]; rfl
          · intro q d hd
            rw [List.getElem?_map] at hd
            obtain ⟨p, hp, rfl⟩ := Option.map_eq_some_iff.mp hd
            have ep : prs.getD q (0, 0) = p := by rw [List.getD_eq_getElem?_getD, hp]; rfl
            have lt := I.pr p (List.mem_of_getElem? hp)
            have y1 : ∀ h, ixD (L.map dN) (p.1 : Int) h = .ok (dN (L.getD p.1 0)) h := fun h => ixD_N (by omega)
            have y2 : ∀ h, ixD (L.map dN) (p.2 : Int) h = .ok (dN (L.getD p.2 0)) h := fun h => ixD_N (by omega)
            simp only [dN] at y1 y2
            refine ⟨_, by simp [wipeE, dP]; rfl, ?_⟩
            rw [ep]
            simp [wipeE, dN, y1, y2, -List.getD_eq_getElem?_getD]
        refine ⟨((List.range prs.length).map fun q => L.getD (prs.getD q (0, 0)).1 0 == L.getD (prs.getD q (0, 0)).2 0).all id, ?_, ⟨fun q => ⟨L, rfl, hL, C, good_iff.mpr ⟨fun x hx => ?_, K⟩, c⟩, ?_⟩⟩
        · generalize (List.range prs.length).map (fun q => L.getD (prs.getD q (0, 0)).1 0 == L.getD (prs.getD q (0, 0)).2 0) = bs at l0
          have ca := cAll_ref (r := h.length) (bs := bs) (h := h ++ [.lst (bs.map D.bl)]) (by simp)
          have e : c_shows_parted [.tup (ps.map dC), dN n, .tup (prs.map dP), dN i, dN j, .tup (L.map dN)] h = gc h (.ok (.bl (bs.all id)) (h ++ [.lst (bs.map D.bl)])) := by
            unfold c_shows_parted fsem
            simp [m_shows_parted, dN, e1, e2, hb, xi, xj, c, c', l0, ca, -List.getD_eq_getElem?_getD]
          rw [e, gc_app rfl]
        · rw [List.all_eq_true] at q
          obtain ⟨t, ht, rfl⟩ := mem_getD (d := (0, 0)) hx
          have := q _ (List.mem_map.mpr ⟨t, List.mem_range.mpr ht, rfl⟩)
          simpa using this
        · rintro ⟨M, e, l, C, G, ne⟩
          cases dN_inj e
          rw [List.all_eq_true]
          intro x hx
          obtain ⟨t, ht, rfl⟩ := List.mem_map.mp hx
          have := G.pr _ (getD_mem (d := (0, 0)) (List.mem_range.mp ht))
          simpa using this
theorem parts_spec {n : Nat} {ps : List (List Nat)} {prs : List (Nat × Nat)} (I : Inp n ps prs) {d : D} (hd : Vd d) {i j : Nat} (hi : i < n) (hj : j < n) {h : AH} :
    ∃ b, c__law_parts [d, .tup (ps.map dC), dN n, .tup (prs.map dP), dN i, dN j] h = .ok (.bl b) h ∧ (b = true ↔ PT n ps prs i j d) := by
  have n2 := I.n2
  obtain ⟨b1, e1, q1⟩ := lis_labels_spec hd (n := n) (by omega) (h := h)
  simp only [dN] at e1
  cases b1 with
  | false =>
    refine ⟨false, ?_, by simp; rintro ⟨L, e, l, C, _⟩; exact absurd (q1.mpr ⟨L, e, l, C⟩) (by simp)⟩
    unfold c__law_parts fsem
    simp [m__law_parts, dN, e1]
  | true =>
    obtain ⟨L, rfl, hL, C⟩ := q1.mp rfl
    obtain ⟨b2, e2, q2, q3⟩ := holds_spec I C hL (h := h)
    have xi : ∀ h, ixD (L.map dN) (i : Int) h = .ok (dN (L.getD i 0)) h := fun h => ixD_N (by omega)
    have xj : ∀ h, ixD (L.map dN) (j : Int) h = .ok (dN (L.getD j 0)) h := fun h => ixD_N (by omega)
    simp only [dN] at xi xj
    cases b2 with
    | false =>
      refine ⟨false, ?_, by
        simp
        rintro ⟨M, e, l, C, G, _⟩
        cases dN_inj e
        exact absurd (q3 ((ho_iff hL C).mpr G)) (by simp)⟩
      unfold c__law_parts fsem
      simp [m__law_parts, dN, e1, e2]
    | true =>
      have G := (ho_iff hL C).mp (q2 rfl)
      refine ⟨decide (L.getD i 0 ≠ L.getD j 0), ?_, ?_⟩
      · unfold c__law_parts fsem
        by_cases c : L.getD i 0 = L.getD j 0
        · simp [m__law_parts, dN, e1, e2, xi, xj, c, -List.getD_eq_getElem?_getD]
        · have c' : ¬ ((L.getD i 0 : Nat) : Int) = ((L.getD j 0 : Nat) : Int) := by omega
          simp [m__law_parts, dN, e1, e2, xi, xj, c, c', -List.getD_eq_getElem?_getD]
      · rw [decide_eq_true_eq]
        refine ⟨fun ne => ⟨L, rfl, hL, C, G, ne⟩, ?_⟩
        rintro ⟨M, e, l, C, G, ne⟩
        cases dN_inj e
        exact ne
end Law

set_option maxHeartbeats 1000000
namespace Law
open PySem Rf L2
/-- a heap whose thing a is o, with things g behind -/
def HG (h : AH) (a : Nat) (o : AO) (g : AH) : AH := h.set a o ++ g
section
variable {h : AH} {a : Nat} {o : AO} {g : AH}
theorem HG_a (ha : a < h.length) : (HG h a o g)[a]? = some o := app_get_l (List.getElem?_set_self ha)
theorem HG_g {i : Nat} : (HG h a o g)[h.length + i]? = g[i]? := by
  unfold HG
  have := app_get (h := h.set a o) (g := g) (i := i)
  rwa [List.length_set] at this
theorem HG_0 : (HG h a o g)[h.length]? = g[0]? := HG_g (i := 0)
theorem HG_len : (HG h a o g).length = h.length + g.length := by unfold HG; simp
theorem HG_sa (ha : a < h.length) (o' : AO) : (HG h a o g).set a o' = HG h a o' g := by
  unfold HG; rw [app_set_l (by simpa using ha), List.set_set]
theorem HG_sg {i : Nat} (v : AO) : (HG h a o g).set (h.length + i) v = HG h a o (g.set i v) := by
  unfold HG; rw [app_set (by simp)]
theorem HG_app (x : AH) : HG h a o g ++ x = HG h a o (g ++ x) := by unfold HG; simp
theorem HG_take (ha : a < h.length) {N : Nat} (B : Bag N o) (hN : N ≤ 1000000000) {s : Nat} (hs : 0 < s) (hs2 : s < 10 ^ 60) : ∃ (d : Nat) (o' : AO), c__law_take [.ref a, .int s] (HG h a o g) = .ok (.int d) (HG h a o' g) ∧ d < s ∧ Bag (N + 1) o' := by
  obtain ⟨d, o', e, hd, B'⟩ := take_spec (s := (s : Int)) (HG_a (o := o) (g := g) ha) B hN (by omega) (by omega)
  rw [HG_sa ha] at e
  exact ⟨d, o', e, by omega, B'⟩
theorem HG_self (ha : h[a]? = some o) : HG h a o [] = h := by unfold HG; rw [set_self ha, List.append_nil]
end
theorem oAdd_T {xs ys : List D} (hl : xs.length + ys.length ≤ 100000) (h : AH) : oAdd (.tup xs) (.tup ys) h = .ok (.tup (xs ++ ys)) h := by
  show (if Fits _ then _ else _) = _
  rw [if_pos (fits (by omega))]
theorem oAdd_ref {r q : Nat} {xs ys : List D} {h : AH} (hr : h[r]? = some (.lst xs)) (hq : h[q]? = some (.lst ys)) (hl : xs.length + ys.length ≤ 100000) : oAdd (.ref r) (.ref q) h = .ok (.ref h.length) (h ++ [.lst (xs ++ ys)]) := by
  have : Fits (xs.length + ys.length) := fits (by omega)
  simp [oAdd, hr, hq, this]
theorem cutTo (es : List D) (k : Nat) : cutD es none (some (k : Int)) = es.take k := cutD_to es k
theorem cutFrom1 (es : List D) (k : Nat) : cutD es (some ((k : Int) + 1)) none = es.drop (k + 1) := by
  have := cutD_from es (k + 1)
  simpa using this
theorem Rs_of {L : List D} (hl : L.length ≤ 1000) (h : ∀ l ∈ L, Ln l) : Rs (.tup L) := .inr ⟨L, rfl, hl, h⟩
theorem Rs_mid {ls : List D} (hl : ls.length ≤ 400) (h : ∀ l ∈ ls, Ln l) {m : D} (hm : Ln m) (i j : Nat) : Rs (.tup (ls.take i ++ ([m] ++ ls.drop j))) := by
  refine Rs_of (by simp; omega) fun l hl => ?_
  simp only [List.mem_append, List.mem_singleton] at hl
  rcases hl with hl | rfl | hl
  · exact h l (List.mem_of_mem_take hl)
  · exact hm
  · exact h l (List.mem_of_mem_drop hl)
theorem W0.ln {d : D} (w : W0 d) : Ln d := by
  rcases w with w | ⟨i, rfl⟩
  · exact .inl w
  · exact .inr ⟨[.int i], rfl, by simp, fun w hw => by rw [List.mem_singleton.mp hw]; exact .inl trivial⟩
theorem odds_W {ls : List D} {at_ n t : Nat} (ht : t < 18) : ∃ d, W0 d ∧ ∀ h, ixD [.int (-1), .int at_, .int (at_ + 1), .int ls.length, .int 0, .int 1, .int n, .bl true, .bl false, .non, .str (Str.ofString "self"), .str (Str.ofString "told"), .str (Str.ofString "swap"), .str (Str.ofString "moved"), .str (Str.ofString "through"), .str (Str.ofString ""), .tup [.int 0], .str (Str.ofString "Self")] (t : Int) h = .ok d h := by
  have W : ∀ x ∈ ([.int (-1), .int at_, .int (at_ + 1), .int ls.length, .int 0, .int 1, .int n, .bl true, .bl false, .non, .str (Str.ofString "self"), .str (Str.ofString "told"), .str (Str.ofString "swap"), .str (Str.ofString "moved"), .str (Str.ofString "through"), .str (Str.ofString ""), .tup [.int 0], .str (Str.ofString "Self")] : List D), W0 x := by
    simp only [List.forall_mem_cons]
    refine ⟨?_, ?_, ?_, ?_, ?_, ?_, ?_, ?_, ?_, ?_, ?_, ?_, ?_, ?_, ?_, ?_, ?_, ?_, fun x hx => absurd hx (by simp)⟩
    all_goals first | exact .inl trivial | exact .inl (by show PyData.strOk _ = true; decide +kernel) | exact .inr ⟨_, rfl⟩
  exact ⟨_, W _ (getD_mem (d := .non) (i := t) (by simpa using ht)), fun h => ixD_some (getD_some (by simpa using ht))⟩
theorem four_R {t : Nat} (ht : t < 6) : ∃ d, Rs d ∧ ∀ h, ixD [.non, .tup [], .str (Str.ofString "self"), .int 0, .bl true, .tup [.str (Str.ofString "self"), .int 0]] (t : Int) h = .ok d h := by
  have W : ∀ x ∈ ([.non, .tup [], .str (Str.ofString "self"), .int 0, .bl true, .tup [.str (Str.ofString "self"), .int 0]] : List D), Rs x := by
    simp only [List.forall_mem_cons]
    refine ⟨.inl trivial, .inr ⟨[], rfl, by simp, fun l hl => absurd hl (by simp)⟩, .inl ok_self, .inl trivial, .inl trivial, .inr ⟨_, rfl, by simp, fun l hl => ?_⟩, fun x hx => absurd hx (by simp)⟩
    simp at hl
    rcases hl with rfl | rfl
    · exact .inl ok_self
    · exact .inl trivial
  exact ⟨_, W _ (getD_mem (d := .non) (i := t) (by simpa using ht)), fun h => ixD_some (getD_some (by simpa using ht))⟩
noncomputable def btail2 : SM := (sSeq (sIf (eOp oEq (eVar 3) (eC (.int 0)))
    (sRet (eOp oAdd (eSl (eVar 1) none (some (eVar 4))) (eSl (eVar 1) (some (eOp oAdd (eVar 4) (eC (.int 1)))) none)))
    sPass)
  (sSeq (sIf (eOp oEq (eVar 3) (eC (.int 1)))
    (sRet (eOp oAdd (eOp oAdd (eSl (eVar 1) none (some (eVar 4))) (eTup (lCons (eVar 7) lNil))) (eSl (eVar 1) (some (eVar 4)) none)))
    sPass)
  (sSeq (sIf (eOp oEq (eVar 3) (eC (.int 2)))
    (sRet (eOp oAdd (eOp oAdd (eSl (eVar 1) none (some (eVar 4))) (eTup (lCons (eOp oAdd (eVar 5) (eTup (lCons (eVar 7) lNil))) lNil))) (eSl (eVar 1) (some (eOp oAdd (eVar 4) (eC (.int 1)))) none)))
    sPass)
  (sSeq (sIf (eOp oEq (eVar 3) (eC (.int 3)))
    (sRet (eOp oAdd (eOp oAdd (eSl (eVar 1) none (some (eVar 4))) (eTup (lCons (eSl (eVar 5) none (some (eOp oSub (eCall cLen (lCons (eVar 5) lNil)) (eC (.int 1))))) lNil))) (eSl (eVar 1) (some (eOp oAdd (eVar 4) (eC (.int 1)))) none)))
    sPass)
  (sSeq (sIf (eOp oEq (eVar 3) (eC (.int 4)))
    (sRet (eOp oIx (eLst (lCons (eC .non) (lCons (eTup lNil) (lCons (eC (.str (Str.ofString "self"))) (lCons (eC (.int 0)) (lCons (eC (.bl true)) (lCons (eTup (lCons (eC (.str (Str.ofString "self"))) (lCons (eC (.int 0)) lNil))) lNil))))))) (eCall (argn 2 c__law_take) (lCons (eVar 0) (lCons (eC (.int 6)) lNil)))))
    sPass)
  (sSeq (sIf (eOp oEq (eVar 3) (eC (.int 5)))
    (sSeq (sSet 8 (eOp oIx (eLst (lCons (eVar 5) (lCons (eTup (lCons (eC (.str (Str.ofString "self"))) (lCons (eCall (argn 2 c__law_take) (lCons (eVar 0) (lCons (eVar 2) lNil))) lNil))) lNil))) (eCall (argn 2 c__law_take) (lCons (eVar 0) (lCons (eC (.int 2)) lNil)))))
  (sRet (eOp oAdd (eOp oAdd (eSl (eVar 1) none (some (eVar 4))) (eTup (lCons (eVar 8) lNil))) (eSl (eVar 1) (some (eVar 4)) none))))
    sPass)
  (sSeq (sSet 9 (eCall (argn 2 c__law_take) (lCons (eVar 0) (lCons (eCall cLen (lCons (eVar 5) lNil)) lNil))))
  (sRet (eOp oAdd (eOp oAdd (eSl (eVar 1) none (some (eVar 4))) (eTup (lCons (eOp oAdd (eOp oAdd (eSl (eVar 5) none (some (eVar 9))) (eTup (lCons (eVar 7) lNil))) (eSl (eVar 5) (some (eOp oAdd (eVar 9) (eC (.int 1)))) none)) lNil))) (eSl (eVar 1) (some (eOp oAdd (eVar 4) (eC (.int 1)))) none))))))))))
noncomputable def btail : SM := (sSeq (sIf (eOp oEq (eVar 3) (eC (.int 8)))
    (sSet 7 (eCall (argn 2 c__law_take) (lCons (eVar 0) (lCons (eOp oAdd (eVar 4) (eC (.int 1))) lNil))))
    sPass)
  (sSeq (sIf (eOp oEq (eVar 3) (eC (.int 0)))
    (sRet (eOp oAdd (eSl (eVar 1) none (some (eVar 4))) (eSl (eVar 1) (some (eOp oAdd (eVar 4) (eC (.int 1)))) none)))
    sPass)
  (sSeq (sIf (eOp oEq (eVar 3) (eC (.int 1)))
    (sRet (eOp oAdd (eOp oAdd (eSl (eVar 1) none (some (eVar 4))) (eTup (lCons (eVar 7) lNil))) (eSl (eVar 1) (some (eVar 4)) none)))
    sPass)
  (sSeq (sIf (eOp oEq (eVar 3) (eC (.int 2)))
    (sRet (eOp oAdd (eOp oAdd (eSl (eVar 1) none (some (eVar 4))) (eTup (lCons (eOp oAdd (eVar 5) (eTup (lCons (eVar 7) lNil))) lNil))) (eSl (eVar 1) (some (eOp oAdd (eVar 4) (eC (.int 1)))) none)))
    sPass)
  (sSeq (sIf (eOp oEq (eVar 3) (eC (.int 3)))
    (sRet (eOp oAdd (eOp oAdd (eSl (eVar 1) none (some (eVar 4))) (eTup (lCons (eSl (eVar 5) none (some (eOp oSub (eCall cLen (lCons (eVar 5) lNil)) (eC (.int 1))))) lNil))) (eSl (eVar 1) (some (eOp oAdd (eVar 4) (eC (.int 1)))) none)))
    sPass)
  (sSeq (sIf (eOp oEq (eVar 3) (eC (.int 4)))
    (sRet (eOp oIx (eLst (lCons (eC .non) (lCons (eTup lNil) (lCons (eC (.str (Str.ofString "self"))) (lCons (eC (.int 0)) (lCons (eC (.bl true)) (lCons (eTup (lCons (eC (.str (Str.ofString "self"))) (lCons (eC (.int 0)) lNil))) lNil))))))) (eCall (argn 2 c__law_take) (lCons (eVar 0) (lCons (eC (.int 6)) lNil)))))
    sPass)
  (sSeq (sIf (eOp oEq (eVar 3) (eC (.int 5)))
    (sSeq (sSet 8 (eOp oIx (eLst (lCons (eVar 5) (lCons (eTup (lCons (eC (.str (Str.ofString "self"))) (lCons (eCall (argn 2 c__law_take) (lCons (eVar 0) (lCons (eVar 2) lNil))) lNil))) lNil))) (eCall (argn 2 c__law_take) (lCons (eVar 0) (lCons (eC (.int 2)) lNil)))))
  (sRet (eOp oAdd (eOp oAdd (eSl (eVar 1) none (some (eVar 4))) (eTup (lCons (eVar 8) lNil))) (eSl (eVar 1) (some (eVar 4)) none))))
    sPass)
  (sSeq (sSet 9 (eCall (argn 2 c__law_take) (lCons (eVar 0) (lCons (eCall cLen (lCons (eVar 5) lNil)) lNil))))
  (sRet (eOp oAdd (eOp oAdd (eSl (eVar 1) none (some (eVar 4))) (eTup (lCons (eOp oAdd (eOp oAdd (eSl (eVar 5) none (some (eVar 9))) (eTup (lCons (eVar 7) lNil))) (eSl (eVar 5) (some (eOp oAdd (eVar 9) (eC (.int 1)))) none)) lNil))) (eSl (eVar 1) (some (eOp oAdd (eVar 4) (eC (.int 1)))) none)))))))))))
theorem btail_split : btail = (sSeq (sIf (eOp oEq (eVar 3) (eC (.int 8)))
    (sSet 7 (eCall (argn 2 c__law_take) (lCons (eVar 0) (lCons (eOp oAdd (eVar 4) (eC (.int 1))) lNil))))
    sPass)
  btail2) := rfl
theorem bent_split : m__law_bent = (sSeq (sSet 3 (eCall (argn 2 c__law_take) (lCons (eVar 0) (lCons (eC (.int 9)) lNil))))
  (sSeq (sSet 4 (eCall (argn 2 c__law_take) (lCons (eVar 0) (lCons (eCall cLen (lCons (eVar 1) lNil)) lNil))))
  (sSeq (sSet 5 (eOp oIx (eVar 1) (eVar 4)))
  (sSeq (sSet 6 (eLst (lCons (eUn oNeg (eC (.int 1))) (lCons (eVar 4) (lCons (eOp oAdd (eVar 4) (eC (.int 1))) (lCons (eCall cLen (lCons (eVar 1) lNil)) (lCons (eC (.int 0)) (lCons (eC (.int 1)) (lCons (eVar 2) (lCons (eC (.bl true)) (lCons (eC (.bl false)) (lCons (eC .non) (lCons (eC (.str (Str.ofString "self"))) (lCons (eC (.str (Str.ofString "told"))) (lCons (eC (.str (Str.ofString "swap"))) (lCons (eC (.str (Str.ofString "moved"))) lNil))))))))))))))))
  (sSeq (sSet 6 (eOp oAdd (eVar 6) (eLst (lCons (eC (.str (Str.ofString "through"))) (lCons (eC (.str (Str.ofString ""))) (lCons (eTup (lCons (eC (.int 0)) lNil)) (lCons (eC (.str (Str.ofString "Self"))) lNil)))))))
  (sSeq (sSet 7 (eOp oIx (eVar 6) (eCall (argn 2 c__law_take) (lCons (eVar 0) (lCons (eC (.int 18)) lNil)))))
  btail)))))) := rfl
/-- the common ground -/
theorem bent_pre {h : AH} {a N : Nat} {o : AO} (ha : h[a]? = some o) (hb : Bag N o) (hN : N + 10 ≤ 1000000000) {ls : List D} (hl0 : 0 < ls.length) (hl : ls.length ≤ 400) {n : Nat} (h1 : 1 ≤ n) (hn : n ≤ 1000) :
    ∃ (kd at_ : Nat) (od : D) (o3 : AO) (G : AH), m__law_bent [some (.ref a), some (.tup ls), some (dN n), none, none, none, none, none, none, none] h = btail [some (.ref a), some (.tup ls), some (dN n), some (dN kd), some (dN at_), some (ls.getD at_ .non), some (.ref (h.length + 2)), some od, none, none] (HG h a o3 G) ∧
      kd < 9 ∧ at_ < ls.length ∧ W0 od ∧ Bag (N + 3) o3 := by
  have hal := (List.getElem?_eq_some_iff.mp ha).1
  have hs : HG h a o [] = h := HG_self ha
  obtain ⟨kd, o1, t1, hk, B1⟩ := HG_take (h := h) (g := []) hal hb (by omega) (s := 9) (by omega) (by omega)
  replace t1 : c__law_take [.ref a, .int 9] h = .ok (.int kd) (HG h a o1 []) := by rw [hs] at t1; exact t1
  obtain ⟨at_, o2, t2, hat, B2⟩ := HG_take (h := h) (g := []) hal B1 (by omega) (s := ls.length) (by omega) (by omega)
  have xl : ∀ h, ixD ls (at_ : Int) h = .ok (ls.getD at_ .non) h := fun h => ixD_some (getD_some hat)
  have oa : ∀ o, oAdd (.ref h.length) (.ref (h.length + 1)) (HG h a o [.lst [.int (-1), .int at_, .int (at_ + 1), .int ls.length, .int 0, .int 1, .int n, .bl true, .bl false, .non, .str (Str.ofString "self"), .str (Str.ofString "told"), .str (Str.ofString "swap"), .str (Str.ofString "moved")], .lst [.str (Str.ofString "through"), .str (Str.ofString ""), .tup [.int 0], .str (Str.ofString "Self")]]) = .ok (.ref (h.length + 2)) (HG h a o [.lst [.int (-1), .int at_, .int (at_ + 1), .int ls.length, .int 0, .int 1, .int n, .bl true, .bl false, .non, .str (Str.ofString "self"), .str (Str.ofString "told"), .str (Str.ofString "swap"), .str (Str.ofString "moved")], .lst [.str (Str.ofString "through"), .str (Str.ofString ""), .tup [.int 0], .str (Str.ofString "Self")], .lst [.int (-1), .int at_, .int (at_ + 1), .int ls.length, .int 0, .int 1, .int n, .bl true, .bl false, .non, .str (Str.ofString "self"), .str (Str.ofString "told"), .str (Str.ofString "swap"), .str (Str.ofString "moved"), .str (Str.ofString "through"), .str (Str.ofString ""), .tup [.int 0], .str (Str.ofString "Self")]]) := fun o => by
    have := oAdd_ref (h := HG h a o [.lst [.int (-1), .int at_, .int (at_ + 1), .int ls.length, .int 0, .int 1, .int n, .bl true, .bl false, .non, .str (Str.ofString "self"), .str (Str.ofString "told"), .str (Str.ofString "swap"), .str (Str.ofString "moved")], .lst [.str (Str.ofString "through"), .str (Str.ofString ""), .tup [.int 0], .str (Str.ofString "Self")]]) (r := h.length) (q := h.length + 1) HG_0 HG_g (by simp)
    rw [this, HG_len, HG_app]; rfl
  obtain ⟨t, o3, t3, ht, B3⟩ := HG_take (h := h) (g := [.lst [.int (-1), .int at_, .int (at_ + 1), .int ls.length, .int 0, .int 1, .int n, .bl true, .bl false, .non, .str (Str.ofString "self"), .str (Str.ofString "told"), .str (Str.ofString "swap"), .str (Str.ofString "moved")], .lst [.str (Str.ofString "through"), .str (Str.ofString ""), .tup [.int 0], .str (Str.ofString "Self")], .lst [.int (-1), .int at_, .int (at_ + 1), .int ls.length, .int 0, .int 1, .int n, .bl true, .bl false, .non, .str (Str.ofString "self"), .str (Str.ofString "told"), .str (Str.ofString "swap"), .str (Str.ofString "moved"), .str (Str.ofString "through"), .str (Str.ofString ""), .tup [.int 0], .str (Str.ofString "Self")]]) hal B2 (by omega) (s := 18) (by omega) (by omega)
  replace t3 : c__law_take [.ref a, .int 18] (HG h a o2 [.lst [.int (-1), .int at_, .int (at_ + 1), .int ls.length, .int 0, .int 1, .int n, .bl true, .bl false, .non, .str (Str.ofString "self"), .str (Str.ofString "told"), .str (Str.ofString "swap"), .str (Str.ofString "moved")], .lst [.str (Str.ofString "through"), .str (Str.ofString ""), .tup [.int 0], .str (Str.ofString "Self")], .lst [.int (-1), .int at_, .int (at_ + 1), .int ls.length, .int 0, .int 1, .int n, .bl true, .bl false, .non, .str (Str.ofString "self"), .str (Str.ofString "told"), .str (Str.ofString "swap"), .str (Str.ofString "moved"), .str (Str.ofString "through"), .str (Str.ofString ""), .tup [.int 0], .str (Str.ofString "Self")]]) = .ok (.int t) (HG h a o3 [.lst [.int (-1), .int at_, .int (at_ + 1), .int ls.length, .int 0, .int 1, .int n, .bl true, .bl false, .non, .str (Str.ofString "self"), .str (Str.ofString "told"), .str (Str.ofString "swap"), .str (Str.ofString "moved")], .lst [.str (Str.ofString "through"), .str (Str.ofString ""), .tup [.int 0], .str (Str.ofString "Self")], .lst [.int (-1), .int at_, .int (at_ + 1), .int ls.length, .int 0, .int 1, .int n, .bl true, .bl false, .non, .str (Str.ofString "self"), .str (Str.ofString "told"), .str (Str.ofString "swap"), .str (Str.ofString "moved"), .str (Str.ofString "through"), .str (Str.ofString ""), .tup [.int 0], .str (Str.ofString "Self")]]) := t3
  obtain ⟨od, hod, xo⟩ := odds_W (ls := ls) (at_ := at_) (n := n) ht
  have g2 : ∀ o, (HG h a o [.lst [.int (-1), .int at_, .int (at_ + 1), .int ls.length, .int 0, .int 1, .int n, .bl true, .bl false, .non, .str (Str.ofString "self"), .str (Str.ofString "told"), .str (Str.ofString "swap"), .str (Str.ofString "moved")], .lst [.str (Str.ofString "through"), .str (Str.ofString ""), .tup [.int 0], .str (Str.ofString "Self")], .lst [.int (-1), .int at_, .int (at_ + 1), .int ls.length, .int 0, .int 1, .int n, .bl true, .bl false, .non, .str (Str.ofString "self"), .str (Str.ofString "told"), .str (Str.ofString "swap"), .str (Str.ofString "moved"), .str (Str.ofString "through"), .str (Str.ofString ""), .tup [.int 0], .str (Str.ofString "Self")]])[h.length + 2]? = some (.lst [.int (-1), .int at_, .int (at_ + 1), .int ls.length, .int 0, .int 1, .int n, .bl true, .bl false, .non, .str (Str.ofString "self"), .str (Str.ofString "told"), .str (Str.ofString "swap"), .str (Str.ofString "moved"), .str (Str.ofString "through"), .str (Str.ofString ""), .tup [.int 0], .str (Str.ofString "Self")]) := fun o => HG_g
  have ff : ∀ k : Nat, k ≤ 1000 → Fits k := fun k h => fits (by omega)
  generalize eg : [AO.lst [.int (-1), .int at_, .int (at_ + 1), .int ls.length, .int 0, .int 1, .int n, .bl true, .bl false, .non, .str (Str.ofString "self"), .str (Str.ofString "told"), .str (Str.ofString "swap"), .str (Str.ofString "moved")], .lst [.str (Str.ofString "through"), .str (Str.ofString ""), .tup [.int 0], .str (Str.ofString "Self")], .lst [.int (-1), .int at_, .int (at_ + 1), .int ls.length, .int 0, .int 1, .int n, .bl true, .bl false, .non, .str (Str.ofString "self"), .str (Str.ofString "told"), .str (Str.ofString "swap"), .str (Str.ofString "moved"), .str (Str.ofString "through"), .str (Str.ofString ""), .tup [.int 0], .str (Str.ofString "Self")]] = G at oa t3 g2
  refine ⟨kd, at_, od, o3, G, ?_, hk, hat, hod, B3⟩
  rw [bent_split]
  simp only [dN] at *
  generalize hbt : btail = bt
  generalize ls.getD at_ .non = el at xl
  simp [t1, t2, xl, ff, HG_len, HG_app, oa, t3, g2, xo, eg]
theorem bent8 {h : AH} {a N : Nat} {o : AO} (hal : a < h.length) (hb : Bag N o) (hN : N + 10 ≤ 1000000000) {ls : List D} (hl : ls.length ≤ 400) {n kd at_ : Nat} {el od : D} {dr : D} {G : AH} (hat : at_ < ls.length) (hod : W0 od) :
    ∃ (od2 : D) (o3 : AO), btail [some (.ref a), some (.tup ls), some (dN n), some (dN kd), some (dN at_), some el, some dr, some od, none, none] (HG h a o G) = btail2 [some (.ref a), some (.tup ls), some (dN n), some (dN kd), some (dN at_), some el, some dr, some od2, none, none] (HG h a o3 G) ∧
      W0 od2 ∧ Bag (N + 1) o3 := by
  by_cases q : kd = 8
  · subst q
    obtain ⟨od2, o3', t3', hod2, B3'⟩ := HG_take (h := h) (g := G) hal hb (by omega) (s := at_ + 1) (by omega) (by omega)
    replace t3' : c__law_take [.ref a, .int ((at_ : Int) + 1)] (HG h a o G) = .ok (.int od2) (HG h a o3' G) := t3'
    refine ⟨.int od2, o3', ?_, .inl trivial, B3'⟩
    rw [btail_split]
    generalize btail2 = bt
    simp [t3']
  · refine ⟨od, o, ?_, hod, hb.mono (by omega)⟩
    rw [btail_split]
    generalize btail2 = bt
    have : ¬ (kd : Int) = 8 := by omega
    simp [q, this]
section
variable {h : AH} {a N n at_ : Nat} {o : AO} {ls ws : List D} {od dr : D} {G : AH} (hal : a < h.length) (hb : Bag N o) (hN : N + 10 ≤ 1000000000) (hl : ls.length ≤ 400) (hln : ∀ l ∈ ls, Ln l) (hat : at_ < ls.length) (hod : W0 od) (w2 : 2 ≤ ws.length) (w3 : ws.length ≤ 3) (hw : ∀ w ∈ ws, W0 w) (h1 : 1 ≤ n) (hn : n ≤ 1000)
include hal hb hN hl hln hat hod w2 w3 hw h1 hn
/-- what the tail must do -/
def BG (h : AH) (a N : Nat) (r : SR) : Prop := ∃ d o' g, r = .rt d (HG h a o' g) ∧ Rs d ∧ Bag (N + 4) o'
theorem bent_k0 : BG h a N (btail2 [some (.ref a), some (.tup ls), some (dN n), some (dN 0), some (dN at_), some (.tup ws), some dr, some od, none, none] (HG h a o G)) := by
  have ff : ∀ k : Nat, k ≤ 1000 → Fits k := fun k h => fits (by omega)
  have A0 := fun h => oAdd_T (xs := ls.take at_) (ys := ls.drop (at_ + 1)) (by simp; omega) h
  refine ⟨.tup (ls.take at_ ++ ls.drop (at_ + 1)), o, G, ?_, ?_, hb.mono (by omega)⟩
  · simp [btail2, A0, cutTo, cutFrom1, dN]
  · refine Rs_of (by simp; omega) fun l hl => ?_
    rcases List.mem_append.mp hl with hl | hl
    · exact hln l (List.mem_of_mem_take hl)
    · exact hln l (List.mem_of_mem_drop hl)
theorem bent_k1 : BG h a N (btail2 [some (.ref a), some (.tup ls), some (dN n), some (dN 1), some (dN at_), some (.tup ws), some dr, some od, none, none] (HG h a o G)) := by
  have ff : ∀ k : Nat, k ≤ 1000 → Fits k := fun k h => fits (by omega)
  have A1 := fun m h => oAdd_T (xs := ls.take at_) (ys := [m]) (by simp; omega) h
  have A3 := fun m h => oAdd_T (xs := ls.take at_ ++ [m]) (ys := ls.drop at_) (by simp; omega) h
  refine ⟨.tup (ls.take at_ ++ ([od] ++ ls.drop at_)), o, G, ?_, Rs_mid hl hln hod.ln _ _, hb.mono (by omega)⟩
  simp [btail2, A1, A3, cutTo, cutFrom1, cutD_from, dN]
theorem bent_k2 : BG h a N (btail2 [some (.ref a), some (.tup ls), some (dN n), some (dN 2), some (dN at_), some (.tup ws), some dr, some od, none, none] (HG h a o G)) := by
  have ff : ∀ k : Nat, k ≤ 1000 → Fits k := fun k h => fits (by omega)
  have A1 := fun m h => oAdd_T (xs := ls.take at_) (ys := [m]) (by simp; omega) h
  have A2 := fun m h => oAdd_T (xs := ls.take at_ ++ [m]) (ys := ls.drop (at_ + 1)) (by simp; omega) h
  have A4 := fun m h => oAdd_T (xs := ws) (ys := [m]) (by simp; omega) h
  have LW : ∀ us : List D, us.length ≤ 10 → (∀ w ∈ us, W0 w) → Ln (.tup us) := fun us h1 h2 => .inr ⟨us, rfl, h1, h2⟩
  refine ⟨.tup (ls.take at_ ++ ([.tup (ws ++ [od])] ++ ls.drop (at_ + 1))), o, G, ?_, Rs_mid hl hln (LW _ (by simp; omega) fun w hw' => ?_) _ _, hb.mono (by omega)⟩
  · simp [btail2, A1, A2, A4, cutTo, cutFrom1, dN]
  · rcases List.mem_append.mp hw' with h | h
    · exact hw w h
    · rw [List.mem_singleton.mp h]; exact hod
theorem bent_k3 : BG h a N (btail2 [some (.ref a), some (.tup ls), some (dN n), some (dN 3), some (dN at_), some (.tup ws), some dr, some od, none, none] (HG h a o G)) := by
  have ff : ∀ k : Nat, k ≤ 1000 → Fits k := fun k h => fits (by omega)
  have A1 := fun m h => oAdd_T (xs := ls.take at_) (ys := [m]) (by simp; omega) h
  have A2 := fun m h => oAdd_T (xs := ls.take at_ ++ [m]) (ys := ls.drop (at_ + 1)) (by simp; omega) h
  have LW : ∀ us : List D, us.length ≤ 10 → (∀ w ∈ us, W0 w) → Ln (.tup us) := fun us h1 h2 => .inr ⟨us, rfl, h1, h2⟩
  have cw : cutD ws none (some ((ws.length : Int) - 1)) = ws.take (ws.length - 1) := by
    rw [show (ws.length : Int) - 1 = ((ws.length - 1 : Nat) : Int) by omega]; exact cutD_to _ _
  refine ⟨.tup (ls.take at_ ++ ([.tup (ws.take (ws.length - 1))] ++ ls.drop (at_ + 1))), o, G, ?_, Rs_mid hl hln (LW _ (by simp; omega) fun w hw' => hw w (List.mem_of_mem_take hw')) _ _, hb.mono (by omega)⟩
  simp [btail2, A1, A2, cw, cutTo, cutFrom1, dN]
theorem bent_k4 : BG h a N (btail2 [some (.ref a), some (.tup ls), some (dN n), some (dN 4), some (dN at_), some (.tup ws), some dr, some od, none, none] (HG h a o G)) := by
  have ff : ∀ k : Nat, k ≤ 1000 → Fits k := fun k h => fits (by omega)
  obtain ⟨v, o4, t4, hv, B4⟩ := HG_take (h := h) (g := G ++ [.lst [.non, .tup [], .str (Str.ofString "self"), .int 0, .bl true, .tup [.str (Str.ofString "self"), .int 0]]]) hal hb (by omega) (s := 6) (by omega) (by omega)
  obtain ⟨d, R, xd⟩ := four_R hv
  replace t4 : c__law_take [.ref a, .int 6] _ = _ := t4
  have g4 : ∀ o, (HG h a o (G ++ [.lst [.non, .tup [], .str (Str.ofString "self"), .int 0, .bl true, .tup [.str (Str.ofString "self"), .int 0]]]))[h.length + G.length]? = some (.lst [.non, .tup [], .str (Str.ofString "self"), .int 0, .bl true, .tup [.str (Str.ofString "self"), .int 0]]) := fun o => by rw [HG_g]; simp
  have y2 : ∀ o, oIx (.ref (h.length + G.length)) (.int v) (HG h a o (G ++ [.lst [.non, .tup [], .str (Str.ofString "self"), .int 0, .bl true, .tup [.str (Str.ofString "self"), .int 0]]])) = .ok d (HG h a o (G ++ [.lst [.non, .tup [], .str (Str.ofString "self"), .int 0, .bl true, .tup [.str (Str.ofString "self"), .int 0]]])) := fun o => by rw [oIx_ref_, g4]; exact xd _
  refine ⟨d, o4, G ++ [.lst [.non, .tup [], .str (Str.ofString "self"), .int 0, .bl true, .tup [.str (Str.ofString "self"), .int 0]]], ?_, R, B4.mono (by omega)⟩
  simp [btail2, ff, HG_len, HG_app, t4, y2, dN, -oIx_ref_]
theorem bent_k5 : BG h a N (btail2 [some (.ref a), some (.tup ls), some (dN n), some (dN 5), some (dN at_), some (.tup ws), some dr, some od, none, none] (HG h a o G)) := by
  have ff : ∀ k : Nat, k ≤ 1000 → Fits k := fun k h => fits (by omega)
  have A1 := fun m h => oAdd_T (xs := ls.take at_) (ys := [m]) (by simp; omega) h
  have A3 := fun m h => oAdd_T (xs := ls.take at_ ++ [m]) (ys := ls.drop at_) (by simp; omega) h
  have LW : ∀ us : List D, us.length ≤ 10 → (∀ w ∈ us, W0 w) → Ln (.tup us) := fun us h1 h2 => .inr ⟨us, rfl, h1, h2⟩
  obtain ⟨v, o4, t4, hv, B4⟩ := HG_take (h := h) (g := G) hal hb (by omega) (s := n) (by omega) (by omega)
  obtain ⟨u, o5, t5, hu, B5⟩ := HG_take (h := h) (g := G ++ [.lst [.tup ws, .tup [.str (Str.ofString "self"), .int v]]]) hal B4 (by omega) (s := 2) (by omega) (by omega)
  replace t5 : c__law_take [.ref a, .int 2] _ = _ := t5
  have g4 : ∀ o, (HG h a o (G ++ [.lst [.tup ws, .tup [.str (Str.ofString "self"), .int v]]]))[h.length + G.length]? = some (.lst [.tup ws, .tup [.str (Str.ofString "self"), .int v]]) := fun o => by rw [HG_g]; simp
  have L1 : Ln (.tup ws) := LW ws (by omega) hw
  have L2 : Ln (.tup [.str (Str.ofString "self"), .int v]) := (Gl.two (k := v) B0_self).ln
  obtain ⟨m, hm, xm⟩ : ∃ m, Ln m ∧ ∀ h, ixD [.tup ws, .tup [.str (Str.ofString "self"), .int v]] (u : Int) h = .ok m h := by
    have : u = 0 ∨ u = 1 := by omega
    rcases this with rfl | rfl
    · exact ⟨_, L1, fun h => ixD_some rfl⟩
    · exact ⟨_, L2, fun h => ixD_some rfl⟩
  have y2 : ∀ o, oIx (.ref (h.length + G.length)) (.int u) (HG h a o (G ++ [.lst [.tup ws, .tup [.str (Str.ofString "self"), .int v]]])) = .ok m (HG h a o (G ++ [.lst [.tup ws, .tup [.str (Str.ofString "self"), .int v]]])) := fun o => by rw [oIx_ref_, g4]; exact xm _
  refine ⟨.tup (ls.take at_ ++ ([m] ++ ls.drop at_)), o5, G ++ [.lst [.tup ws, .tup [.str (Str.ofString "self"), .int v]]], ?_, Rs_mid hl hln hm _ _, B5.mono (by omega)⟩
  simp [btail2, ff, HG_len, HG_app, t4, t5, y2, A1, A3, cutTo, cutFrom1, cutD_from, dN, -oIx_ref_]
theorem bent_k6 {kd : Nat} (q : 6 ≤ kd) : BG h a N (btail2 [some (.ref a), some (.tup ls), some (dN n), some (dN kd), some (dN at_), some (.tup ws), some dr, some od, none, none] (HG h a o G)) := by
  have ff : ∀ k : Nat, k ≤ 1000 → Fits k := fun k h => fits (by omega)
  have A1 := fun m h => oAdd_T (xs := ls.take at_) (ys := [m]) (by simp; omega) h
  have A2 := fun m h => oAdd_T (xs := ls.take at_ ++ [m]) (ys := ls.drop (at_ + 1)) (by simp; omega) h
  have A5 := fun m p h => oAdd_T (xs := ws.take p) (ys := [m]) (by simp; omega) h
  have A6 := fun m p h => oAdd_T (xs := ws.take p ++ [m]) (ys := ws.drop (p + 1)) (by simp; omega) h
  have LW : ∀ us : List D, us.length ≤ 10 → (∀ w ∈ us, W0 w) → Ln (.tup us) := fun us h1 h2 => .inr ⟨us, rfl, h1, h2⟩
  have mid : ∀ (v : D), W0 v → ∀ p, Ln (.tup (ws.take p ++ ([v] ++ ws.drop (p + 1)))) := fun v hv p => LW _ (by simp; omega) fun w hw' => by
    simp only [List.mem_append, List.mem_singleton] at hw'
    rcases hw' with h | rfl | h
    · exact hw w (List.mem_of_mem_take h)
    · exact hv
    · exact hw w (List.mem_of_mem_drop h)
  obtain ⟨v, o4, t4, hv, B4⟩ := HG_take (h := h) (g := G) hal hb (by omega) (s := ws.length) (by omega) (by omega)
  have q0 : ¬ (kd : Int) = 0 := by omega
  have q1 : ¬ (kd : Int) = 1 := by omega
  have q2 : ¬ (kd : Int) = 2 := by omega
  have q3 : ¬ (kd : Int) = 3 := by omega
  have q4 : ¬ (kd : Int) = 4 := by omega
  have q5 : ¬ (kd : Int) = 5 := by omega
  refine ⟨.tup (ls.take at_ ++ ([.tup (ws.take v ++ ([od] ++ ws.drop (v + 1)))] ++ ls.drop (at_ + 1))), o4, G, ?_, Rs_mid hl hln (mid od hod v) _ _, B4.mono (by omega)⟩
  simp [btail2, ff, t4, q0, q1, q2, q3, q4, q5, show ¬ kd = 0 by omega, show ¬ kd = 1 by omega, show ¬ kd = 2 by omega, show ¬ kd = 3 by omega, show ¬ kd = 4 by omega, show ¬ kd = 5 by omega, A1, A2, A5, A6, cutTo, cutFrom1, dN]
end
theorem bent_spec {h : AH} {a N : Nat} {o : AO} (ha : h[a]? = some o) (hb : Bag N o) (hN : N + 40 ≤ 1000000000) {ls : List D} (hl0 : 0 < ls.length) (hl : ls.length ≤ 400) (hg : ∀ l ∈ ls, Gl l) {n : Nat} (h1 : 1 ≤ n) (hn : n ≤ 1000) :
    ∃ d o', c__law_bent [.ref a, .tup ls, dN n] h = .ok d (h.set a o') ∧ Rs d ∧ Bag (N + 10) o' := by
  have hal := (List.getElem?_eq_some_iff.mp ha).1
  have hln : ∀ l ∈ ls, Ln l := fun l hl => (hg l hl).ln
  obtain ⟨kd, at_, od, o3, G, e1, hk, hat, hod, B3⟩ := bent_pre ha hb (by omega) hl0 hl h1 hn
  obtain ⟨ws, el, w2, w3, hw⟩ := hg _ (getD_mem (d := .non) hat)
  rw [el] at e1
  obtain ⟨od2, o4, e2, hod2, B4⟩ := bent8 (n := n) (kd := kd) (el := .tup ws) (dr := .ref (h.length + 2)) (G := G) hal B3 (by omega) hl hat hod
  rw [e2] at e1
  have z : BG h a (N + 3 + 1) (btail2 [some (.ref a), some (.tup ls), some (dN n), some (dN kd), some (dN at_), some (.tup ws), some (.ref (h.length + 2)), some od2, none, none] (HG h a o4 G)) := by
    have hk9 : kd = 0 ∨ kd = 1 ∨ kd = 2 ∨ kd = 3 ∨ kd = 4 ∨ kd = 5 ∨ 6 ≤ kd := by omega
    rcases hk9 with rfl | rfl | rfl | rfl | rfl | rfl | q
    · exact bent_k0 hal B4 (by omega) hl hln hat hod2 w2 w3 hw h1 hn
    · exact bent_k1 hal B4 (by omega) hl hln hat hod2 w2 w3 hw h1 hn
    · exact bent_k2 hal B4 (by omega) hl hln hat hod2 w2 w3 hw h1 hn
    · exact bent_k3 hal B4 (by omega) hl hln hat hod2 w2 w3 hw h1 hn
    · exact bent_k4 hal B4 (by omega) hl hln hat hod2 w2 w3 hw h1 hn
    · exact bent_k5 hal B4 (by omega) hl hln hat hod2 w2 w3 hw h1 hn
    · exact bent_k6 hal B4 (by omega) hl hln hat hod2 w2 w3 hw h1 hn q
  obtain ⟨d, o', g, e3, R, B⟩ := z
  refine ⟨d, o', ?_, R, B.mono (by omega)⟩
  have e : c__law_bent [.ref a, .tup ls, dN n] h = gc h (.ok d (HG h a o' g)) := by
    unfold c__law_bent fsem
    rw [e3] at e1
    show gc h (outS (m__law_bent [some (.ref a), some (.tup ls), some (dN n), none, none, none, none, none, none, none] h)) = _
    rw [e1]; rfl
  rw [e]
  unfold HG
  rw [gc_set_app R.pure B.flat]
end Law

set_option maxHeartbeats 1000000
namespace Law
open PySem Rf L2
theorem bends_spec {n : Nat} {ps : List (List Nat)} {prs : List (Nat × Nat)} (I : Inp n ps prs) {h : AH} {a N : Nat} {o : AO} (ha : h[a]? = some o) (hb : Bag N o) (hN : N + 100 ≤ 1000000000) {ls : List D} (hl0 : 0 < ls.length) (hl : ls.length ≤ 400) (hg : ∀ l ∈ ls, Gl l) {x : Nat × Nat} (hx : endsOf n ps prs (.tup ls) = some x) :
    ∃ o', c__law_bends_hold [.ref a, .tup (ps.map dC), dN n, .tup (prs.map dP), .tup ls] h = .ok (.bl true) (h.set a o') ∧ Bag (N + 50) o' := by
  have hal := (List.getElem?_eq_some_iff.mp ha).1
  have n1 := I.n1
  have n2 := I.n2
  have hs : HG h a o [] = h := HG_self ha
  have R0 : Rs (.tup ls) := Rs_of (by omega) fun l hl => (hg l hl).ln
  have e1 := ends_spec I R0 (h := h)
  rw [hx] at e1
  obtain ⟨x1, x2⟩ := x
  obtain ⟨u, o1, t1, hu, B1⟩ := HG_take (h := h) (g := []) hal hb (by omega) (s := n) (by omega) (by omega)
  rw [hs] at t1
  obtain ⟨v, o2, t2, hv, B2⟩ := HG_take (h := h) (g := []) hal B1 (by omega) (s := n) (by omega) (by omega)
  have j1 := fun o d (R : Rs d) => joined_as_spec I R (h := HG h a o [.lst [.tup [.int x1, .int x2], .tup [.int x2, .int x1], .tup [.int u, .int v]]]) (r := h.length) (ts := [(x1, x2), (x2, x1), (u, v)]) HG_0
  have e : ∃ e' o' , sLoop (gVar 7) lb__law_bends_hold_1 ((List.range 4).map dN) [some (.ref a), some (.tup (ps.map dC)), some (dN n), some (.tup (prs.map dP)), some (.tup ls), some (.tup [.int x1, .int x2]), some (.ref h.length), none, none] (HG h a o2 [.lst [.tup [.int x1, .int x2], .tup [.int x2, .int x1], .tup [.int u, .int v]]]) =
      .nx e' (HG h a o' [.lst [.tup [.int x1, .int x2], .tup [.int x2, .int x1], .tup [.int u, .int v]]]) ∧ Bag (N + 2 + 10 * 4) o' := by
    obtain ⟨e', h', w, x7, x8, o', rfl, rfl, B⟩ := loopN (k := 7) (b := lb__law_bends_hold_1)
      (fun i e h' => ∃ x7 x8 o', e = [some (.ref a), some (.tup (ps.map dC)), some (dN n), some (.tup (prs.map dP)), some (.tup ls), some (.tup [.int x1, .int x2]), some (.ref h.length), x7, x8] ∧ h' = HG h a o' [.lst [.tup [.int x1, .int x2], .tup [.int x2, .int x1], .tup [.int u, .int v]]] ∧ Bag (N + 2 + 10 * i) o')
      4 (e := [some (.ref a), some (.tup (ps.map dC)), some (dN n), some (.tup (prs.map dP)), some (.tup ls), some (.tup [.int x1, .int x2]), some (.ref h.length), none, none]) (h := HG h a o2 [.lst [.tup [.int x1, .int x2], .tup [.int x2, .int x1], .tup [.int u, .int v]]])
      ⟨none, none, o2, rfl, rfl, B2⟩ (by
        rintro i e h' hi ⟨x7, x8, o', rfl, rfl, B⟩
        obtain ⟨d, o4, b1, R, B4⟩ := bent_spec (h := HG h a o' [.lst [.tup [.int x1, .int x2], .tup [.int x2, .int x1], .tup [.int u, .int v]]]) (HG_a hal) B (by omega) hl0 hl hg n1 (by omega)
        rw [HG_sa hal] at b1
        have j2 := j1 o4 d R
        simp only [dN] at b1 j2
        refine ⟨_, _, ?_, some (dN i), some d, o4, rfl, rfl, B4.mono (by omega)⟩
        simp [lb__law_bends_hold_1, b1, j2, dN])
    exact ⟨_, _, w, B⟩
  obtain ⟨e', o', w, B⟩ := e
  refine ⟨o', ?_, B.mono (by omega)⟩
  have rB : RgB (4 : Int) := rgB_nat (n := 4) (by omega)
  have r4 : rg 0 4 = (List.range 4).map dN := rg_zero 4
  have h3 : Fits 3 := fits (by decide)
  have j0 := j1 o2 _ R0
  have e : c__law_bends_hold [.ref a, .tup (ps.map dC), dN n, .tup (prs.map dP), .tup ls] h = gc h (.ok (.bl true) (HG h a o' [.lst [.tup [.int x1, .int x2], .tup [.int x2, .int x1], .tup [.int u, .int v]]])) := by
    unfold c__law_bends_hold fsem
    simp only [dN] at e1 j0 w t1 t2 r4
    simp only [optP, dP, dN] at e1
    simp [m__law_bends_hold, e1, D.isNon, t1, t2, HG_len, HG_app, j0, rB, r4, w, dN]
  rw [e]
  unfold HG
  rw [gc_set_app rfl B.flat]
/-- a quick look: a value that a reason may be -/
def okB : D → Bool
  | .non => true
  | .bl _ => true
  | .int _ => true
  | .str x => x == sSelf || x == sTold || x == sSwap || x == sMoved || x == sThru || x == Str.ofString "Self"
  | _ => false
def okL : D → Bool
  | .tup ws => decide (ws.length ≤ 10) && ws.all okB
  | d => okB d
def okR : D → Bool
  | .tup ls => decide (ls.length ≤ 10) && ls.all okL
  | d => okB d
theorem ok_Self : PyData.strOk (Str.ofString "Self") = true := by decide +kernel
theorem okB_B {d : D} (h : okB d = true) : B0 d := by
  cases d with
  | str x =>
    simp only [okB, Bool.or_eq_true, beq_iff_eq] at h
    rcases h with ((((rfl | rfl) | rfl) | rfl) | rfl) | rfl
    · exact ok_self
    · exact ok_told
    · exact ok_swap
    · exact ok_moved
    · exact ok_thru
    · exact ok_Self
  | non => trivial
  | bl b => trivial
  | int i => trivial
  | _ => exact absurd h (by simp [okB])
theorem okL_L {d : D} (h : okL d = true) : Ln d := by
  cases d with
  | tup ws =>
    simp only [okL, Bool.and_eq_true, decide_eq_true_eq, List.all_eq_true] at h
    exact .inr ⟨ws, rfl, h.1, fun w hw => .inl (okB_B (h.2 w hw))⟩
  | _ => exact .inl (okB_B h)
theorem okR_R {d : D} (h : okR d = true) : Rs d := by
  cases d with
  | tup ws =>
    simp only [okR, Bool.and_eq_true, decide_eq_true_eq, List.all_eq_true] at h
    exact .inr ⟨ws, rfl, by omega, fun w hw => okL_L (h.2 w hw)⟩
  | _ => exact .inl (okB_B h)
theorem addR {e : AE} {H : AH} {r : Nat} {L ds : List D} {m : LM} (he : e[7]? = some (some (.ref r))) (hr : H[r]? = some (.lst L)) (hm : m e H = .ok ds H) (h1 : ds.length ≤ 10) (h2 : L.length ≤ 1000) :
    sSet 7 (eOp oAdd (eVar 7) (eLst m)) e H = .nx (e.set 7 (some (.ref (H.length + 1)))) (H ++ [.lst ds, .lst (L ++ ds)]) := by
  have h3 : r < H.length := (List.getElem?_eq_some_iff.mp hr).1
  have := oAdd_ref (h := H ++ [.lst ds]) (r := r) (q := H.length) (xs := L) (ys := ds) (app_get_l hr) (by simp) (by omega)
  simp [he, hm, fits (show ds.length ≤ 16777216 by omega), this]
theorem lone_loop {n : Nat} {ps : List (List Nat)} {prs : List (Nat × Nat)} (I : Inp n ps prs) {H : AH} {r i j : Nat} {L : List D} (hr : H[r]? = some (.lst L)) (hL : ∀ d ∈ L, Rs d) {x0 x6 x8 : Option D} :
    ∃ e' z, liveL r L (gVar 8) lb__law_lone_hold_1 [x0, some (.tup (ps.map dC)), some (dN n), some (.tup (prs.map dP)), some (dN i), some (dN j), x6, some (.ref r), x8] H = .nx e' (H ++ z) := by
  have h3 : r < H.length := (List.getElem?_eq_some_iff.mp hr).1
  obtain ⟨e', h', w, x8, z, rfl, rfl⟩ := liveL_inv (g := gVar 8) (b := lb__law_lone_hold_1) (r := r) (ds := L)
    (fun k e h' => ∃ x8 z, e = [x0, some (.tup (ps.map dC)), some (dN n), some (.tup (prs.map dP)), some (dN i), some (dN j), x6, some (.ref r), x8] ∧ h' = H ++ z)
    (e := [x0, some (.tup (ps.map dC)), some (dN n), some (.tup (prs.map dP)), some (dN i), some (dN j), x6, some (.ref r), x8]) (h := H)
    (by rintro k e h' ⟨x8, z, rfl, rfl⟩; exact app_get_l hr) ⟨x8, [], rfl, by simp⟩ (by
      rintro k d e h' hd ⟨x8, z, rfl, rfl⟩
      have R := hL d (List.mem_of_getElem? hd)
      have j1 := joined_as_spec I R (h := H ++ (z ++ [.lst [.tup [.int i, .int j], .tup [.int i, .int i], .tup [.int j, .int j]]])) (r := H.length + z.length) (ts := [(i, j), (i, i), (j, j)]) (by rw [← List.append_assoc]; simp [dP, dN])
      have h3 : Fits 3 := fits (by decide)
      refine ⟨_, _, ?_, some d, z ++ [.lst [.tup [.int i, .int j], .tup [.int i, .int i], .tup [.int j, .int j]]], rfl, rfl⟩
      simp only [dN] at j1
      simp [lb__law_lone_hold_1, dN, j1])
  exact ⟨_, z, w⟩
theorem stepF {h : AH} {a : Nat} {s t : SM} {e e1 : AE} {H H1 : AH} {P : AO → Prop} (q : s e H = .nx e1 H1) (r : ∃ o g, t e1 H1 = .rt (.bl true) (HG h a o g) ∧ P o) : ∃ o g, sSeq s t e H = .rt (.bl true) (HG h a o g) ∧ P o := by
  obtain ⟨o, g, r, p⟩ := r
  exact ⟨o, g, by rw [sSeq_, q]; exact r, p⟩
theorem lone_spec {n : Nat} {ps : List (List Nat)} {prs : List (Nat × Nat)} (I : Inp n ps prs) {h : AH} {a N : Nat} {o : AO} (ha : h[a]? = some o) (hb : Bag N o) (hN : N + 10 ≤ 1000000000) :
    ∃ o', c__law_lone_hold [.ref a, .tup (ps.map dC), dN n, .tup (prs.map dP)] h = .ok (.bl true) (h.set a o') ∧ Bag (N + 10) o' := by
  have hal := (List.getElem?_eq_some_iff.mp ha).1
  have n1 := I.n1
  have n2 := I.n2
  have hs : HG h a o [] = h := HG_self ha
  obtain ⟨i, o1, t1, hi, B1⟩ := HG_take (h := h) (g := []) hal hb (by omega) (s := n) (by omega) (by omega)
  rw [hs] at t1
  obtain ⟨s, hs1, hs2⟩ : ∃ s : Nat, (∀ h, cMax2 [.int 1, .int ((n : Int) - 1)] h = .ok (.int s) h) ∧ 1 ≤ s ∧ s ≤ 100 := by
    by_cases q : 2 < n
    · exact ⟨n - 1, fun h => by rw [cMax2_int, if_pos (by omega)]; congr 2; omega, by omega, by omega⟩
    · exact ⟨1, fun h => by rw [cMax2_int, if_neg (by omega)]; rfl, by omega, by omega⟩
  obtain ⟨v, o2, t2, hv, B2⟩ := HG_take (h := h) (g := []) hal B1 (by omega) (s := s) (by omega) (by omega)
  have ff : ∀ k : Nat, k ≤ 1000 → Fits k := fun k h => fits (by omega)
  suffices z : ∃ o' g, m__law_lone_hold [some (.ref a), some (.tup (ps.map dC)), some (dN n), some (.tup (prs.map dP)), none, none, none, none, none] h = .rt (.bl true) (HG h a o' g) ∧ Bag (N + 10) o' by
    obtain ⟨o', g, e, B⟩ := z
    have e2 : c__law_lone_hold [.ref a, .tup (ps.map dC), dN n, .tup (prs.map dP)] h = gc h (.ok (.bl true) (HG h a o' g)) := by
      unfold c__law_lone_hold fsem
      simp [e]
    refine ⟨o', ?_, B⟩
    rw [e2]
    unfold HG
    rw [gc_set_app rfl B.flat]
  unfold m__law_lone_hold
  simp only [dN] at t1 t2 ⊢
  refine stepF (by simp [t1]; exact ⟨rfl, rfl⟩) ?_
  have hm : 0 < (n : Int) := by omega
  have jj : (((i + 1 + v) % n : Nat) : Int) = ((i : Int) + 1 + (v : Int)) % (n : Int) := by simp
  refine stepF (e1 := [some (.ref a), some (.tup (ps.map dC)), some (.int n), some (.tup (prs.map dP)), some (.int i), some (.int ((i + 1 + v) % n : Nat)), none, none, none]) (H1 := HG h a o2 []) (by rw [jj]; simp [hs1, t2, oMod_, show 0 < n by omega]) ?_
  generalize (i + 1 + v) % n = j
  refine stepF (by simp; exact ⟨rfl, rfl⟩) ?_
  refine stepF (by simp [ff]; exact ⟨rfl, rfl⟩) ?_
  rw [HG_len, HG_app]
  have go : ∀ {s t : SM} {m : LM} {g : AH} {r : Nat} {L ds : List D}, s = sSet 7 (eOp oAdd (eVar 7) (eLst m)) → (HG h a o2 g)[r]? = some (.lst L) → (∀ d ∈ L, Rs d) → L.length ≤ 100 →
      m [some (.ref a), some (.tup (ps.map dC)), some (.int n), some (.tup (prs.map dP)), some (.int i), some (.int j), some (.tup [.str (Str.ofString "self"), .int i]), some (.ref r), none] (HG h a o2 g) = .ok ds (HG h a o2 g) → ds.all okR = true → ds.length ≤ 10 →
      (∀ (g2 : AH) (r2 : Nat) (L2 : List D), (HG h a o2 g2)[r2]? = some (.lst L2) → (∀ d ∈ L2, Rs d) → L2.length ≤ L.length + 10 → ∃ o' g', t [some (.ref a), some (.tup (ps.map dC)), some (.int n), some (.tup (prs.map dP)), some (.int i), some (.int j), some (.tup [.str (Str.ofString "self"), .int i]), some (.ref r2), none] (HG h a o2 g2) = .rt (.bl true) (HG h a o' g') ∧ Bag (N + 10) o') →
      ∃ o' g', sSeq s t [some (.ref a), some (.tup (ps.map dC)), some (.int n), some (.tup (prs.map dP)), some (.int i), some (.int j), some (.tup [.str (Str.ofString "self"), .int i]), some (.ref r), none] (HG h a o2 g) = .rt (.bl true) (HG h a o' g') ∧ Bag (N + 10) o' := by
    intro s t m g r L ds es hr hL hl hm hd hd2 k
    subst es
    refine stepF (addR rfl hr hm hd2 (by omega)) ?_
    have := k (g ++ [.lst ds, .lst (L ++ ds)]) ((HG h a o2 g).length + 1) (L ++ ds) (by rw [← HG_app]; simp) (fun d hd' => by
      rcases List.mem_append.mp hd' with q | q
      · exact hL d q
      · exact okR_R (List.all_eq_true.mp hd d q)) (by simp; omega)
    rw [← HG_app] at this
    exact this
  refine go (L := [.tup [.tup [.str (Str.ofString "self"), .int i]], .tup [.str (Str.ofString "self"), .int i], .tup [.tup [.str (Str.ofString "self"), .int n]], .tup [.tup [.str (Str.ofString "self"), .int (-1)]], .tup [.tup [.str (Str.ofString "self"), .int i, .int j]], .tup [.tup [.str (Str.ofString "swap"), .int 0]]]) rfl (HG_g (i := 0)) (fun d hd => okR_R (List.all_eq_true.mp (by rfl : List.all _ okR = true) d hd)) (by simp) (by simp [ff]; rfl) (by rfl) (by simp) ?_
  intro g1 r1 L1 hr1 hL1 hl1
  simp only [List.length_cons, List.length_nil] at hl1
  refine go rfl hr1 hL1 (by omega) (by simp [ff]; rfl) (by rfl) (by simp) ?_
  intro g2 r2 L2 hr2 hL2 hl2
  refine go rfl hr2 hL2 (by omega) (by simp [ff]; rfl) (by rfl) (by simp) ?_
  intro g3 r3 L3 hr3 hL3 hl3
  refine go rfl hr3 hL3 (by omega) (by simp [ff]; rfl) (by rfl) (by simp) ?_
  intro g4 r4 L4 hr4 hL4 hl4
  refine go rfl hr4 hL4 (by omega) (by simp [ff]; rfl) (by rfl) (by simp) ?_
  intro g5 r5 L5 hr5 hL5 hl5
  refine go rfl hr5 hL5 (by omega) (by simp [ff]; rfl) (by rfl) (by simp) ?_
  intro g6 r6 L6 hr6 hL6 hl6
  refine go rfl hr6 hL6 (by omega) (by simp [ff]; rfl) (by rfl) (by simp) ?_
  intro g7 r7 L7 hr7 hL7 hl7
  obtain ⟨e', z, w⟩ := lone_loop I (H := HG h a o2 g7) (r := r7) (i := i) (j := j) hr7 hL7 (x0 := some (.ref a)) (x6 := some (.tup [.str (Str.ofString "self"), .int i])) (x8 := none)
  simp only [dN] at w
  refine ⟨o2, g7 ++ z, ?_, B2.mono (by omega)⟩
  rw [HG_app] at w
  simp [hr7, w]
end Law

set_option maxHeartbeats 1000000
/-! the two questions at a pair; the pairs asked -/
namespace Law
open PySem Rf L2
theorem B0_N (k : Nat) : B0 (dN k) := trivial
theorem Vd_N {L : List Nat} (h : L.length ≤ 1000) : Vd (.tup (L.map dN)) := .inr ⟨_, rfl, by simpa using h, fun v hv => by
  obtain ⟨x, _, rfl⟩ := List.mem_map.mp hv
  exact .inl trivial⟩
theorem pt_least {n : Nat} {ps : List (List Nat)} {prs : List (Nat × Nat)} {L : List Nat} (A : Least n ps prs L) {i j : Nat} : PT n ps prs i j (.tup (L.map dN)) ↔ L.getD i 0 ≠ L.getD j 0 :=
  ⟨fun ⟨M, e, l, C, G, ne⟩ => by cases dN_inj e; exact ne, fun ne => ⟨L, rfl, A.len, A.can, A.good, ne⟩⟩
theorem two_spec {n : Nat} {ps : List (List Nat)} {prs : List (Nat × Nat)} (I : Inp n ps prs) {L : List Nat} (A : Least n ps prs L) {i j : Nat} (hi : i < n) (hj : j < n) {h : AH} :
    c__law_two_hold [.tup (ps.map dC), dN n, .tup (prs.map dP), dN i, dN j, .tup (L.map dN)] h = .ok (.bl true) h := by
  have n2 := I.n2
  have lL := A.len
  obtain ⟨b, e2, q2⟩ := parted_spec I (Vd_N (L := L) (by omega)) hi hj (h := h)
  rw [pt_least A] at q2
  have xi : ∀ h, ixD (L.map dN) (i : Int) h = .ok (dN (L.getD i 0)) h := fun h => ixD_N (by omega)
  have xj : ∀ h, ixD (L.map dN) (j : Int) h = .ok (dN (L.getD j 0)) h := fun h => ixD_N (by omega)
  simp only [dN] at xi xj e2
  suffices e : c__law_two_hold [.tup (ps.map dC), dN n, .tup (prs.map dP), dN i, dN j, .tup (L.map dN)] h = gc h (.ok (.bl true) h) by rw [e, gc_same rfl]
  unfold c__law_two_hold fsem
  rcases reason_spec I A hi hj (h := h) with ⟨ne, e1⟩ | ⟨eq, ls, e1, gl, l0, l1, en⟩
  · have e3 := joined_spec (h := h) I (d := .non) (.inl trivial) i j
    rw [show endsOf n ps prs .non = none from rfl] at e3
    have hb : b = true := q2.mpr ne
    subst hb
    have c' : ¬ ((L.getD i 0 : Nat) : Int) = ((L.getD j 0 : Nat) : Int) := by omega
    simp only [dN] at e1 e3
    simp at e3
    simp [m__law_two_hold, dN, e1, e2, e3, xi, xj, ne, c', truth_spec, D.isNon, -List.getD_eq_getElem?_getD]
  · have R0 : Rs (.tup ls) := Rs_of (by omega) fun l hl => (gl l hl).ln
    have e3 := joined_spec (h := h) I R0 i j
    have e4 := ends_spec (h := h) I R0
    rw [en] at e3 e4
    have hb : b = false := by
      cases b with
      | false => rfl
      | true => exact absurd eq (q2.mp rfl)
    subst hb
    have e5 := oNe_P (i, j) (i, j) h
    simp only [dN, optP, dP] at e1 e3 e4 e5
    simp at e3 e5
    simp [m__law_two_hold, dN, e1, e2, e3, e4, e5, xi, xj, eq, truth_spec, -List.getD_eq_getElem?_getD]
theorem asked_spec {n : Nat} (h1 : 1 ≤ n) (hn : n ≤ 100) {h : AH} {a N : Nat} {o : AO} (ha : h[a]? = some o) (hb : Bag N o) (hN : N + 50 ≤ 1000000000) :
    ∃ (ts : List (Nat × Nat)) (o' : AO), c__law_asked [.ref a, dN n] h = .ok (.ref h.length) (h.set a o' ++ [.lst (ts.map dP)]) ∧ (∀ x ∈ ts, x.1 < n ∧ x.2 < n) ∧ Bag (N + 50) o' := by
  have hal := (List.getElem?_eq_some_iff.mp ha).1
  have hs : HG h a o [] = h := HG_self ha
  have h0 : h ++ [AO.lst []] = HG h a o [.lst []] := by rw [← hs, HG_app, hs]; rfl
  suffices z : ∃ (ts : List (Nat × Nat)) (o' : AO), m__law_asked [some (.ref a), some (dN n), none, none, none, none] h = .rt (.ref h.length) (HG h a o' [.lst (ts.map dP)]) ∧ (∀ x ∈ ts, x.1 < n ∧ x.2 < n) ∧ Bag (N + 50) o' by
    obtain ⟨ts, o', e, t, B⟩ := z
    refine ⟨ts, o', ?_, t, B⟩
    have e2 : c__law_asked [.ref a, dN n] h = gc h (.ok (.ref (h.length + 0)) (HG h a o' [.lst (ts.map dP)])) := by
      unfold c__law_asked fsem
      show gc h (outS (m__law_asked [some (.ref a), some (dN n), none, none, none, none] h)) = _
      rw [e]; rfl
    rw [e2]
    unfold HG
    rw [gc_set_new B.flat (i := 0) rfl (by simp; exact pures_iff.mpr fun d hd => by obtain ⟨x, _, rfl⟩ := List.mem_map.mp hd; rfl)]
  by_cases c : 5 < n
  · obtain ⟨e', h', w, x3, ts, o', rfl, rfl, t, l, B⟩ := loopN (k := 3) (b := lb__law_asked_1)
      (fun i e h' => ∃ x3 ts o', e = [some (.ref a), some (dN n), some (.ref h.length), x3, none, none] ∧ h' = HG h a o' [.lst (ts.map dP)] ∧ (∀ x ∈ ts, x.1 < n ∧ x.2 < n) ∧ ts.length = i ∧ Bag (N + 2 * i) o')
      10 (e := [some (.ref a), some (dN n), some (.ref h.length), none, none, none]) (h := HG h a o [.lst []]) ⟨none, [], o, rfl, rfl, fun x hx => absurd hx (by simp), rfl, hb⟩ (by
        rintro i e h' hi ⟨x3, ts, o', rfl, rfl, t, l, B⟩
        obtain ⟨u, o1, t1, hu, B1⟩ := HG_take (h := h) (g := [.lst (ts.map dP)]) hal B (by omega) (s := n) (by omega) (by omega)
        obtain ⟨v, o2, t2, hv, B2⟩ := HG_take (h := h) (g := [.lst (ts.map dP)]) hal B1 (by omega) (s := n) (by omega) (by omega)
        have ap : ∀ r v h, appO (some (.lst (ts.map dP))) r v h = .ok .non (h.set r (.lst (ts.map dP ++ [v]))) := fun r v h => appO_lst (by rw [List.length_map, sizeLine_eq]; omega)
        have sg : ∀ v, (HG h a o2 [.lst (ts.map dP)]).set h.length (.lst v) = HG h a o2 [.lst v] := fun v => HG_sg (i := 0) _
        have g0 : ∀ o, (HG h a o [.lst (ts.map dP)])[h.length]? = some (.lst (ts.map dP)) := fun o => HG_0
        refine ⟨_, _, ?_, some (dN i), ts ++ [(u, v)], o2, rfl, rfl, fun x hx => ?_, by simp [l], B2.mono (by omega)⟩
        · simp [lb__law_asked_1, dN, t1, t2, g0, ap, sg, dP]
        · rcases List.mem_append.mp hx with hx | hx
          · exact t x hx
          · rw [List.mem_singleton.mp hx]; exact ⟨hu, hv⟩)
    refine ⟨ts, o', ?_, t, B.mono (by omega)⟩
    have r1 : RgB (10 : Int) := rgB_nat (n := 10) (by omega)
    have r2 : rg 0 10 = (List.range 10).map dN := rg_zero 10
    simp only [dN] at w
    have c' : (5 : Int) < n := by omega
    simp [m__law_asked, dN, h0, c, c', r1, r2]
    simp [w]
  · obtain ⟨e', h', w, x4, x5, ts, rfl, rfl, t, l⟩ := loopN (k := 4) (b := lb__law_asked_2)
      (fun i e h' => ∃ x4 x5 ts, e = [some (.ref a), some (dN n), some (.ref h.length), none, x4, x5] ∧ h' = HG h a o [.lst (ts.map dP)] ∧ (∀ x ∈ ts, x.1 < n ∧ x.2 < n) ∧ ts.length = i * n)
      n (e := [some (.ref a), some (dN n), some (.ref h.length), none, none, none]) (h := HG h a o [.lst []]) ⟨none, none, [], rfl, rfl, fun x hx => absurd hx (by simp), by simp⟩ (by
        rintro i e h' hi ⟨x4, x5, ts, rfl, rfl, t, l⟩
        obtain ⟨e', h', w, x5, ts', rfl, rfl, t', l'⟩ := loopN (k := 5) (b := lb__law_asked_3)
          (fun j e h' => ∃ x5 ts', e = [some (.ref a), some (dN n), some (.ref h.length), none, some (dN i), x5] ∧ h' = HG h a o [.lst (ts'.map dP)] ∧ (∀ x ∈ ts', x.1 < n ∧ x.2 < n) ∧ ts'.length = i * n + j)
          n (e := [some (.ref a), some (dN n), some (.ref h.length), none, some (dN i), x5]) (h := HG h a o [.lst (ts.map dP)]) ⟨x5, ts, rfl, rfl, t, by omega⟩ (by
            rintro j e h' hj ⟨x5, ts', rfl, rfl, t', l'⟩
            have inn : i * n ≤ 100 * 100 := Nat.mul_le_mul (by omega) (by omega)
            have ap : ∀ r v h, appO (some (.lst (ts'.map dP))) r v h = .ok .non (h.set r (.lst (ts'.map dP ++ [v]))) := fun r v h => appO_lst (by rw [List.length_map, sizeLine_eq]; omega)
            have sg : ∀ v, (HG h a o [.lst (ts'.map dP)]).set h.length (.lst v) = HG h a o [.lst v] := fun v => HG_sg (i := 0) _
            have g0 : ∀ o, (HG h a o [.lst (ts'.map dP)])[h.length]? = some (.lst (ts'.map dP)) := fun o => HG_0
            refine ⟨_, _, ?_, some (dN j), ts' ++ [(i, j)], rfl, rfl, fun x hx => ?_, by simp; omega⟩
            · simp [lb__law_asked_3, dN, g0, ap, sg, dP]
            · rcases List.mem_append.mp hx with hx | hx
              · exact t' x hx
              · rw [List.mem_singleton.mp hx]; exact ⟨hi, hj⟩)
        have r1 : RgB (n : Int) := rgB_nat (by omega)
        refine ⟨_, _, ?_, some (dN i), x5, ts', rfl, rfl, t', by rw [l', Nat.add_mul, Nat.one_mul]⟩
        simp only [dN] at w
        simp [lb__law_asked_2, dN, r1, rg_zero]
        simp [w])
    refine ⟨ts, o, ?_, t, hb.mono (by omega)⟩
    have r1 : RgB (n : Int) := rgB_nat (by omega)
    simp only [dN] at w
    have c' : ¬ (5 : Int) < n := by omega
    simp [m__law_asked, dN, h0, c, c', r1, rg_zero]
    simp [w]
end Law

set_option maxHeartbeats 1000000
/-! odd labels asked -/
namespace Law
open PySem Rf L2
noncomputable def ph1 : SM := (sSet 6 (eCall (argn 2 c__law_take) (lCons (eVar 0) (lCons (eVar 2) lNil))))
noncomputable def ph2 : SM := (sSet 7 lc__law_parts_hold_1)
noncomputable def ph3 : SM := (sSet 9 (eCall (argn 2 c__law_take) (lCons (eVar 0) (lCons (eVar 2) lNil))))
noncomputable def ph4 : SM := (sIf (eOp oGt (eCall cLen (lCons (eVar 7) lNil)) (eC (.int 0)))
    (sSet 9 (eOp oIx (eVar 7) (eCall (argn 2 c__law_take) (lCons (eVar 0) (lCons (eCall cLen (lCons (eVar 7) lNil)) lNil)))))
    sPass)
noncomputable def ph5 : SM := (sSet 10 (eLst (lCons (eVar 4) (lCons (eVar 5) (lCons (eRg1 true (eVar 2)) (lCons (eOp oMulT (eTup (lCons (eC (.int 0)) lNil)) (eVar 2)) (lCons (eOp oAdd (eVar 4) (eTup (lCons (eC (.int 0)) lNil))) (lCons (eSl (eVar 4) none (some (eOp oSub (eVar 2) (eC (.int 1))))) lNil))))))))
noncomputable def ph6 : SM := (sSet 10 (eOp oAdd (eVar 10) (eLst (lCons (eC .non) (lCons (eTup lNil) (lCons (eC (.str (Str.ofString ""))) (lCons (eC (.int 0)) (lCons (eTup (lCons (eVar 4) lNil)) (lCons (eCall (argn 3 c__law_closure) (lCons (eTup lNil) (lCons (eVar 2) (lCons (eVar 3) lNil)))) lNil)))))))))
noncomputable def ph7 : SM := (sSet 11 (eOp oMul (eLst (lCons (eC (.int 0)) lNil)) (eVar 2)))
noncomputable def ph8 : SM := (sFor (iRange1 (lCons (eVar 2) lNil)) (gVar 12) lb__law_parts_hold_1)
noncomputable def ph9 : SM := (sExpr (eMeth "list" mAppend (eVar 10) (lCons (eCall cTuple (lCons (eVar 11) lNil)) lNil)))
noncomputable def ph10 : SM := (sFor (iRange1 (lCons (eC (.int 2)) lNil)) (gVar 13) lb__law_parts_hold_2)
noncomputable def ph11 : SM := (sFor (iRange1 (lCons (eC (.int 3)) lNil)) (gVar 13) lb__law_parts_hold_3)
noncomputable def ph12 : SM := (sFor (iVal (eVar 10)) (gVar 17) lb__law_parts_hold_4)
noncomputable def ph13 : SM := (sRet (eC (.bl true)))
theorem ph_split : m__law_parts_hold = (sSeq ph1 (sSeq ph2 (sSeq ph3 (sSeq ph4 (sSeq ph5 (sSeq ph6 (sSeq ph7 (sSeq ph8 (sSeq ph9 (sSeq ph10 (sSeq ph11 (sSeq ph12 ph13)))))))))))) := rfl

theorem Vd_of {vs : List D} (hl : vs.length ≤ 1000) (h : ∀ v ∈ vs, V0 v) : Vd (.tup vs) := .inr ⟨vs, rfl, hl, h⟩
theorem V0_N {L : List Nat} : ∀ v ∈ L.map dN, V0 v := fun v hv => by
  obtain ⟨x, _, rfl⟩ := List.mem_map.mp hv
  exact .inl trivial
theorem V0_W {d : D} (w : W0 d) : V0 d := by
  rcases w with w | ⟨i, rfl⟩
  · exact .inl w
  · exact .inr ⟨_, rfl, rfl⟩
theorem app_mem {V : List D} {v : D} (h : ∀ x ∈ V, Vd x) (hv : Vd v) : ∀ x ∈ V ++ [v], Vd x := fun x hx => by
  rcases List.mem_append.mp hx with q | q
  · exact h x q
  · rw [List.mem_singleton.mp q]; exact hv
theorem mulT {n : Nat} (h1 : 1 ≤ n) (hn : n ≤ 100) (h : AH) : oMulT (.tup [.int 0]) (.int n) h = .ok (.tup ((List.replicate n 0).map dN)) h := by
  unfold oMulT
  by_cases q : n = 1
  · subst q; rfl
  · dsimp only
    rw [if_neg (by omega), if_pos ⟨by simp, by omega, by omega, by simp⟩]
    rw [show (n : Int).toNat = n by omega, rep_zero]
theorem ph_1 {n : Nat} {ps : List (List Nat)} {prs : List (Nat × Nat)} (I : Inp n ps prs) (hr : prs.length ≤ 100) {L O : List Nat} (hL : L.length = n) (hO : O.length = n) {h : AH} {a N : Nat} {o : AO} (hal : a < h.length) (hb : Bag N o) (hN : N + 200 ≤ 1000000000) (h1 : 1 ≤ n) (hn : n ≤ 100) : ∃ (i j : Nat) (F : List Nat) (o' : AO), i < n ∧ j < n ∧ Bag (N + 3) o' ∧
    ∀ (t : SM) (r : SR), t [some (.ref a), some (.tup (ps.map dC)), some (.int n), some (.tup (prs.map dP)), some (.tup (L.map dN)), some (.tup (O.map dN)), some (.int i), some (.ref h.length), none, some (.int j), none, none, none, none, none, none, none, none, none] (HG h a o' [.lst (F.map dN)]) = r → sSeq ph1 (sSeq ph2 (sSeq ph3 (sSeq ph4 t))) [some (.ref a), some (.tup (ps.map dC)), some (.int n), some (.tup (prs.map dP)), some (.tup (L.map dN)), some (.tup (O.map dN)), none, none, none, none, none, none, none, none, none, none, none, none, none] (HG h a o []) = r := by
  obtain ⟨i, o1, t1, hi, B1⟩ := HG_take (h := h) (g := []) hal hb (by omega) (s := n) (by omega) (by omega)
  have xl : ∀ x h, x < n → ixD (L.map dN) (x : Int) h = .ok (dN (L.getD x 0)) h := fun x h hx => ixD_N (by omega)
  have l0 : lc__law_parts_hold_1 [some (.ref a), some (.tup (ps.map dC)), some (.int n), some (.tup (prs.map dP)), some (.tup (L.map dN)), some (.tup (O.map dN)), some (.int i), none, none, none, none, none, none, none, none, none, none, none, none] (HG h a o1 []) = .ok (.ref h.length) (HG h a o1 [.lst (((List.range n).filter fun x => !(L.getD x 0 == L.getD i 0)).map dN)]) := by
    unfold lc__law_parts_hold_1
    rw [eLc_pure (φ := dN) (List.range n) (fun x => !(L.getD x 0 == L.getD i 0)) dN (h1 := HG h a o1 []) (iRange1_nat (by simp) (by omega)) (by rw [List.length_range, sizeLine_eq]; omega)]
    · rw [HG_len, HG_app]; rfl
    · intro k hk
      rw [List.mem_range] at hk
      have x1 := fun h => xl k h hk
      have x2 := fun h => xl i h hi
      simp only [dN] at x1 x2
      simp [wipeE, x1, x2, dN, -List.getD_eq_getElem?_getD]
    · intro k hk _
      simp [wipeE]
  have hF : ∀ x ∈ (List.range n).filter (fun x => !(L.getD x 0 == L.getD i 0)), x < n := fun x hx => List.mem_range.mp (List.mem_filter.mp hx).1
  have hFl : ((List.range n).filter fun x => !(L.getD x 0 == L.getD i 0)).length ≤ n := Nat.le_trans (List.length_filter_le _ _) (by simp)
  generalize ((List.range n).filter fun x => !(L.getD x 0 == L.getD i 0)) = F at l0 hF hFl
  obtain ⟨j, o2, t2, hj, B2⟩ := HG_take (h := h) (g := [.lst (F.map dN)]) hal B1 (by omega) (s := n) (by omega) (by omega)
  have g0 : ∀ o, (HG h a o [.lst (F.map dN)])[h.length]? = some (.lst (F.map dN)) := fun o => HG_0
  by_cases c : 0 < F.length
  · obtain ⟨u, o3, t3, hu, B3⟩ := HG_take (h := h) (g := [.lst (F.map dN)]) hal B2 (by omega) (s := F.length) c (by omega)
    have x3 : ∀ h, ixD (F.map dN) (u : Int) h = .ok (dN (F.getD u 0)) h := fun h => ixD_N hu
    refine ⟨i, F.getD u 0, F, o3, hi, hF _ (getD_mem hu), B3, fun t r hr => ?_⟩
    simp only [dN] at x3
    simp [ph1, ph2, ph3, ph4, t1, l0, t2, c, g0, t3, x3, -List.getD_eq_getElem?_getD]
    exact hr
  · refine ⟨i, j, F, o2, hi, hj, B2.mono (by omega), fun t r hr => ?_⟩
    simp [ph1, ph2, ph3, ph4, t1, l0, t2, c, g0]
    exact hr
theorem ph_5 {n : Nat} {ps : List (List Nat)} {prs : List (Nat × Nat)} (I : Inp n ps prs) (hr : prs.length ≤ 100) {L O : List Nat} (hL : L.length = n) (hO : O.length = n) {h : AH} {a N : Nat} {o : AO} (hal : a < h.length) (hb : Bag N o) (hN : N + 200 ≤ 1000000000) (h1 : 1 ≤ n) (hn : n ≤ 100) {i j : Nat} {F : List Nat} : ∃ (V : List D) (g : AH), (∀ v ∈ V, Vd v) ∧ V.length ≤ 12 ∧ g[3]? = some (.lst V) ∧ g.length = 5 ∧
    ∀ (t : SM) (r : SR), t [some (.ref a), some (.tup (ps.map dC)), some (.int n), some (.tup (prs.map dP)), some (.tup (L.map dN)), some (.tup (O.map dN)), some (.int i), some (.ref h.length), none, some (.int j), some (.ref (h.length + 3)), some (.ref (h.length + 5)), none, none, none, none, none, none, none] (HG h a o (g ++ [.lst ((List.replicate n 0).map dN)])) = r → sSeq ph5 (sSeq ph6 (sSeq ph7 t)) [some (.ref a), some (.tup (ps.map dC)), some (.int n), some (.tup (prs.map dP)), some (.tup (L.map dN)), some (.tup (O.map dN)), some (.int i), some (.ref h.length), none, some (.int j), none, none, none, none, none, none, none, none, none] (HG h a o [.lst (F.map dN)]) = r := by
  obtain ⟨M, e1, A⟩ := closure_spec (n := n) (ps := []) (prs := prs) ⟨I.n1, I.n2, fun p hp => absurd hp (by simp), I.pr, by simp, I.rl⟩ (h := HG h a o [.lst (F.map dN), .lst [.tup (L.map dN), .tup (O.map dN), .tup ((List.range n).map dN), .tup ((List.replicate n 0).map dN), .tup (L.map dN ++ [.int 0]), .tup ((L.map dN).take (n - 1))]])
  have lM := A.len
  refine ⟨[.tup (L.map dN), .tup (O.map dN), .tup ((List.range n).map dN), .tup ((List.replicate n 0).map dN), .tup (L.map dN ++ [.int 0]), .tup ((L.map dN).take (n - 1)), .non, .tup [], .str (Str.ofString ""), .int 0, .tup [.tup (L.map dN)], .tup (M.map dN)], [.lst (F.map dN), .lst [.tup (L.map dN), .tup (O.map dN), .tup ((List.range n).map dN), .tup ((List.replicate n 0).map dN), .tup (L.map dN ++ [.int 0]), .tup ((L.map dN).take (n - 1))], .lst [.non, .tup [], .str (Str.ofString ""), .int 0, .tup [.tup (L.map dN)], .tup (M.map dN)], .lst [.tup (L.map dN), .tup (O.map dN), .tup ((List.range n).map dN), .tup ((List.replicate n 0).map dN), .tup (L.map dN ++ [.int 0]), .tup ((L.map dN).take (n - 1)), .non, .tup [], .str (Str.ofString ""), .int 0, .tup [.tup (L.map dN)], .tup (M.map dN)], .lst [.int 0]], ?_, by simp, rfl, rfl, fun t r hr => ?_⟩
  · simp only [List.forall_mem_cons]
    refine ⟨Vd_N (by omega), Vd_N (by omega), Vd_N (by simp; omega), Vd_N (by simp; omega), Vd_of (by simp; omega) fun v hv => ?_, Vd_of (by simp; omega) fun v hv => V0_N v (List.mem_of_mem_take hv), .inl trivial, Vd_of (by simp) (fun v hv => absurd hv (by simp)), .inl (by show PyData.strOk _ = true; decide +kernel), .inl trivial, Vd_of (by simp) (fun v hv => ?_), Vd_N (by omega), fun x hx => absurd hx (by simp)⟩
    · rcases List.mem_append.mp hv with hv | hv
      · exact V0_N v hv
      · rw [List.mem_singleton.mp hv]; exact .inl trivial
    · rw [List.mem_singleton.mp hv]; exact .inr ⟨_, rfl, by simp⟩
  · have ff : ∀ k : Nat, k ≤ 1000 → Fits k := fun k h => fits (by omega)
    have r2 : RgOk 0 (n : Int) := rgOk_nat (by omega)
    have mt := fun h => mulT h1 hn h
    have ad := fun h => oAdd_T (xs := L.map dN) (ys := [.int 0]) (by simp; omega) h
    have cu : cutD (L.map dN) none (some ((n : Int) - 1)) = (L.map dN).take (n - 1) := by
      rw [show (n : Int) - 1 = ((n - 1 : Nat) : Int) by omega]; exact cutD_to _ _
    have oa : oAdd (.ref (h.length + 1)) (.ref (h.length + 2)) (HG h a o [.lst (F.map dN), .lst [.tup (L.map dN), .tup (O.map dN), .tup ((List.range n).map dN), .tup ((List.replicate n 0).map dN), .tup (L.map dN ++ [.int 0]), .tup ((L.map dN).take (n - 1))], .lst [.non, .tup [], .str (Str.ofString ""), .int 0, .tup [.tup (L.map dN)], .tup (M.map dN)]]) = .ok (.ref (h.length + 3)) (HG h a o [.lst (F.map dN), .lst [.tup (L.map dN), .tup (O.map dN), .tup ((List.range n).map dN), .tup ((List.replicate n 0).map dN), .tup (L.map dN ++ [.int 0]), .tup ((L.map dN).take (n - 1))], .lst [.non, .tup [], .str (Str.ofString ""), .int 0, .tup [.tup (L.map dN)], .tup (M.map dN)], .lst [.tup (L.map dN), .tup (O.map dN), .tup ((List.range n).map dN), .tup ((List.replicate n 0).map dN), .tup (L.map dN ++ [.int 0]), .tup ((L.map dN).take (n - 1)), .non, .tup [], .str (Str.ofString ""), .int 0, .tup [.tup (L.map dN)], .tup (M.map dN)]]) := by
      have := oAdd_ref (h := HG h a o [.lst (F.map dN), .lst [.tup (L.map dN), .tup (O.map dN), .tup ((List.range n).map dN), .tup ((List.replicate n 0).map dN), .tup (L.map dN ++ [.int 0]), .tup ((L.map dN).take (n - 1))], .lst [.non, .tup [], .str (Str.ofString ""), .int 0, .tup [.tup (L.map dN)], .tup (M.map dN)]]) (r := h.length + 1) (q := h.length + 2) HG_g HG_g (by simp)
      rw [this, HG_len, HG_app]; rfl
    have mr : oMul (.ref (h.length + 4)) (.int n) (HG h a o [.lst (F.map dN), .lst [.tup (L.map dN), .tup (O.map dN), .tup ((List.range n).map dN), .tup ((List.replicate n 0).map dN), .tup (L.map dN ++ [.int 0]), .tup ((L.map dN).take (n - 1))], .lst [.non, .tup [], .str (Str.ofString ""), .int 0, .tup [.tup (L.map dN)], .tup (M.map dN)], .lst [.tup (L.map dN), .tup (O.map dN), .tup ((List.range n).map dN), .tup ((List.replicate n 0).map dN), .tup (L.map dN ++ [.int 0]), .tup ((L.map dN).take (n - 1)), .non, .tup [], .str (Str.ofString ""), .int 0, .tup [.tup (L.map dN)], .tup (M.map dN)], .lst [.int 0]]) = .ok (.ref (h.length + 5)) (HG h a o [.lst (F.map dN), .lst [.tup (L.map dN), .tup (O.map dN), .tup ((List.range n).map dN), .tup ((List.replicate n 0).map dN), .tup (L.map dN ++ [.int 0]), .tup ((L.map dN).take (n - 1))], .lst [.non, .tup [], .str (Str.ofString ""), .int 0, .tup [.tup (L.map dN)], .tup (M.map dN)], .lst [.tup (L.map dN), .tup (O.map dN), .tup ((List.range n).map dN), .tup ((List.replicate n 0).map dN), .tup (L.map dN ++ [.int 0]), .tup ((L.map dN).take (n - 1)), .non, .tup [], .str (Str.ofString ""), .int 0, .tup [.tup (L.map dN)], .tup (M.map dN)], .lst [.int 0], .lst ((List.replicate n 0).map dN)]) := by
      have g4 : (HG h a o [.lst (F.map dN), .lst [.tup (L.map dN), .tup (O.map dN), .tup ((List.range n).map dN), .tup ((List.replicate n 0).map dN), .tup (L.map dN ++ [.int 0]), .tup ((L.map dN).take (n - 1))], .lst [.non, .tup [], .str (Str.ofString ""), .int 0, .tup [.tup (L.map dN)], .tup (M.map dN)], .lst [.tup (L.map dN), .tup (O.map dN), .tup ((List.range n).map dN), .tup ((List.replicate n 0).map dN), .tup (L.map dN ++ [.int 0]), .tup ((L.map dN).take (n - 1)), .non, .tup [], .str (Str.ofString ""), .int 0, .tup [.tup (L.map dN)], .tup (M.map dN)], .lst [.int 0]])[h.length + 4]? = some (.lst [.int 0]) := HG_g
      rw [oMul_ref_, g4]
      dsimp only
      rw [if_pos (show RepOk [D.int 0].length (n : Int) from repOk_1 (by omega)), HG_len, HG_app, show (n : Int).toNat = n by omega, rep_zero]; rfl
    simp only [List.map_nil, dN] at e1
    generalize (L.map dN).take (n - 1) = X at *
    generalize (List.replicate n 0).map dN = Z at *
    simp [ph5, ph6, ph7, r2, rg_zero, mt, ad, cu, ff, HG_app, HG_len, e1, oa, mr, -oMul_ref_]
    exact hr
theorem ph_8 {n : Nat} {ps : List (List Nat)} {prs : List (Nat × Nat)} (I : Inp n ps prs) (hr : prs.length ≤ 100) {L O : List Nat} (hL : L.length = n) (hO : O.length = n) {h : AH} {a N : Nat} {o : AO} (hal : a < h.length) (hb : Bag N o) (hN : N + 200 ≤ 1000000000) (h1 : 1 ≤ n) (hn : n ≤ 100) {i j : Nat} {g : AH} {V : List D} (hV : ∀ v ∈ V, Vd v) (lV : V.length ≤ 12) (g3 : g[3]? = some (.lst V)) (gl : g.length = 5) : ∃ (V' : List D) (g' : AH) (x12 : Option D), (∀ v ∈ V', Vd v) ∧ V'.length ≤ 13 ∧ g'[3]? = some (.lst V') ∧
    ∀ (t : SM) (r : SR), t [some (.ref a), some (.tup (ps.map dC)), some (.int n), some (.tup (prs.map dP)), some (.tup (L.map dN)), some (.tup (O.map dN)), some (.int i), some (.ref h.length), none, some (.int j), some (.ref (h.length + 3)), some (.ref (h.length + 5)), x12, none, none, none, none, none, none] (HG h a o g') = r → sSeq ph8 (sSeq ph9 t) [some (.ref a), some (.tup (ps.map dC)), some (.int n), some (.tup (prs.map dP)), some (.tup (L.map dN)), some (.tup (O.map dN)), some (.int i), some (.ref h.length), none, some (.int j), some (.ref (h.length + 3)), some (.ref (h.length + 5)), none, none, none, none, none, none, none] (HG h a o (g ++ [.lst ((List.replicate n 0).map dN)])) = r := by
  have xl : ∀ x h, x < n → ixD (L.map dN) (x : Int) h = .ok (dN (L.getD x 0)) h := fun x h hx => ixD_N (by omega)
  obtain ⟨e', h', w, x12, G, z, rfl, rfl, lG, bG⟩ := loopN (k := 12) (b := lb__law_parts_hold_1)
    (fun k e h' => ∃ x12 G z, e = [some (.ref a), some (.tup (ps.map dC)), some (.int n), some (.tup (prs.map dP)), some (.tup (L.map dN)), some (.tup (O.map dN)), some (.int i), some (.ref h.length), none, some (.int j), some (.ref (h.length + 3)), some (.ref (h.length + 5)), x12, none, none, none, none, none, none] ∧ h' = HG h a o (g ++ (.lst G :: z)) ∧ G.length = n ∧ ∀ d ∈ G, V0 d)
    n (e := [some (.ref a), some (.tup (ps.map dC)), some (.int n), some (.tup (prs.map dP)), some (.tup (L.map dN)), some (.tup (O.map dN)), some (.int i), some (.ref h.length), none, some (.int j), some (.ref (h.length + 3)), some (.ref (h.length + 5)), none, none, none, none, none, none, none]) (h := HG h a o (g ++ [.lst ((List.replicate n 0).map dN)])) ⟨none, _, [], rfl, rfl, by simp, V0_N⟩ (by
      rintro k e h' hk ⟨x12, G, z, rfl, rfl, lG, bG⟩
      have l0 : lc__law_parts_hold_2 [some (.ref a), some (.tup (ps.map dC)), some (.int n), some (.tup (prs.map dP)), some (.tup (L.map dN)), some (.tup (O.map dN)), some (.int i), some (.ref h.length), none, some (.int j), some (.ref (h.length + 3)), some (.ref (h.length + 5)), some (dN k), none, none, none, none, none, none] (HG h a o (g ++ (.lst G :: z))) = .ok (.ref (h.length + (g.length + (z.length + 1)))) (HG h a o (g ++ (.lst G :: (z ++ [.lst ((((List.range n).filter fun x => L.getD x 0 == L.getD k 0).map fun x : Nat => (x : Int)).map D.int)])))) := by
        unfold lc__law_parts_hold_2
        rw [eLc_pure (φ := dN) (List.range n) (fun x => L.getD x 0 == L.getD k 0) dN (h1 := HG h a o (g ++ (.lst G :: z))) (iRange1_nat (by simp) (by omega)) (by rw [List.length_range, sizeLine_eq]; omega)]
        · rw [HG_len, HG_app, List.map_map]
          simp
          rfl
        · intro q hq
          rw [List.mem_range] at hq
          have x1 := fun h => xl k h hk
          have x2 := fun h => xl q h hq
          simp only [dN] at x1 x2
          simp [wipeE, x1, x2, dN, -List.getD_eq_getElem?_getD]
        · intro q hq _
          simp [wipeE]
      have hF : 0 < (((List.range n).filter fun x => L.getD x 0 == L.getD k 0).map fun x : Nat => (x : Int)).length := by
        rw [List.length_map]
        exact List.length_pos_of_mem (List.mem_filter.mpr ⟨List.mem_range.mpr hk, by simp⟩)
      generalize ((List.range n).filter fun x => L.getD x 0 == L.getD k 0).map (fun x : Nat => (x : Int)) = F at l0 hF
      have gm : (HG h a o (g ++ (.lst G :: (z ++ [.lst (F.map D.int)]))))[h.length + (g.length + (z.length + 1))]? = some (.lst (F.map D.int)) := by
        rw [HG_g, List.getElem?_append_right (by omega)]
        simp
      have mx := cMaxL_ref gm hF
      have g5 : (HG h a o (g ++ (.lst G :: (z ++ [.lst (F.map D.int)]))))[h.length + 5]? = some (.lst G) := by
        rw [HG_g, List.getElem?_append_right (by omega), gl]; rfl
      have pu : ∀ r v h, putO (some (.lst G)) r (k : Int) v h = some (h.set r (.lst (G.set k v))) := fun r v h => putO_nat (by omega)
      have sg : ∀ v, (HG h a o (g ++ (.lst G :: (z ++ [.lst (F.map D.int)])))).set (h.length + 5) (.lst v) = HG h a o (g ++ (.lst v :: (z ++ [.lst (F.map D.int)]))) := fun v => by
        rw [HG_sg, List.set_append_right _ _ (by omega), gl]; rfl
      refine ⟨_, _, ?_, some (dN k), G.set k (.int (maxI F)), z ++ [.lst (F.map D.int)], rfl, rfl, by simp [lG], fun d hd => ?_⟩
      · simp only [dN] at l0
        simp [lb__law_parts_hold_1, dN, l0, mx, g5, pu, sg]
      · rcases List.mem_or_eq_of_mem_set hd with q | q
        · exact bG d q
        · rw [q]; exact .inl trivial)
  have ap : ∀ r v h, appO (some (.lst V)) r v h = .ok .non (h.set r (.lst (V ++ [v]))) := fun r v h => appO_lst (by rw [sizeLine_eq]; omega)
  have g5 : (HG h a o (g ++ (.lst G :: z)))[h.length + 5]? = some (.lst G) := by
    rw [HG_g, List.getElem?_append_right (by omega), gl]; rfl
  have g3' : (HG h a o (g ++ (.lst G :: z)))[h.length + 3]? = some (.lst V) := by rw [HG_g]; exact app_get_l g3
  refine ⟨V ++ [.tup G], (g ++ (.lst G :: z)).set 3 (.lst (V ++ [.tup G])), x12, app_mem hV (Vd_of (by omega) bG), by simp; omega, List.getElem?_set_self (by simp; omega), fun t r hr => ?_⟩
  have r1 : RgB (n : Int) := rgB_nat (by omega)
  have sg : (HG h a o (g ++ (.lst G :: z))).set (h.length + 3) (.lst (V ++ [.tup G])) = HG h a o ((g ++ (.lst G :: z)).set 3 (.lst (V ++ [.tup G]))) := HG_sg _
  rw [show sSeq ph8 (sSeq ph9 t) [some (.ref a), some (.tup (ps.map dC)), some (.int n), some (.tup (prs.map dP)), some (.tup (L.map dN)), some (.tup (O.map dN)), some (.int i), some (.ref h.length), none, some (.int j), some (.ref (h.length + 3)), some (.ref (h.length + 5)), none, none, none, none, none, none, none] (HG h a o (g ++ [.lst ((List.replicate n 0).map dN)])) = (sSeq ph9 t) [some (.ref a), some (.tup (ps.map dC)), some (.int n), some (.tup (prs.map dP)), some (.tup (L.map dN)), some (.tup (O.map dN)), some (.int i), some (.ref h.length), none, some (.int j), some (.ref (h.length + 3)), some (.ref (h.length + 5)), x12, none, none, none, none, none, none] (HG h a o (g ++ (.lst G :: z))) by
    rw [sSeq_]
    have : ph8 [some (.ref a), some (.tup (ps.map dC)), some (.int n), some (.tup (prs.map dP)), some (.tup (L.map dN)), some (.tup (O.map dN)), some (.int i), some (.ref h.length), none, some (.int j), some (.ref (h.length + 3)), some (.ref (h.length + 5)), none, none, none, none, none, none, none] (HG h a o (g ++ [.lst ((List.replicate n 0).map dN)])) = .nx [some (.ref a), some (.tup (ps.map dC)), some (.int n), some (.tup (prs.map dP)), some (.tup (L.map dN)), some (.tup (O.map dN)), some (.int i), some (.ref h.length), none, some (.int j), some (.ref (h.length + 3)), some (.ref (h.length + 5)), x12, none, none, none, none, none, none] (HG h a o (g ++ (.lst G :: z))) := by
      simp [ph8, r1, rg_zero, -List.map_replicate]
      exact w
    rw [this]; rfl]
  simp [ph9, g5, g3', ap, sg]
  exact hr
end Law

set_option maxHeartbeats 1000000
/-! odd labels asked: the rest -/
namespace Law
open PySem Rf L2
theorem ph_10 {n : Nat} {ps : List (List Nat)} {prs : List (Nat × Nat)} (I : Inp n ps prs) (hr : prs.length ≤ 100) {L O : List Nat} (hL : L.length = n) (hO : O.length = n) {h : AH} {a N : Nat} {o : AO} (hal : a < h.length) (hb : Bag N o) (hN : N + 200 ≤ 1000000000) (h1 : 1 ≤ n) (hn : n ≤ 100) {i j : Nat} {x12 : Option D} {g : AH} {V : List D} (hV : ∀ v ∈ V, Vd v) (lV : V.length ≤ 13) (g3 : g[3]? = some (.lst V)) : ∃ (V' : List D) (g' : AH) (o' : AO) (x13 x14 : Option D), (∀ v ∈ V', Vd v) ∧ V'.length ≤ 17 ∧ g'[3]? = some (.lst V') ∧ Bag (N + 4) o' ∧
    ph10 [some (.ref a), some (.tup (ps.map dC)), some (.int n), some (.tup (prs.map dP)), some (.tup (L.map dN)), some (.tup (O.map dN)), some (.int i), some (.ref h.length), none, some (.int j), some (.ref (h.length + 3)), some (.ref (h.length + 5)), x12, none, none, none, none, none, none] (HG h a o g) = .nx [some (.ref a), some (.tup (ps.map dC)), some (.int n), some (.tup (prs.map dP)), some (.tup (L.map dN)), some (.tup (O.map dN)), some (.int i), some (.ref h.length), none, some (.int j), some (.ref (h.length + 3)), some (.ref (h.length + 5)), x12, x13, x14, none, none, none, none] (HG h a o' g') := by
  obtain ⟨e', h', w, x13, x14, g', V', o', rfl, rfl, hV', lV', g3', B'⟩ := loopN (k := 13) (b := lb__law_parts_hold_2)
    (fun k e h' => ∃ x13 x14 g V o, e = [some (.ref a), some (.tup (ps.map dC)), some (.int n), some (.tup (prs.map dP)), some (.tup (L.map dN)), some (.tup (O.map dN)), some (.int i), some (.ref h.length), none, some (.int j), some (.ref (h.length + 3)), some (.ref (h.length + 5)), x12, x13, x14, none, none, none, none] ∧ h' = HG h a o g ∧ (∀ v ∈ V, Vd v) ∧ V.length ≤ 13 + 2 * k ∧ g[3]? = some (.lst V) ∧ Bag (N + 2 * k) o)
    2 (e := [some (.ref a), some (.tup (ps.map dC)), some (.int n), some (.tup (prs.map dP)), some (.tup (L.map dN)), some (.tup (O.map dN)), some (.int i), some (.ref h.length), none, some (.int j), some (.ref (h.length + 3)), some (.ref (h.length + 5)), x12, none, none, none, none, none, none]) (h := HG h a o g) ⟨none, none, g, V, o, rfl, rfl, hV, by omega, g3, hb⟩ (by
      rintro k e h' hk ⟨x13, x14, g, V, o, rfl, rfl, hV, lV, g3, B⟩
      obtain ⟨u, o1, t1, hu, B1⟩ := HG_take (h := h) (g := g) hal B (by omega) (s := n) (by omega) (by omega)
      obtain ⟨v, o2, t2, hv, B2⟩ := HG_take (h := h) (g := g) hal B1 (by omega) (s := n) (by omega) (by omega)
      have I1 : Inp n ps (prs ++ [(u, v)]) := ⟨I.n1, I.n2, I.pm, fun x hx => by
        rcases List.mem_append.mp hx with q | q
        · exact I.pr x q
        · rw [List.mem_singleton.mp q]; exact ⟨hu, hv⟩, I.pl, by rw [List.length_append, List.length_singleton]; omega⟩
      have I2 : Inp n ps [(u, v)] := ⟨I.n1, I.n2, I.pm, fun x hx => by rw [List.mem_singleton.mp hx]; exact ⟨hu, hv⟩, I.pl, by simp⟩
      obtain ⟨M1, c1, A1⟩ := closure_spec I1 (h := HG h a o2 g)
      have l1 := A1.len
      obtain ⟨M2, c2, A2⟩ := closure_spec I2 (h := HG h a o2 (g.set 3 (.lst (V ++ [.tup (M1.map dN)]))))
      have l2 := A2.len
      have ad := fun h => oAdd_T (xs := prs.map dP) (ys := [.tup [.int u, .int v]]) (by simp; omega) h
      have ap : ∀ (V : List D), V.length ≤ 100 → ∀ r v h, appO (some (.lst V)) r v h = .ok .non (h.set r (.lst (V ++ [v]))) := fun V hl r v h => appO_lst (by rw [sizeLine_eq]; omega)
      have ap1 := ap V (by omega)
      have ap2 := ap (V ++ [.tup (M1.map dN)]) (by simp; omega)
      have g3a : (HG h a o2 g)[h.length + 3]? = some (.lst V) := by rw [HG_g]; exact g3
      have gl : 3 < g.length := (List.getElem?_eq_some_iff.mp g3).1
      have g3b : (g.set 3 (.lst (V ++ [.tup (M1.map dN)])))[3]? = some (.lst (V ++ [.tup (M1.map dN)])) := List.getElem?_set_self gl
      have g3c : (HG h a o2 (g.set 3 (.lst (V ++ [.tup (M1.map dN)]))))[h.length + 3]? = some (.lst (V ++ [.tup (M1.map dN)])) := by rw [HG_g]; exact g3b
      have s1 : (HG h a o2 g).set (h.length + 3) (.lst (V ++ [.tup (M1.map dN)])) = HG h a o2 (g.set 3 (.lst (V ++ [.tup (M1.map dN)]))) := HG_sg _
      have s2 : (HG h a o2 (g.set 3 (.lst (V ++ [.tup (M1.map dN)])))).set (h.length + 3) (.lst (V ++ [.tup (M1.map dN)] ++ [.tup (M2.map dN)])) = HG h a o2 (g.set 3 (.lst (V ++ [.tup (M1.map dN)] ++ [.tup (M2.map dN)]))) := by
        rw [HG_sg, List.set_set]
      refine ⟨_, HG h a o2 (g.set 3 (.lst (V ++ [.tup (M1.map dN)] ++ [.tup (M2.map dN)]))), ?_, some (dN k), some (.tup [.int u, .int v]), _, V ++ [.tup (M1.map dN)] ++ [.tup (M2.map dN)], o2, rfl, rfl, app_mem (app_mem hV (Vd_N (by omega))) (Vd_N (by omega)), by simp; omega, List.getElem?_set_self gl, B2.mono (by omega)⟩
      rw [List.map_append] at c1
      simp only [List.map_cons, List.map_nil, dP, dN] at c1 c2
      have c1' : c__law_closure [.tup (ps.map dC), .int n, .tup (prs.map dP ++ [.tup [.int u, .int v]])] (HG h a o2 g) = .ok (.tup (M1.map dN)) (HG h a o2 g) := c1
      generalize g.set 3 (.lst (V ++ [.tup (M1.map dN)])) = ga at *
      generalize g.set 3 (.lst (V ++ [.tup (M1.map dN)] ++ [.tup (M2.map dN)])) = gb at *
      generalize hX : V ++ [.tup (M1.map dN)] = X at *
      simp [lb__law_parts_hold_2, dN, t1, t2, ad, c1', c2, g3a, g3c, ap1, ap2, s1, s2, hX])
  have r1 : RgB (2 : Int) := rgB_nat (n := 2) (by omega)
  have r2 : rg 0 2 = (List.range 2).map dN := rg_zero 2
  refine ⟨V', g', o', x13, x14, hV', by omega, g3', B', ?_⟩
  simp [ph10, r1, r2, w]
theorem odd10_W {a n t l : Nat} (ht : t < 10) : ∃ d, W0 d ∧ ∀ h, ixD [.int (-1), .int a, .int 0, .int l, .int n, .bl true, .bl false, .non, .str (Str.ofString "0"), .tup [.int 0]] (t : Int) h = .ok d h := by
  have W : ∀ x ∈ ([.int (-1), .int a, .int 0, .int l, .int n, .bl true, .bl false, .non, .str (Str.ofString "0"), .tup [.int 0]] : List D), W0 x := by
    simp only [List.forall_mem_cons]
    refine ⟨?_, ?_, ?_, ?_, ?_, ?_, ?_, ?_, ?_, ?_, fun x hx => absurd hx (by simp)⟩
    all_goals first | exact .inl trivial | exact .inl (by show PyData.strOk _ = true; decide +kernel) | exact .inr ⟨_, rfl⟩
  exact ⟨_, W _ (getD_mem (d := .non) (i := t) (by simpa using ht)), fun h => ixD_some (getD_some (by simpa using ht))⟩
theorem ph_11 {n : Nat} {ps : List (List Nat)} {prs : List (Nat × Nat)} (I : Inp n ps prs) (hr : prs.length ≤ 100) {L O : List Nat} (hL : L.length = n) (hO : O.length = n) {h : AH} {a N : Nat} {o : AO} (hal : a < h.length) (hb : Bag N o) (hN : N + 200 ≤ 1000000000) (h1 : 1 ≤ n) (hn : n ≤ 100) {i j : Nat} {x12 x13 x14 : Option D} {g : AH} {V : List D} (hV : ∀ v ∈ V, Vd v) (lV : V.length ≤ 17) (g3 : g[3]? = some (.lst V)) : ∃ (V' : List D) (g' : AH) (o' : AO) (y13 x15 x16 : Option D), (∀ v ∈ V', Vd v) ∧ V'.length ≤ 20 ∧ g'[3]? = some (.lst V') ∧ Bag (N + 9) o' ∧
    ph11 [some (.ref a), some (.tup (ps.map dC)), some (.int n), some (.tup (prs.map dP)), some (.tup (L.map dN)), some (.tup (O.map dN)), some (.int i), some (.ref h.length), none, some (.int j), some (.ref (h.length + 3)), some (.ref (h.length + 5)), x12, x13, x14, none, none, none, none] (HG h a o g) = .nx [some (.ref a), some (.tup (ps.map dC)), some (.int n), some (.tup (prs.map dP)), some (.tup (L.map dN)), some (.tup (O.map dN)), some (.int i), some (.ref h.length), none, some (.int j), some (.ref (h.length + 3)), some (.ref (h.length + 5)), x12, y13, x14, x15, x16, none, none] (HG h a o' g') := by
  obtain ⟨e', h', w, x13, x15, x16, g', V', o', rfl, rfl, hV', lV', g3', B'⟩ := loopN (k := 13) (b := lb__law_parts_hold_3)
    (fun k e h' => ∃ x13 x15 x16 g V o, e = [some (.ref a), some (.tup (ps.map dC)), some (.int n), some (.tup (prs.map dP)), some (.tup (L.map dN)), some (.tup (O.map dN)), some (.int i), some (.ref h.length), none, some (.int j), some (.ref (h.length + 3)), some (.ref (h.length + 5)), x12, x13, x14, x15, x16, none, none] ∧ h' = HG h a o g ∧ (∀ v ∈ V, Vd v) ∧ V.length ≤ 17 + k ∧ g[3]? = some (.lst V) ∧ Bag (N + 3 * k) o)
    3 (e := [some (.ref a), some (.tup (ps.map dC)), some (.int n), some (.tup (prs.map dP)), some (.tup (L.map dN)), some (.tup (O.map dN)), some (.int i), some (.ref h.length), none, some (.int j), some (.ref (h.length + 3)), some (.ref (h.length + 5)), x12, x13, x14, none, none, none, none]) (h := HG h a o g) ⟨x13, none, none, g, V, o, rfl, rfl, hV, by omega, g3, hb⟩ (by
      rintro k e h' hk ⟨x13, x15, x16, g, V, o, rfl, rfl, hV, lV, g3, B⟩
      obtain ⟨u, o1, t1, hu, B1⟩ := HG_take (h := h) (g := g) hal B (by omega) (s := n) (by omega) (by omega)
      obtain ⟨v, o2, t2, hv, B2⟩ := HG_take (h := h) (g := g) hal B1 (by omega) (s := n) (by omega) (by omega)
      have xl : ∀ h, ixD (L.map dN) (v : Int) h = .ok (dN (L.getD v 0)) h := fun h => ixD_N (by omega)
      simp only [dN] at xl
      generalize L.getD v 0 = lv at xl
      obtain ⟨t, o3, t3, ht, B3⟩ := HG_take (h := h) (g := g ++ [.lst [.int (-1), .int u, .int 0, .int lv, .int n, .bl true, .bl false, .non, .str (Str.ofString "0"), .tup [.int 0]]]) hal B2 (by omega) (s := 10) (by omega) (by omega)
      obtain ⟨d, W, xd⟩ := odd10_W (a := u) (n := n) (l := lv) ht
      replace t3 : c__law_take [.ref a, .int 10] _ = _ := t3
      have go : ∀ o, (HG h a o (g ++ [.lst [.int (-1), .int u, .int 0, .int lv, .int n, .bl true, .bl false, .non, .str (Str.ofString "0"), .tup [.int 0]]]))[h.length + g.length]? = some (.lst [.int (-1), .int u, .int 0, .int lv, .int n, .bl true, .bl false, .non, .str (Str.ofString "0"), .tup [.int 0]]) := fun o => by rw [HG_g]; simp
      have y2 : ∀ o, oIx (.ref (h.length + g.length)) (.int t) (HG h a o (g ++ [.lst [.int (-1), .int u, .int 0, .int lv, .int n, .bl true, .bl false, .non, .str (Str.ofString "0"), .tup [.int 0]]])) = .ok d (HG h a o (g ++ [.lst [.int (-1), .int u, .int 0, .int lv, .int n, .bl true, .bl false, .non, .str (Str.ofString "0"), .tup [.int 0]]])) := fun o => by rw [oIx_ref_, go]; exact xd _
      have gl : 3 < g.length := (List.getElem?_eq_some_iff.mp g3).1
      have g3a : (g ++ [AO.lst [.int (-1), .int u, .int 0, .int lv, .int n, .bl true, .bl false, .non, .str (Str.ofString "0"), .tup [.int 0]]])[3]? = some (.lst V) := app_get_l g3
      have g3b : (HG h a o3 (g ++ [AO.lst [.int (-1), .int u, .int 0, .int lv, .int n, .bl true, .bl false, .non, .str (Str.ofString "0"), .tup [.int 0]]]))[h.length + 3]? = some (.lst V) := by rw [HG_g]; exact g3a
      have gl2 : 3 < (g ++ [AO.lst [.int (-1), .int u, .int 0, .int lv, .int n, .bl true, .bl false, .non, .str (Str.ofString "0"), .tup [.int 0]]]).length := (List.getElem?_eq_some_iff.mp g3a).1
      have ff : ∀ k : Nat, k ≤ 1000 → Fits k := fun k h => fits (by omega)
      have ix : ∀ h, oIx (.tup (L.map dN)) (.int v) h = .ok (.int lv) h := fun h => xl h
      have lG : ∀ o, (HG h a o g).length = h.length + g.length := fun o => HG_len
      have aG : ∀ o, HG h a o g ++ [.lst [.int (-1), .int u, .int 0, .int lv, .int n, .bl true, .bl false, .non, .str (Str.ofString "0"), .tup [.int 0]]] = HG h a o (g ++ [.lst [.int (-1), .int u, .int 0, .int lv, .int n, .bl true, .bl false, .non, .str (Str.ofString "0"), .tup [.int 0]]]) := fun o => HG_app _
      generalize g ++ [AO.lst [.int (-1), .int u, .int 0, .int lv, .int n, .bl true, .bl false, .non, .str (Str.ofString "0"), .tup [.int 0]]] = ga at *
      have A1 := fun m h => oAdd_T (xs := (L.map dN).take u) (ys := [m]) (by simp; omega) h
      have A2 := fun m h => oAdd_T (xs := (L.map dN).take u ++ [m]) (ys := (L.map dN).drop (u + 1)) (by simp; omega) h
      have ap : ∀ r v h, appO (some (.lst V)) r v h = .ok .non (h.set r (.lst (V ++ [v]))) := fun r v h => appO_lst (by rw [sizeLine_eq]; omega)
      have sg : ∀ v, (HG h a o3 ga).set (h.length + 3) (.lst v) = HG h a o3 (ga.set 3 (.lst v)) := fun v => HG_sg _
      have tyr : tyOk (HG h a o3 ga) "list" (.ref (h.length + 3)) = true := by rw [tyOk_ref_, g3b]; rfl
      have apr : ∀ v, mAppend (.ref (h.length + 3)) [v] (HG h a o3 ga) = .ok .non (HG h a o3 (ga.set 3 (.lst (V ++ [v])))) := fun v => by rw [mAppend_ref_, g3b, ap, sg]
      have tyr2 : tyOk (HG h a o2 ga) "list" (.ref (h.length + 3)) = true := by
        rw [tyOk_ref_, HG_g, g3a]; rfl
      refine ⟨_, _, ?_, some (dN k), some (.int u), some (.ref (h.length + g.length)), ga.set 3 (.lst (V ++ [.tup ((L.map dN).take u ++ ([d] ++ (L.map dN).drop (u + 1)))])), V ++ [.tup ((L.map dN).take u ++ ([d] ++ (L.map dN).drop (u + 1)))], o3, rfl, rfl, app_mem hV (Vd_of (by simp; omega) fun w hw => ?_), by simp; omega, List.getElem?_set_self gl2, B3.mono (by omega)⟩
      · generalize L.map dN = LD at *
        simp [lb__law_parts_hold_3, dN, t1, t2, ix, ff, lG, aG, t3, y2, A1, A2, cutTo, cutFrom1, tyr, tyr2, apr, -oIx_ref_, -oIx_tup_, -mAppend_ref_, -tyOk_ref_]
      · simp only [List.mem_append, List.mem_singleton] at hw
        rcases hw with q | rfl | q
        · exact V0_N w (List.mem_of_mem_take q)
        · exact V0_W W
        · exact V0_N w (List.mem_of_mem_drop q))
  have r1 : RgB (3 : Int) := rgB_nat (n := 3) (by omega)
  have r2 : rg 0 3 = (List.range 3).map dN := rg_zero 3
  refine ⟨V', g', o', x13, x15, x16, hV', by omega, g3', B', ?_⟩
  simp [ph11, r1, r2, w]
theorem ph_12 {n : Nat} {ps : List (List Nat)} {prs : List (Nat × Nat)} (I : Inp n ps prs) (hr : prs.length ≤ 100) {L O : List Nat} (hL : L.length = n) (hO : O.length = n) {h : AH} {a N : Nat} {o : AO} (hal : a < h.length) (hb : Bag N o) (hN : N + 200 ≤ 1000000000) (h1 : 1 ≤ n) (hn : n ≤ 100) {i j : Nat} (hi : i < n) (hj : j < n) {x12 x13 x14 x15 x16 : Option D} {g : AH} {V : List D} (hV : ∀ v ∈ V, Vd v) (g3 : g[3]? = some (.lst V)) : ∃ (y14 x17 x18 : Option D) (z : AH),
    ph12 [some (.ref a), some (.tup (ps.map dC)), some (.int n), some (.tup (prs.map dP)), some (.tup (L.map dN)), some (.tup (O.map dN)), some (.int i), some (.ref h.length), none, some (.int j), some (.ref (h.length + 3)), some (.ref (h.length + 5)), x12, x13, x14, x15, x16, none, none] (HG h a o g) = .nx [some (.ref a), some (.tup (ps.map dC)), some (.int n), some (.tup (prs.map dP)), some (.tup (L.map dN)), some (.tup (O.map dN)), some (.int i), some (.ref h.length), none, some (.int j), some (.ref (h.length + 3)), some (.ref (h.length + 5)), x12, x13, y14, x15, x16, x17, x18] (HG h a o (g ++ z)) := by
  have g3a : ∀ z, (HG h a o (g ++ z))[h.length + 3]? = some (.lst V) := fun z => by rw [HG_g]; exact app_get_l g3
  obtain ⟨e', h', w, x14, x17, x18, z, rfl, rfl⟩ := liveL_inv (g := gVar 17) (b := lb__law_parts_hold_4) (r := h.length + 3) (ds := V)
    (fun k e h' => ∃ x14 x17 x18 z, e = [some (.ref a), some (.tup (ps.map dC)), some (.int n), some (.tup (prs.map dP)), some (.tup (L.map dN)), some (.tup (O.map dN)), some (.int i), some (.ref h.length), none, some (.int j), some (.ref (h.length + 3)), some (.ref (h.length + 5)), x12, x13, x14, x15, x16, x17, x18] ∧ h' = HG h a o (g ++ z))
    (e := [some (.ref a), some (.tup (ps.map dC)), some (.int n), some (.tup (prs.map dP)), some (.tup (L.map dN)), some (.tup (O.map dN)), some (.int i), some (.ref h.length), none, some (.int j), some (.ref (h.length + 3)), some (.ref (h.length + 5)), x12, x13, x14, x15, x16, none, none]) (h := HG h a o g)
    (by rintro k e h' ⟨_, _, _, z, rfl, rfl⟩; exact g3a z) ⟨x14, none, none, [], rfl, by simp⟩ (by
      rintro k d e h' hd ⟨x14, x17, x18, z, rfl, rfl⟩
      have Vv := hV d (List.mem_of_getElem? hd)
      obtain ⟨e', h', w, y14, y18, rfl, rfl⟩ := liveL_inv (g := gVar 14) (b := lb__law_parts_hold_5) (r := h.length + (g ++ z).length) (ds := [.tup [.int i, .int j], .tup [.int j, .int i], .tup [.int i, .int i]])
        (fun k e h' => ∃ x14 x18, e = [some (.ref a), some (.tup (ps.map dC)), some (.int n), some (.tup (prs.map dP)), some (.tup (L.map dN)), some (.tup (O.map dN)), some (.int i), some (.ref h.length), none, some (.int j), some (.ref (h.length + 3)), some (.ref (h.length + 5)), x12, x13, x14, x15, x16, some d, x18] ∧ h' = HG h a o (g ++ z ++ [.lst [.tup [.int i, .int j], .tup [.int j, .int i], .tup [.int i, .int i]]]))
        (e := [some (.ref a), some (.tup (ps.map dC)), some (.int n), some (.tup (prs.map dP)), some (.tup (L.map dN)), some (.tup (O.map dN)), some (.int i), some (.ref h.length), none, some (.int j), some (.ref (h.length + 3)), some (.ref (h.length + 5)), x12, x13, x14, x15, x16, some d, x18]) (h := HG h a o (g ++ z ++ [.lst [.tup [.int i, .int j], .tup [.int j, .int i], .tup [.int i, .int i]]]))
        (by rintro k e h' ⟨_, _, rfl, rfl⟩; rw [HG_g]; simp) ⟨x14, x18, rfl, rfl⟩ (by
          rintro k t e h' ht ⟨x14, x18, rfl, rfl⟩
          obtain ⟨p, q, rfl, hp, hq⟩ : ∃ p q : Nat, t = .tup [.int p, .int q] ∧ p < n ∧ q < n := by
            have := List.mem_of_getElem? ht
            simp only [List.mem_cons, List.not_mem_nil, or_false] at this
            rcases this with rfl | rfl | rfl
            · exact ⟨i, j, rfl, hi, hj⟩
            · exact ⟨j, i, rfl, hj, hi⟩
            · exact ⟨i, i, rfl, hi, hi⟩
          generalize HG h a o (g ++ z ++ [.lst [.tup [.int i, .int j], .tup [.int j, .int i], .tup [.int i, .int i]]]) = H
          obtain ⟨b1, c1, q1⟩ := parted_spec I Vv hp hq (h := H)
          obtain ⟨b2, c2, q2⟩ := parts_spec I Vv hp hq (h := H)
          have hb : b1 = b2 := by
            have : b1 = true ↔ b2 = true := q1.trans q2.symm
            cases b1 <;> cases b2 <;> simp_all
          subst hb
          simp only [dN] at c1 c2
          refine ⟨_, _, ?_, some (.tup [.int p, .int q]), some (.bl b1), rfl, rfl⟩
          simp [lb__law_parts_hold_5, c1, c2, truth_spec])
      have f3 : Fits 3 := fits (by decide)
      have gr : (HG h a o (g ++ z ++ [.lst [.tup [.int i, .int j], .tup [.int j, .int i], .tup [.int i, .int i]]]))[h.length + (g ++ z).length]? = some (.lst [.tup [.int i, .int j], .tup [.int j, .int i], .tup [.int i, .int i]]) := by rw [HG_g]; simp
      have lG : (HG h a o (g ++ z)).length = h.length + (g ++ z).length := HG_len
      have aG : HG h a o (g ++ z) ++ [.lst [.tup [.int i, .int j], .tup [.int j, .int i], .tup [.int i, .int i]]] = HG h a o (g ++ z ++ [.lst [.tup [.int i, .int j], .tup [.int j, .int i], .tup [.int i, .int i]]]) := HG_app _
      refine ⟨_, _, ?_, y14, some d, y18, z ++ [.lst [.tup [.int i, .int j], .tup [.int j, .int i], .tup [.int i, .int i]]], rfl, rfl⟩
      rw [← List.append_assoc]
      generalize HG h a o (g ++ z ++ [.lst [.tup [.int i, .int j], .tup [.int j, .int i], .tup [.int i, .int i]]]) = H at *
      generalize HG h a o (g ++ z) = H0 at *
      generalize h.length + (g ++ z).length = R at *
      simp [lb__law_parts_hold_4, lG, aG, gr, w])
  refine ⟨x14, x17, x18, z, ?_⟩
  have g30 : (HG h a o g)[h.length + 3]? = some (.lst V) := by rw [HG_g]; exact g3
  simp [ph12, g30, w]
theorem parts_hold_spec {n : Nat} {ps : List (List Nat)} {prs : List (Nat × Nat)} (I : Inp n ps prs) (hr : prs.length ≤ 100) {L O : List Nat} (hL : L.length = n) (hO : O.length = n) {h : AH} {a N : Nat} {o : AO} (ha : h[a]? = some o) (hb : Bag N o) (hN : N + 300 ≤ 1000000000) :
    ∃ o', c__law_parts_hold [.ref a, .tup (ps.map dC), dN n, .tup (prs.map dP), .tup (L.map dN), .tup (O.map dN)] h = .ok (.bl true) (h.set a o') ∧ Bag (N + 300) o' := by
  have hal := (List.getElem?_eq_some_iff.mp ha).1
  have n1 := I.n1
  have n2 := I.n2
  have hs : HG h a o [] = h := HG_self ha
  obtain ⟨i, j, F, o1, hi, hj, B1, q1⟩ := ph_1 I hr hL hO hal hb (by omega) n1 n2
  obtain ⟨V, g, hV, lV, g3, gl, q2⟩ := ph_5 I hr hL hO hal B1 (by omega) n1 n2 (i := i) (j := j) (F := F)
  obtain ⟨V2, g2, x12, hV2, lV2, g32, q3⟩ := ph_8 I hr hL hO hal B1 (by omega) n1 n2 (i := i) (j := j) hV lV g3 gl
  obtain ⟨V3, g4, o3, x13, x14, hV3, lV3, g33, B3, q4⟩ := ph_10 I hr hL hO hal B1 (by omega) n1 n2 (i := i) (j := j) (x12 := x12) hV2 lV2 g32
  obtain ⟨V4, g5, o4, y13, x15, x16, hV4, lV4, g34, B4, q5⟩ := ph_11 I hr hL hO hal B3 (by omega) n1 n2 (i := i) (j := j) (x12 := x12) (x13 := x13) (x14 := x14) hV3 lV3 g33
  obtain ⟨y14, x17, x18, z, q6⟩ := ph_12 I hr hL hO hal B4 (by omega) n1 n2 hi hj (x12 := x12) (x13 := y13) (x14 := x14) (x15 := x15) (x16 := x16) hV4 g34
  refine ⟨o4, ?_, B4.mono (by omega)⟩
  have e0 : m__law_parts_hold [some (.ref a), some (.tup (ps.map dC)), some (.int n), some (.tup (prs.map dP)), some (.tup (L.map dN)), some (.tup (O.map dN)), none, none, none, none, none, none, none, none, none, none, none, none, none] (HG h a o []) = .rt (.bl true) (HG h a o4 (g5 ++ z)) := by
    rw [ph_split]
    refine q1 _ _ (q2 _ _ (q3 _ _ ?_))
    rw [sSeq_, q4, sthen_nx, sSeq_, q5, sthen_nx, sSeq_, q6, sthen_nx]
    simp [ph13]
  rw [hs] at e0
  have e : c__law_parts_hold [.ref a, .tup (ps.map dC), dN n, .tup (prs.map dP), .tup (L.map dN), .tup (O.map dN)] h = gc h (.ok (.bl true) (HG h a o4 (g5 ++ z))) := by
    unfold c__law_parts_hold fsem
    show gc h (outS (m__law_parts_hold [some (.ref a), some (.tup (ps.map dC)), some (.int n), some (.tup (prs.map dP)), some (.tup (L.map dN)), some (.tup (O.map dN)), none, none, none, none, none, none, none, none, none, none, none, none, none] h)) = _
    rw [e0]; rfl
  rw [e]
  unfold HG
  rw [gc_set_app rfl B4.flat]
end Law

set_option maxHeartbeats 4000000
namespace Law
open PySem Rf L2
theorem lc_inv {α : Type} {φ : α → D} {k : Nat} {te : EM} {e0 : AE} {ds : List D} (Q : Nat → List D → AH → Prop) : ∀ (r : List α) (i : Nat) (acc : List D) (h : AH), ds.drop i = r.map φ → acc.length + r.length ≤ sizeLine → Q i acc h →
    (∀ (j : Nat) (x : α) (acc : List D) (h : AH), r[j]? = some x → Q (i + j) acc h → ∃ d h', te (e0.set k (some (φ x))) h = .ok d h' ∧ Q (i + j + 1) (acc ++ [d]) h') →
    ∃ acc' h', lcN (stat ds) (gVar k) (eC (.bl true)) te e0 (r.length + 1) i acc h = .inr (acc', h') ∧ Q (i + r.length) acc' h'
  | [], i, acc, h, hd, _, q, _ => by
    have hi : ds[i]? = none := by
      have q : ds.length - i = 0 := by simpa using congrArg List.length hd
      have : ds.length ≤ i := by omega
      exact List.getElem?_eq_none_iff.mpr this
    refine ⟨acc, h, ?_, q⟩
    unfold lcN
    simp [stat, hi]
  | x :: r, i, acc, h, hd, hl, q, st => by
    obtain ⟨hi, hr⟩ := drop_cons (show ds.drop i = φ x :: r.map φ from hd)
    rw [List.length_cons] at hl ⊢
    obtain ⟨d, h1, e1, q1⟩ := st 0 x acc h rfl q
    obtain ⟨acc', h', e2, q2⟩ := lc_inv (φ := φ) (k := k) (te := te) (e0 := e0) (ds := ds) Q r (i + 1) (acc ++ [d]) h1 hr (by simp; omega) q1 fun j y acc h hy hq => by
      have hq' : Q (i + (j + 1)) acc h := by rwa [show i + (j + 1) = i + 1 + j by omega]
      obtain ⟨d, h', e, q⟩ := st (j + 1) y acc h (by simpa using hy) hq'
      exact ⟨d, h', e, by rwa [show i + 1 + j + 1 = i + (j + 1) + 1 by omega]⟩
    refine ⟨acc', h', ?_, by rwa [show i + (r.length + 1) = i + 1 + r.length by omega]⟩
    unfold lcN
    simp only [stat, hi, gVar_, eC_, e1]
    rw [if_pos (show FitsL acc.length from (by omega : acc.length < sizeLine))]
    exact e2
theorem eLc_inv {α : Type} {φ : α → D} {k : Nat} {mi : IM} {te : EM} {vs : List Nat} {e : AE} {h h1 : AH} (xs : List α) (hm : mi e h = .ok (stat (xs.map φ)) h1) (hn : xs.length ≤ 1000) (Q : Nat → List D → AH → Prop) (q : Q 0 [] h1)
    (st : ∀ (i : Nat) (x : α) (acc : List D) (h : AH), xs[i]? = some x → Q i acc h → ∃ d h', te ((wipeE e vs).set k (some (φ x))) h = .ok d h' ∧ Q (i + 1) (acc ++ [d]) h') :
    ∃ acc h', eLc mi (gVar k) (eC (.bl true)) te vs e h = .ok (.ref h'.length) (h' ++ [.lst acc]) ∧ Q xs.length acc h' := by
  obtain ⟨acc, h', e1, q1⟩ := lc_inv (φ := φ) (k := k) (te := te) (e0 := wipeE e vs) (ds := xs.map φ) Q xs 0 [] h1 rfl (by rw [sizeLine_eq]; simp; omega) q fun j x acc h hx hq => by
    rw [Nat.zero_add] at hq ⊢
    exact st j x acc h hx hq
  refine ⟨acc, h', ?_, by simpa using q1⟩
  unfold eLc
  rw [hm]
  have hn : (stat (xs.map φ)).n = xs.length := by simp [stat]
  simp only [hn, e1]
theorem sqE {a b : SM} {e e1 : AE} {h h1 : AH} {d : D} (ha : a e h = .nx e1 h1) (hb : ∃ h', b e1 h1 = .rt d h') : ∃ h', sSeq a b e h = .rt d h' := by
  obtain ⟨h', q⟩ := hb
  exact ⟨h', by rw [sSeq_, ha]; exact q⟩
theorem ifTake {i N : Nat} {c c2 s : Int} {e : AE} {o : AO} {g : AH} {v : Nat} (e1 : e[1]? = some (some (.ref 0))) (e2 : e[i]? = some (some (dN v))) (B : Bag N o) (hN : N + 2 ≤ 1000000000) (h0 : 0 ≤ c2) (hs : 0 < s) (hs2 : s ≤ 100) :
    ∃ (v' : Nat) (o' : AO), sIf (eOp oEq (eCall (argn 2 c__law_take) (lCons (eVar 1) (lCons (eC (.int 8)) lNil))) (eC (.int c))) (sSet i (eOp oAdd (eC (.int c2)) (eCall (argn 2 c__law_take) (lCons (eVar 1) (lCons (eC (.int s)) lNil))))) sPass e (o :: g) = .nx (e.set i (some (dN v'))) (o' :: g) ∧
      (v' = v ∨ (c2 ≤ v' ∧ v' < c2 + s)) ∧ Bag (N + 2) o' := by
  obtain ⟨d, o1, t1, hd, B1⟩ := take_spec (h := o :: g) (a := 0) (s := 8) rfl B (by omega) (by omega) (by omega)
  obtain ⟨d2, o2, t2, hd2, B2⟩ := take_spec (h := o1 :: g) (a := 0) (s := s) rfl B1 (by omega) hs (by omega)
  simp only [List.set_cons_zero] at t1 t2
  by_cases q : (d : Int) = c
  · refine ⟨(c2 + d2).toNat, o2, ?_, .inr (by omega), B2⟩
    have : dN (c2 + d2).toNat = .int (c2 + d2) := by unfold dN; rw [Int.toNat_of_nonneg (by omega)]
    rw [this]
    simp [e1, t1, t2, q]
  · refine ⟨v, o1, ?_, .inl rfl, B1.mono (by omega)⟩
    rw [set_self e2]
    simp [e1, t1, q]
theorem gc_bl {h h' : AH} {b : Bool} : ∃ h'', gc h (.ok (.bl b) h') = .ok (.bl b) h'' := by
  unfold gc
  dsimp only
  split
  · exact ⟨_, by rw [if_pos (by rfl)]⟩
  · exact ⟨_, rfl⟩
theorem menu_spec {d : Nat} (hd : d < 8) : ∃ m : Nat, 1 ≤ m ∧ m ≤ 6 ∧ ∀ h, ixD [.int 2, .int 3, .int 4, .int 5, .int 3, .int 4, .int 5, .int 1] (d : Int) h = .ok (dN m) h := by
  have : d = 0 ∨ d = 1 ∨ d = 2 ∨ d = 3 ∨ d = 4 ∨ d = 5 ∨ d = 6 ∨ d = 7 := by omega
  rcases this with rfl | rfl | rfl | rfl | rfl | rfl | rfl | rfl
  · exact ⟨2, by decide, by decide, fun h => ixD_some rfl⟩
  · exact ⟨3, by decide, by decide, fun h => ixD_some rfl⟩
  · exact ⟨4, by decide, by decide, fun h => ixD_some rfl⟩
  · exact ⟨5, by decide, by decide, fun h => ixD_some rfl⟩
  · exact ⟨3, by decide, by decide, fun h => ixD_some rfl⟩
  · exact ⟨4, by decide, by decide, fun h => ixD_some rfl⟩
  · exact ⟨5, by decide, by decide, fun h => ixD_some rfl⟩
  · exact ⟨1, by decide, by decide, fun h => ixD_some rfl⟩
theorem law_true (ns : List Int) (hl : ns.length ≤ 63) : ∃ h', c_law [.rol (ns.map D.int)] [] = .ok (.bl true) h' := by
  suffices H : ∃ h', m_law [some (.rol (ns.map D.int)), none, none, none, none, none, none, none, none, none, none, none, none, none, none, none, none, none] [] = .rt (.bl true) h' by
    obtain ⟨h', e⟩ := H
    obtain ⟨h2, e2⟩ := gc_bl (h := []) (h' := h') (b := true)
    refine ⟨h2, ?_⟩
    rw [← e2]
    unfold c_law fsem
    rw [show ([D.rol (ns.map D.int)].map some ++ List.replicate (18 - [D.rol (ns.map D.int)].length) none : AE) = [some (.rol (ns.map D.int)), none, none, none, none, none, none, none, none, none, none, none, none, none, none, none, none, none] from rfl, e]
    rfl
  obtain ⟨X, hX⟩ : ∃ X, X = D.rol (ns.map D.int) := ⟨_, rfl⟩
  rw [← hX]
  have bagS : ∀ (k : Nat) (h : AH), k ≤ 100 → ∃ o, c__law_bag [X, .int (k : Nat)] h = .ok (.ref h.length) (h ++ [o]) ∧ Bag 6400 o := fun k h hk => by rw [hX]; exact bag_spec hl hk
  -- the bag
  obtain ⟨o0, b0, B0⟩ := bagS 0 [] (by omega)
  obtain ⟨d1, o1, t1, hd1, B1⟩ := take_spec (h := [o0, .lst [.int 2, .int 3, .int 4, .int 5, .int 3, .int 4, .int 5, .int 1]]) (a := 0) (s := 8) rfl B0 (by omega) (by omega) (by omega)
  obtain ⟨m, m1, m2, mm⟩ := menu_spec (d := d1) (by omega)
  simp only [List.set_cons_zero] at t1
  obtain ⟨n, o2, i2, hn, B2⟩ := ifTake (i := 2) (c := 3) (c2 := 6) (s := 19) (g := [.lst [.int 2, .int 3, .int 4, .int 5, .int 3, .int 4, .int 5, .int 1]]) (e := [some X, some (.ref 0), some (dN m), none, none, none, none, none, none, none, none, none, none, none, none, none, none, none]) (v := m) rfl rfl B1 (by omega) (by omega) (by omega) (by omega)
  have n1 : 1 ≤ n := by omega
  have n2 : n ≤ 24 := by omega
  obtain ⟨g0, hg0⟩ : ∃ g : AH, g = [.lst [.int 2, .int 3, .int 4, .int 5, .int 3, .int 4, .int 5, .int 1]] := ⟨_, rfl⟩
  rw [← hg0] at i2
  obtain ⟨p0, o3, t3, hp0, B3⟩ := take_spec (h := o2 :: g0) (a := 0) (s := 4) rfl B2 (by omega) (by omega) (by omega)
  simp only [List.set_cons_zero] at t3
  obtain ⟨np, o4, i4, hnp, B4⟩ := ifTake (i := 3) (c := 5) (c2 := 4) (s := 5) (g := g0) (e := [some X, some (.ref 0), some (dN n), some (dN p0), none, none, none, none, none, none, none, none, none, none, none, none, none, none]) (v := p0) rfl rfl B3 (by omega) (by omega) (by omega) (by omega)
  have np2 : np ≤ 8 := by omega
  obtain ⟨q0, o5, t5, hq0, B5⟩ := take_spec (h := o4 :: g0) (a := 0) (s := 5) rfl B4 (by omega) (by omega) (by omega)
  simp only [List.set_cons_zero] at t5
  obtain ⟨nq, o6, i6, hnq, B6⟩ := ifTake (i := 4) (c := 1) (c2 := 5) (s := 4) (g := g0) (e := [some X, some (.ref 0), some (dN n), some (dN np), some (dN q0), none, none, none, none, none, none, none, none, none, none, none, none, none]) (v := q0) rfl rfl B5 (by omega) (by omega) (by omega) (by omega)
  have nq2 : nq ≤ 8 := by omega
  obtain ⟨bd, o7, t7, hbd, B7⟩ := take_spec (h := o6 :: g0) (a := 0) (s := 2) rfl B6 (by omega) (by omega) (by omega)
  simp only [List.set_cons_zero] at t7
  obtain ⟨bl, hbl⟩ : ∃ bl, bl = (bd == 1) := ⟨_, rfl⟩
  -- the partition
  obtain ⟨ob, b8, B8⟩ := bagS 1 (o7 :: g0) (by omega)
  obtain ⟨L, ob', t8, lL, CL_, _⟩ := partition_spec (h := (o7 :: g0) ++ [ob]) (a := (o7 :: g0).length) (n := n) (by simp) B8 n1 (by omega) (by omega)
  obtain ⟨g1, hg1⟩ : ∃ g1, ((o7 :: g0) ++ [ob]).set (o7 :: g0).length ob' = o7 :: g1 := ⟨g0 ++ [ob'], by simp⟩
  rw [hg1] at t8
  -- the perms
  obtain ⟨ac1, h1, l1, ps, g2, rfl, rfl, lps, Pps⟩ := eLc_inv (φ := dN) (k := 8) (vs := [8]) (mi := iRange1 (lCons (eVar 3) lNil)) (te := eCall (argn 3 c__law_moving) (lCons (eCall (argn 2 c__law_bag) (lCons (eVar 0) (lCons (eOp oAdd (eC (.int 2)) (eVar 8)) lNil))) (lCons (eVar 6) (lCons (eVar 5) lNil))))
    (e := [some X, some (.ref 0), some (dN n), some (dN np), some (dN nq), some (.bl bl), some (.tup (L.map dN)), none, none, none, none, none, none, none, none, none, none, none]) (h := o7 :: g1) (List.range np) (iRange1_nat (by simp) (by omega)) (by simp; omega)
    (fun i acc h' => ∃ ps g, acc = ps.map dC ∧ h' = o7 :: g ∧ ps.length = i ∧ ∀ p ∈ ps, IsP n p)
    ⟨[], g1, rfl, rfl, rfl, fun p hp => absurd hp (by simp)⟩ (by
      rintro i x acc h' hx ⟨ps, g, rfl, rfl, lps, Pps⟩
      have hi : i < np := by have := (List.getElem?_eq_some_iff.mp hx).1; simpa using this
      obtain rfl : i = x := by rw [List.getElem?_range hi] at hx; exact Option.some.inj hx
      obtain ⟨ob, b8, B8⟩ := bagS (2 + i) (o7 :: g) (by omega)
      obtain ⟨p, ob', t8, P, _⟩ := moving_spec CL_ lL n1 (by omega) (h := (o7 :: g) ++ [ob]) (a := (o7 :: g).length) (by simp) B8 (by omega) bl
      obtain ⟨g1, hg1⟩ : ∃ g1, ((o7 :: g) ++ [ob]).set (o7 :: g).length ob' = o7 :: g1 := ⟨g ++ [ob'], by simp⟩
      rw [hg1] at t8
      refine ⟨dC p, o7 :: g1, ?_, ps ++ [p], g1, by simp, rfl, by simp [lps], fun q hq => ?_⟩
      · have b8' : c__law_bag [X, .int (2 + (i : Int))] (o7 :: g) = .ok (.ref (o7 :: g).length) (o7 :: g ++ [ob]) := b8
        generalize o7 :: g ++ [ob] = Hb at b8' t8
        generalize hlen : (o7 :: g).length = ln at b8' t8
        simp [wipeE, b8', t8, dC]
      · rcases List.mem_append.mp hq with hq | hq
        · exact Pps q hq
        · rw [List.mem_singleton] at hq; subst hq; exact P)
  rw [List.length_range] at lps
  -- the pairs
  obtain ⟨ac2, h2, l2, prs, g3, rfl, rfl, lpr, Ppr⟩ := eLc_inv (φ := dN) (k := 8) (vs := [8]) (mi := iRange1 (lCons (eVar 4) lNil)) (te := eCall (argn 3 c__law_pair) (lCons (eCall (argn 2 c__law_bag) (lCons (eVar 0) (lCons (eOp oAdd (eC (.int 10)) (eVar 8)) lNil))) (lCons (eVar 6) (lCons (eVar 5) lNil))))
    (e := [some X, some (.ref 0), some (dN n), some (dN np), some (dN nq), some (.bl bl), some (.tup (L.map dN)), some (.tup (ps.map dC)), none, none, none, none, none, none, none, none, none, none]) (h := o7 :: (g2 ++ [.lst (ps.map dC)])) (List.range nq) (iRange1_nat (by simp) (by omega)) (by simp; omega)
    (fun i acc h' => ∃ prs g, acc = prs.map dP ∧ h' = o7 :: g ∧ prs.length = i ∧ ∀ x ∈ prs, x.1 < n ∧ x.2 < n)
    ⟨[], g2 ++ [.lst (ps.map dC)], rfl, rfl, rfl, fun p hp => absurd hp (by simp)⟩ (by
      rintro i x acc h' hx ⟨prs, g, rfl, rfl, lps, Pps⟩
      have hi : i < nq := by have := (List.getElem?_eq_some_iff.mp hx).1; simpa using this
      obtain rfl : i = x := by rw [List.getElem?_range hi] at hx; exact Option.some.inj hx
      obtain ⟨ob, b8, B8⟩ := bagS (10 + i) (o7 :: g) (by omega)
      obtain ⟨x, ob', t8, x1, x2, _⟩ := pair_spec CL_ lL n1 (by omega) (h := (o7 :: g) ++ [ob]) (a := (o7 :: g).length) (by simp) B8 (by omega) bl
      obtain ⟨g1, hg1⟩ : ∃ g1, ((o7 :: g) ++ [ob]).set (o7 :: g).length ob' = o7 :: g1 := ⟨g ++ [ob'], by simp⟩
      rw [hg1] at t8
      refine ⟨dP x, o7 :: g1, ?_, prs ++ [x], g1, by simp, rfl, by simp [lps], fun q hq => ?_⟩
      · have b8' : c__law_bag [X, .int (10 + (i : Int))] (o7 :: g) = .ok (.ref (o7 :: g).length) (o7 :: g ++ [ob]) := b8
        generalize o7 :: g ++ [ob] = Hb at b8' t8
        generalize hlen : (o7 :: g).length = ln at b8' t8
        simp [wipeE, b8', t8]
      · rcases List.mem_append.mp hq with hq | hq
        · exact Pps q hq
        · rw [List.mem_singleton] at hq; subst hq; exact ⟨x1, x2⟩)
  rw [List.length_range] at lpr
  obtain ⟨g4, hg4⟩ : ∃ g4, g4 = g3 ++ [.lst (prs.map dP)] := ⟨_, rfl⟩
  have I : Inp n ps prs := ⟨n1, by omega, Pps, Ppr, by omega, by omega⟩
  have hrl : prs.length ≤ 100 := by omega
  obtain ⟨K, cK, AK⟩ := closure_spec I (h := o7 :: g4)
  obtain ⟨R, cR, AR⟩ := least_blocks_spec I (h := o7 :: g4)
  have eRK : R = K := AR.uniq AK
  subst eRK
  have lR := AR.len
  have w1 : ∀ h, c__law_is_row [.tup (R.map dN), .tup (R.map dN)] h = .ok (.bl true) h := fun h => row_spec (by omega) (by simp) (fun i hi => by
    have x : ∀ h, ixD (R.map dN) (i : Int) h = .ok (dN (R.getD i 0)) h := fun h => ixD_N hi
    simpa using x h)
  have cut : ∀ (o ob ob' : AO) (g : AH), ((o :: g) ++ [ob]).set (o :: g).length ob' = o :: (g ++ [ob']) := fun o ob ob' g => by simp
  -- lone
  obtain ⟨oa, a1, A1⟩ := bagS 26 (o7 :: g4) (by omega)
  obtain ⟨oa', a2, _⟩ := lone_spec I (h := (o7 :: g4) ++ [oa]) (a := (o7 :: g4).length) (by simp) A1 (by omega)
  rw [cut] at a2
  obtain ⟨g5, hg5⟩ : ∃ g5, g5 = g4 ++ [oa'] := ⟨_, rfl⟩
  rw [← hg5] at a2
  -- drawn
  obtain ⟨oc, c1, C1⟩ := bagS 20 (o7 :: g5) (by omega)
  obtain ⟨ls, oc', es, c2, l0, l1', gl, rd, _⟩ := drawn_spec I (h := (o7 :: g5) ++ [oc]) (a := (o7 :: g5).length) (by simp) C1 (by omega)
  rw [cut] at c2
  obtain ⟨g6, hg6⟩ : ∃ g6, g6 = g5 ++ [oc'] := ⟨_, rfl⟩
  rw [← hg6] at c2
  have en : ∃ x, endsOf n ps prs (.tup ls) = some x := by
    have lne := readAll_len rd
    cases ls with
    | nil => exact absurd l0 (by simp)
    | cons l ls =>
      refine ⟨es.getD (es.length - 1) (0, 0), ?_⟩
      show (readAll n ps prs (l :: ls) []).bind _ = _
      rw [rd, Option.bind_some, last_at (by rw [lne]; simp)]
  obtain ⟨xe, en⟩ := en
  -- bends
  obtain ⟨od, d1, D1⟩ := bagS 21 (o7 :: g6) (by omega)
  obtain ⟨od', d2, _⟩ := bends_spec I (h := (o7 :: g6) ++ [od]) (a := (o7 :: g6).length) (by simp) D1 (by omega) l0 (by omega) gl en
  rw [cut] at d2
  obtain ⟨g7, hg7⟩ : ∃ g7, g7 = g6 ++ [od'] := ⟨_, rfl⟩
  rw [← hg7] at d2
  -- asked
  obtain ⟨oe, e1, E1⟩ := bagS 24 (o7 :: g7) (by omega)
  obtain ⟨ts, oe', e2, tlt, _⟩ := asked_spec n1 (by omega) (h := (o7 :: g7) ++ [oe]) (a := (o7 :: g7).length) (by simp) E1 (by omega)
  rw [cut] at e2
  obtain ⟨g8, hg8⟩ : ∃ g8, g8 = g7 ++ [oe'] ++ [.lst (ts.map dP)] := ⟨_, rfl⟩
  have e2' : c__law_asked [.ref (o7 :: g7).length, dN n] (o7 :: g7 ++ [oe]) = .ok (.ref (o7 :: g7 ++ [oe]).length) (o7 :: g8) := by rw [e2, hg8]; simp
  have gr : (o7 :: g8)[(o7 :: g7 ++ [oe]).length]? = some (.lst (ts.map dP)) := by rw [hg8]; simp
  generalize hrq : (o7 :: g7 ++ [oe]).length = rq at e2' gr
  have lp : ∃ x12, liveL rq (ts.map dP) (gVar 12) lb_law_1 [some X, some (.ref 0), some (dN n), some (dN np), some (dN nq), some (.bl bl), some (.tup (L.map dN)), some (.tup (ps.map dC)), none, some (.tup (prs.map dP)), some (.tup (R.map dN)), some (.tup ls), none, none, none, none, none, none] (o7 :: g8) = .nx [some X, some (.ref 0), some (dN n), some (dN np), some (dN nq), some (.bl bl), some (.tup (L.map dN)), some (.tup (ps.map dC)), none, some (.tup (prs.map dP)), some (.tup (R.map dN)), some (.tup ls), x12, none, none, none, none, none] (o7 :: g8) := by
    obtain ⟨e', h', w, x12, rfl, rfl⟩ := liveL_inv (g := gVar 12) (b := lb_law_1) (r := rq) (ds := ts.map dP)
      (fun k e h' => ∃ x12, e = [some X, some (.ref 0), some (dN n), some (dN np), some (dN nq), some (.bl bl), some (.tup (L.map dN)), some (.tup (ps.map dC)), none, some (.tup (prs.map dP)), some (.tup (R.map dN)), some (.tup ls), x12, none, none, none, none, none] ∧ o7 :: g8 = h') (e := [some X, some (.ref 0), some (dN n), some (dN np), some (dN nq), some (.bl bl), some (.tup (L.map dN)), some (.tup (ps.map dC)), none, some (.tup (prs.map dP)), some (.tup (R.map dN)), some (.tup ls), none, none, none, none, none, none]) (h := o7 :: g8)
      (by rintro k e h' ⟨_, rfl, rfl⟩; exact gr) ⟨none, rfl, rfl⟩ (by
        rintro k t e h' ht ⟨x12, rfl, rfl⟩
        rw [List.getElem?_map] at ht
        obtain ⟨⟨p, q⟩, hx, rfl⟩ := Option.map_eq_some_iff.mp ht
        have lt := tlt _ (List.mem_of_getElem? hx)
        have tw := two_spec I AR lt.1 lt.2 (h := o7 :: g8)
        refine ⟨_, _, ?_, some (dP (p, q)), rfl, rfl⟩
        generalize o7 :: g8 = H at tw
        simp only [dN] at tw
        simp [lb_law_1, dP, dN, tw])
    exact ⟨x12, w⟩
  obtain ⟨x12, lp⟩ := lp
  -- a pair that is joined
  obtain ⟨i, o8, t8', hi, B8'⟩ := take_spec (h := o7 :: g8) (a := 0) (s := (n : Int)) rfl B7 (by omega) (by omega) (by omega)
  simp only [List.set_cons_zero] at t8'
  have hi2 : i < n := by omega
  have xR : ∀ x h, x < n → ixD (R.map dN) (x : Int) h = .ok (dN (R.getD x 0)) h := fun x h hx => ixD_N (by omega)
  have l3 : lc_law_3 [some X, some (.ref 0), some (dN n), some (dN np), some (dN nq), some (.bl bl), some (.tup (L.map dN)), some (.tup (ps.map dC)), none, some (.tup (prs.map dP)), some (.tup (R.map dN)), some (.tup ls), x12, some (dN i), none, none, none, none] (o8 :: g8) = .ok (.ref (o8 :: g8).length) (o8 :: g8 ++ [.lst (((List.range n).filter fun x => R.getD x 0 == R.getD i 0).map dN)]) := by
    unfold lc_law_3
    rw [eLc_pure (φ := dN) (List.range n) (fun x => R.getD x 0 == R.getD i 0) dN (h1 := o8 :: g8) (iRange1_nat (by simp) (by omega)) (by rw [List.length_range, sizeLine_eq]; omega)]
    · intro k hk
      rw [List.mem_range] at hk
      have x1 := fun h => xR k h hk
      have x2 := fun h => xR i h hi2
      simp only [dN] at x1 x2
      simp [wipeE, x1, x2, dN, -List.getD_eq_getElem?_getD]
    · intro k hk _
      simp [wipeE]
  have hF : ∀ x ∈ (List.range n).filter (fun x => R.getD x 0 == R.getD i 0), x < n ∧ R.getD x 0 = R.getD i 0 := fun x hx => by
    have := List.mem_filter.mp hx
    exact ⟨List.mem_range.mp this.1, by simpa using this.2⟩
  have hF0 : 0 < ((List.range n).filter fun x => R.getD x 0 == R.getD i 0).length := List.length_pos_of_mem (List.mem_filter.mpr ⟨List.mem_range.mpr hi2, by simp⟩)
  have hFl : ((List.range n).filter fun x => R.getD x 0 == R.getD i 0).length ≤ n := Nat.le_trans (List.length_filter_le _ _) (by simp)
  generalize ((List.range n).filter fun x => R.getD x 0 == R.getD i 0) = F at l3 hF hF0 hFl
  obtain ⟨g9, hg9⟩ : ∃ g9, g9 = g8 ++ [.lst (F.map dN)] := ⟨_, rfl⟩
  have l3' : lc_law_3 [some X, some (.ref 0), some (dN n), some (dN np), some (dN nq), some (.bl bl), some (.tup (L.map dN)), some (.tup (ps.map dC)), none, some (.tup (prs.map dP)), some (.tup (R.map dN)), some (.tup ls), x12, some (dN i), none, none, none, none] (o8 :: g8) = .ok (.ref (o8 :: g8).length) (o8 :: g9) := by rw [l3, hg9]; rfl
  obtain ⟨u, o9, t9, hu, B9⟩ := take_spec (h := o8 :: g9) (a := 0) (s := (F.length : Int)) rfl B8' (by omega) (by omega) (by omega)
  simp only [List.set_cons_zero] at t9
  have hu2 : u < F.length := by omega
  obtain ⟨fj, ej⟩ := hF _ (getD_mem (d := 0) hu2)
  have gF : ∀ o, (o :: g9)[(o8 :: g8).length]? = some (.lst (F.map dN)) := fun o => by rw [hg9]; simp
  have xF : ∀ h, ixD (F.map dN) (u : Int) h = .ok (dN (F.getD u 0)) h := fun h => ixD_N hu2
  generalize F.getD u 0 = j at fj ej xF
  rcases reason_spec I AR hi2 fj (h := o9 :: g9) with ⟨ne, _⟩ | ⟨_, lz, r1, gz, z0, z1, ez⟩
  · exact absurd ej.symm ne
  generalize hq13 : (o8 :: g8).length = q13 at gF l3'
  -- bends again
  obtain ⟨of, f1, F1⟩ := bagS 22 (o9 :: g9) (by omega)
  obtain ⟨of', f2, _⟩ := bends_spec I (h := (o9 :: g9) ++ [of]) (a := (o9 :: g9).length) (by simp) F1 (by omega) z0 z1 gz ez
  rw [cut] at f2
  obtain ⟨g10, hg10⟩ : ∃ g10, g10 = g9 ++ [of'] := ⟨_, rfl⟩
  rw [← hg10] at f2
  -- other labels
  obtain ⟨oh, h1', H1⟩ := bagS 25 (o9 :: g10) (by omega)
  obtain ⟨O, oh', h2', lO, _, _⟩ := partition_spec (h := (o9 :: g10) ++ [oh]) (a := (o9 :: g10).length) (n := n) (by simp) H1 n1 (by omega) (by omega)
  rw [cut] at h2'
  obtain ⟨g11, hg11⟩ : ∃ g11, g11 = g10 ++ [oh'] := ⟨_, rfl⟩
  rw [← hg11] at h2'
  obtain ⟨oi, i1', I1⟩ := bagS 23 (o9 :: g11) (by omega)
  obtain ⟨oi', i2', _⟩ := parts_hold_spec I hrl lR lO (h := (o9 :: g11) ++ [oi]) (a := (o9 :: g11).length) (by simp) I1 (by omega)
  -- the run
  unfold m_law
  refine sqE (e1 := [some X, some (.ref 0), none, none, none, none, none, none, none, none, none, none, none, none, none, none, none, none]) (h1 := [o0]) (by
    have b0' : c__law_bag [X, .int 0] [] = .ok (.ref 0) [o0] := b0
    simp [b0']) ?_
  refine sqE (e1 := [some X, some (.ref 0), some (dN m), none, none, none, none, none, none, none, none, none, none, none, none, none, none, none]) (h1 := o1 :: g0) (by
    rw [hg0]
    simp [t1, mm]) ?_
  refine sqE i2 ?_
  refine sqE (e1 := [some X, some (.ref 0), some (dN n), some (dN p0), none, none, none, none, none, none, none, none, none, none, none, none, none, none]) (h1 := o3 :: g0) (by simp [t3]) ?_
  refine sqE i4 ?_
  refine sqE (e1 := [some X, some (.ref 0), some (dN n), some (dN np), some (dN q0), none, none, none, none, none, none, none, none, none, none, none, none, none]) (h1 := o5 :: g0) (by simp [t5]) ?_
  refine sqE i6 ?_
  refine sqE (e1 := [some X, some (.ref 0), some (dN n), some (dN np), some (dN nq), some (.bl bl), none, none, none, none, none, none, none, none, none, none, none, none]) (h1 := o7 :: g0) (by
    have := oEq_N bd 1 (o7 :: g0)
    rw [← hbl] at this
    have this2 : oEq (.int (bd : Int)) (.int 1) (o7 :: g0) = .ok (.bl bl) (o7 :: g0) := this
    simp only [List.set_cons_succ, List.set_cons_zero, sSet_, eOp_, eCall_, lCons_, lNil_, eVar_, eC_, List.getElem?_cons_succ, List.getElem?_cons_zero, thenL_ok, lrcons_ok, lthen_ok, then_ok]
    rw [argn_ok 2 _ _ _ rfl, t7]
    simp only [then_ok, this2, thenS_ok]) ?_
  refine sqE (e1 := [some X, some (.ref 0), some (dN n), some (dN np), some (dN nq), some (.bl bl), some (.tup (L.map dN)), none, none, none, none, none, none, none, none, none, none, none]) (h1 := o7 :: g1) (by
    have b8' : c__law_bag [X, .int 1] (o7 :: g0) = .ok (.ref (o7 :: g0).length) (o7 :: g0 ++ [ob]) := b8
    generalize o7 :: g0 ++ [ob] = Hb at b8' t8
    generalize (o7 :: g0).length = ln at b8' t8
    simp [b8', t8]) ?_
  refine sqE (e1 := [some X, some (.ref 0), some (dN n), some (dN np), some (dN nq), some (.bl bl), some (.tup (L.map dN)), some (.tup (ps.map dC)), none, none, none, none, none, none, none, none, none, none]) (h1 := o7 :: (g2 ++ [.lst (ps.map dC)])) (by
    unfold lc_law_1
    simp [l1]) ?_
  refine sqE (e1 := [some X, some (.ref 0), some (dN n), some (dN np), some (dN nq), some (.bl bl), some (.tup (L.map dN)), some (.tup (ps.map dC)), none, some (.tup (prs.map dP)), none, none, none, none, none, none, none, none]) (h1 := o7 :: g4) (by
    unfold lc_law_2
    simp [l2, hg4]) ?_
  refine sqE (e1 := [some X, some (.ref 0), some (dN n), some (dN np), some (dN nq), some (.bl bl), some (.tup (L.map dN)), some (.tup (ps.map dC)), none, some (.tup (prs.map dP)), some (.tup (R.map dN)), none, none, none, none, none, none, none]) (h1 := o7 :: g4) (by
    simp [cK]) ?_
  refine sqE (e1 := [some X, some (.ref 0), some (dN n), some (dN np), some (dN nq), some (.bl bl), some (.tup (L.map dN)), some (.tup (ps.map dC)), none, some (.tup (prs.map dP)), some (.tup (R.map dN)), none, none, none, none, none, none, none]) (h1 := o7 :: g4) (by
    simp [cR, w1]) ?_
  refine sqE (e1 := [some X, some (.ref 0), some (dN n), some (dN np), some (dN nq), some (.bl bl), some (.tup (L.map dN)), some (.tup (ps.map dC)), none, some (.tup (prs.map dP)), some (.tup (R.map dN)), none, none, none, none, none, none, none]) (h1 := o7 :: g5) (by
    have b' : c__law_bag [X, .int 26] (o7 :: g4) = .ok (.ref (o7 :: g4).length) (o7 :: g4 ++ [oa]) := a1
    generalize o7 :: g4 ++ [oa] = Hb at b' a2
    generalize (o7 :: g4).length = ln at b' a2
    simp only [dN] at a2
    simp [dN, b', a2]) ?_
  refine sqE (e1 := [some X, some (.ref 0), some (dN n), some (dN np), some (dN nq), some (.bl bl), some (.tup (L.map dN)), some (.tup (ps.map dC)), none, some (.tup (prs.map dP)), some (.tup (R.map dN)), some (.tup ls), none, none, none, none, none, none]) (h1 := o7 :: g6) (by
    have b' : c__law_bag [X, .int 20] (o7 :: g5) = .ok (.ref (o7 :: g5).length) (o7 :: g5 ++ [oc]) := c1
    generalize o7 :: g5 ++ [oc] = Hb at b' c2
    generalize (o7 :: g5).length = ln at b' c2
    simp only [dN] at c2
    simp [dN, b', c2]) ?_
  refine sqE (e1 := [some X, some (.ref 0), some (dN n), some (dN np), some (dN nq), some (.bl bl), some (.tup (L.map dN)), some (.tup (ps.map dC)), none, some (.tup (prs.map dP)), some (.tup (R.map dN)), some (.tup ls), none, none, none, none, none, none]) (h1 := o7 :: g7) (by
    have b' : c__law_bag [X, .int 21] (o7 :: g6) = .ok (.ref (o7 :: g6).length) (o7 :: g6 ++ [od]) := d1
    generalize o7 :: g6 ++ [od] = Hb at b' d2
    generalize (o7 :: g6).length = ln at b' d2
    simp only [dN] at d2
    simp [dN, b', d2]) ?_
  refine sqE (e1 := [some X, some (.ref 0), some (dN n), some (dN np), some (dN nq), some (.bl bl), some (.tup (L.map dN)), some (.tup (ps.map dC)), none, some (.tup (prs.map dP)), some (.tup (R.map dN)), some (.tup ls), x12, none, none, none, none, none]) (h1 := o7 :: g8) (by
    have b' : c__law_bag [X, .int 24] (o7 :: g7) = .ok (.ref (o7 :: g7).length) (o7 :: g7 ++ [oe]) := e1
    generalize o7 :: g7 ++ [oe] = Hb at b' e2'
    generalize (o7 :: g7).length = ln at b' e2'
    generalize o7 :: g8 = H8 at *
    simp only [dN] at e2' lp
    simp [dN, b', e2', gr, lp]) ?_
  refine sqE (e1 := [some X, some (.ref 0), some (dN n), some (dN np), some (dN nq), some (.bl bl), some (.tup (L.map dN)), some (.tup (ps.map dC)), none, some (.tup (prs.map dP)), some (.tup (R.map dN)), some (.tup ls), x12, some (dN i), none, none, none, none]) (h1 := o8 :: g8) (by
    simp [dN, t8']) ?_
  refine sqE (e1 := [some X, some (.ref 0), some (dN n), some (dN np), some (dN nq), some (.bl bl), some (.tup (L.map dN)), some (.tup (ps.map dC)), none, some (.tup (prs.map dP)), some (.tup (R.map dN)), some (.tup ls), x12, some (dN i), some (.ref q13), none, none, none]) (h1 := o8 :: g9) (by
    simp [l3']) ?_
  refine sqE (e1 := [some X, some (.ref 0), some (dN n), some (dN np), some (dN nq), some (.bl bl), some (.tup (L.map dN)), some (.tup (ps.map dC)), none, some (.tup (prs.map dP)), some (.tup (R.map dN)), some (.tup ls), x12, some (dN i), some (.ref q13), none, some (.tup lz), none]) (h1 := o9 :: g9) (by
    simp only [dN] at r1 xF
    have gF8 := gF o8
    have gF9 := gF o9
    generalize o8 :: g9 = H8 at *
    generalize o9 :: g9 = H9 at *
    simp [dN, gF8, gF9, t9, xF, r1]) ?_
  refine sqE (e1 := [some X, some (.ref 0), some (dN n), some (dN np), some (dN nq), some (.bl bl), some (.tup (L.map dN)), some (.tup (ps.map dC)), none, some (.tup (prs.map dP)), some (.tup (R.map dN)), some (.tup ls), x12, some (dN i), some (.ref q13), none, some (.tup lz), none]) (h1 := o9 :: g10) (by
    have b' : c__law_bag [X, .int 22] (o9 :: g9) = .ok (.ref (o9 :: g9).length) (o9 :: g9 ++ [of]) := f1
    generalize o9 :: g9 ++ [of] = Hb at b' f2
    generalize (o9 :: g9).length = ln at b' f2
    simp only [dN] at f2
    simp [dN, b', f2]) ?_
  refine sqE (e1 := [some X, some (.ref 0), some (dN n), some (dN np), some (dN nq), some (.bl bl), some (.tup (L.map dN)), some (.tup (ps.map dC)), none, some (.tup (prs.map dP)), some (.tup (R.map dN)), some (.tup ls), x12, some (dN i), some (.ref q13), none, some (.tup lz), some (.tup (O.map dN))]) (h1 := o9 :: g11) (by
    have b' : c__law_bag [X, .int 25] (o9 :: g10) = .ok (.ref (o9 :: g10).length) (o9 :: g10 ++ [oh]) := h1'
    generalize o9 :: g10 ++ [oh] = Hb at b' h2'
    generalize (o9 :: g10).length = ln at b' h2'
    simp only [dN] at h2'
    simp [dN, b', h2']) ?_
  refine ⟨((o9 :: g11) ++ [oi]).set (o9 :: g11).length oi', ?_⟩
  have b' : c__law_bag [X, .int 23] (o9 :: g11) = .ok (.ref (o9 :: g11).length) (o9 :: g11 ++ [oi]) := i1'
  generalize o9 :: g11 ++ [oi] = Hb at b' i2'
  generalize (o9 :: g11).length = ln at b' i2'
  simp only [dN] at i2'
  simp [dN, b', i2']
end Law

open PySem PySem.W PyProof.Rows
set_option maxHeartbeats 0 in
theorem PySem.Challenge.cw_tumbler_k12_whole_one_certificate_each_holds : PySem.Challenge.rw_tumbler_k12_whole_one_certificate_each.Holds := by
  w_on; o_law; k_head; (case hw => w_witness2)
  k_fill
  refine L2.walk_of (l := PySem.Challenge.rw_tumbler_k12_whole_one_certificate_each) (n := 63) (k := 7) (x := "script") (CX := fun w => L2.CX PySem.Challenge.rw_tumbler_k12_whole_one_certificate_each.prog w) (sp := fun w => Rf.spLaw _ Law.c_law) rfl (by decide) rfl ⟨rfl, by decide, by decide⟩ (fun w h Y => PySem.W.kIn_of Y) ?F (fun w H a ns hl O S => Rf.spLaw.start O S (Law.law_true ns hl)) (fun _ _ _ _ _ h => Rf.cx_false h)
  case F =>
    intro w mg fa h KX G hmg
    refine' Law.all_mk KX G hmg ?a0 ?l0 ?c0 ?k0 ?a1 ?l1 ?c1 ?k1 ?a2 ?l2 ?c2 ?k2 ?a3 ?l3 ?c3 ?k3 ?a4 ?l4 ?c4 ?k4 ?a5 ?l5 ?c5 ?k5 ?a6 ?l6 ?c6 ?k6 ?a7 ?l7 ?c7 ?k7 ?a8 ?l8 ?c8 ?k8 ?a9 ?l9 ?c9 ?k9 ?a10 ?l10 ?c10 ?k10 ?a11 ?l11 ?c11 ?k11 ?a12 ?l12 ?c12 ?k12 ?a13 ?l13 ?c13 ?k13 ?a14 ?l14 ?c14 ?k14 ?a15 ?l15 ?c15 ?k15 ?a16 ?l16 ?c16 ?k16 ?a17 ?l17 ?c17 ?k17 ?a18 ?l18 ?c18 ?k18 ?a19 ?l19 ?c19 ?k19 ?a20 ?l20 ?c20 ?k20 ?a21 ?l21 ?c21 ?k21 ?a22 ?l22 ?c22 ?k22 ?a23 ?l23 ?c23 ?k23 ?a24 ?l24 ?c24 ?k24 ?a25 ?l25 ?c25 ?k25 ?a26 ?l26 ?c26 ?k26 ?a27 ?l27 ?c27 ?k27 ?a28 ?l28 ?c28 ?k28 ?a29 ?l29 ?c29 ?k29 ?a30 ?l30 ?c30 ?k30 ?a31 ?l31 ?c31 ?k31 ?a32 ?l32 ?c32 ?k32 ?a33 ?l33 ?c33 ?k33 ?a34 ?l34 ?c34 ?k34 ?a35 ?l35 ?c35 ?k35 ?a36 ?l36 ?c36 ?k36 ?a37 ?l37 ?c37 ?k37 ?a38 ?l38 ?c38 ?k38 ?a39 ?l39 ?c39 ?k39 ?a40 ?l40 ?c40 ?k40 ?a41 ?l41 ?c41 ?k41 ?a42 ?l42 ?c42 ?k42 ?a43 ?l43 ?c43 ?k43 ?z0 ?z1 ?z2 ?z3 ?z4 ?z5 ?z6 ?z7 ?z8 ?z9 ?z10 ?z11 ?z12
    (case a0 => k_is); (case l0 => k_is); (case c0 => k_is); (case k0 => k_is); (case a1 => k_is); (case l1 => k_is); (case c1 => k_is); (case k1 => k_is); (case a2 => k_is); (case l2 => k_is); (case c2 => k_is); (case k2 => k_is); (case a3 => k_is); (case l3 => k_is); (case c3 => k_is); (case k3 => k_is); (case a4 => k_is); (case l4 => k_is); (case c4 => k_is); (case k4 => k_is); (case a5 => k_is); (case l5 => k_is); (case c5 => k_is); (case k5 => k_is); (case a6 => k_is); (case l6 => k_is); (case c6 => k_is); (case k6 => k_is); (case a7 => k_is); (case l7 => k_is); (case c7 => k_is); (case k7 => k_is); (case a8 => k_is); (case l8 => k_is); (case c8 => k_is); (case k8 => k_is); (case a9 => k_is); (case l9 => k_is); (case c9 => k_is); (case k9 => k_is); (case a10 => k_is); (case l10 => k_is); (case c10 => k_is); (case k10 => k_is); (case a11 => k_is); (case l11 => k_is); (case c11 => k_is); (case k11 => k_is); (case a12 => k_is); (case l12 => k_is); (case c12 => k_is); (case k12 => k_is); (case a13 => k_is); (case l13 => k_is); (case c13 => k_is); (case k13 => k_is); (case a14 => k_is); (case l14 => k_is); (case c14 => k_is); (case k14 => k_is); (case a15 => k_is); (case l15 => k_is); (case c15 => k_is); (case k15 => k_is); (case a16 => k_is); (case l16 => k_is); (case c16 => k_is); (case k16 => k_is); (case a17 => k_is); (case l17 => k_is); (case c17 => k_is); (case k17 => k_is); (case a18 => k_is); (case l18 => k_is); (case c18 => k_is); (case k18 => k_is); (case a19 => k_is); (case l19 => k_is); (case c19 => k_is); (case k19 => k_is); (case a20 => k_is); (case l20 => k_is); (case c20 => k_is); (case k20 => k_is); (case a21 => k_is); (case l21 => k_is); (case c21 => k_is); (case k21 => k_is); (case a22 => k_is); (case l22 => k_is); (case c22 => k_is); (case k22 => k_is); (case a23 => k_is); (case l23 => k_is); (case c23 => k_is); (case k23 => k_is); (case a24 => k_is); (case l24 => k_is); (case c24 => k_is); (case k24 => k_is); (case a25 => k_is); (case l25 => k_is); (case c25 => k_is); (case k25 => k_is); (case a26 => k_is); (case l26 => k_is); (case c26 => k_is); (case k26 => k_is); (case a27 => k_is); (case l27 => k_is); (case c27 => k_is); (case k27 => k_is); (case a28 => k_is); (case l28 => k_is); (case c28 => k_is); (case k28 => k_is); (case a29 => k_is); (case l29 => k_is); (case c29 => k_is); (case k29 => k_is); (case a30 => k_is); (case l30 => k_is); (case c30 => k_is); (case k30 => k_is); (case a31 => k_is); (case l31 => k_is); (case c31 => k_is); (case k31 => k_is); (case a32 => k_is); (case l32 => k_is); (case c32 => k_is); (case k32 => k_is); (case a33 => k_is); (case l33 => k_is); (case c33 => k_is); (case k33 => k_is); (case a34 => k_is); (case l34 => k_is); (case c34 => k_is); (case k34 => k_is); (case a35 => k_is); (case l35 => k_is); (case c35 => k_is); (case k35 => k_is); (case a36 => k_is); (case l36 => k_is); (case c36 => k_is); (case k36 => k_is); (case a37 => k_is); (case l37 => k_is); (case c37 => k_is); (case k37 => k_is); (case a38 => k_is); (case l38 => k_is); (case c38 => k_is); (case k38 => k_is); (case a39 => k_is); (case l39 => k_is); (case c39 => k_is); (case k39 => k_is); (case a40 => k_is); (case l40 => k_is); (case c40 => k_is); (case k40 => k_is); (case a41 => k_is); (case l41 => k_is); (case c41 => k_is); (case k41 => k_is); (case a42 => k_is); (case l42 => k_is); (case c42 => k_is); (case k42 => k_is); (case a43 => k_is); (case l43 => k_is); (case c43 => k_is); (case k43 => k_is); (case z0 => k_is); (case z1 => k_is); (case z2 => k_is); (case z3 => k_is); (case z4 => k_is); (case z5 => k_is); (case z6 => k_is); (case z7 => k_is); (case z8 => k_is); (case z9 => k_is); (case z10 => k_is); (case z11 => k_is); (case z12 => k_is)
