import PyProof.Rows.All
import Wide.All
import OpenK.AllK
import Wide.FinOn
import HandS.ForMost
import HandS.ForExc
import HandS.IsInst
import HandS.CallSlots
import HandS.TupAny
import HandS.Deep
import HandS.Wide
import HandS.WideBits
import HandS.Text
import HandS.Conv
import HandS.Zip
import HandS.TupMul
import HandS.SortInts
import HandS.RevRange
import HandS.Defaults
import KE.GoesEnum
import KE.GoesMore
import HandS.More
import HandS.Dict
import HandS.Small
import HandS.Style
import HandS.EndBits
import PySem.Challenge.RW_tumbler_k09_orbits_and_ways
set_option Elab.async false
set_option linter.all false
set_option maxRecDepth 100000
set_option maxHeartbeats 1000000
/-! A layer over HandS: plain data D, an abstract heap of lists and dicts by number, and for each construct a plain Lean function. -/
namespace Rf
open PySem PySem.Spec PyProof.Rows L2

/-- a value as plain data; `ref i`: the i-th thing of the abstract heap; `rol`: a list that is only read -/
inductive D where
  | non | bl (b : Bool) | int (i : Int) | str (x : Str) | ty (n : String) | tup (ds : List D) | rol (ds : List D) | ref (i : Nat)

inductive AO where
  | lst (ds : List D)
  | dK (kvs : List (Key × D))
  | dT (kvs : List (List Key × D))
abbrev AH := List AO
abbrev AE := List (Option D)

/-- what an expression ends in -/
inductive ER where
  | ok (d : D) (h : AH)
  | exc (c : Str) (fs : List (Str × D)) (h : AH)
  | stuck
/-- what a statement ends in -/
inductive SR where
  | nx (e : AE) (h : AH)
  | rt (d : D) (h : AH)
  | bk (e : AE) (h : AH)
  | ct (e : AE) (h : AH)
  | exc (c : Str) (fs : List (Str × D)) (e : AE) (h : AH)
  | stuck
/-- what a list of expressions ends in -/
inductive LR where
  | ok (ds : List D) (h : AH)
  | exc (c : Str) (fs : List (Str × D)) (h : AH)
  | stuck

/-- a list that nobody writes -/
def RoL (K : PySem.W.Frag) (H : Hp) (a : Addr) (vs : List V) : Prop :=
  (∃ o, H a = some (.frz o (.lst vs))) ∨ ∃ (o : Obj) (its : Array Value) (n : Nat), K.lookup a = some o ∧ o.cls = .type "list" ∧ o.dict = none ∧ o.data = .seq its n ∧ its.size ≤ sizeLine ∧ Vals vs its.toList
theorem RoL.sq {K : PySem.W.Frag} {H : Hp} {a : Addr} {vs : List V} (h : RoL K H a vs) : SqL K H a vs := by
  rcases h with ⟨o, e⟩ | h
  · exact .inl (.inr ⟨o, e⟩)
  · exact .inr h

mutual
def RD (K : PySem.W.Frag) (ι : Nat → Addr) (n : Nat) (H : Hp) : D → V → Prop
  | .non, v => v = .non
  | .bl b, v => v = .bl b
  | .int i, v => v = .int i
  | .str x, v => v = .str x
  | .ty s, v => v = .ty s
  | .tup ds, v => ∃ a vs, v = .ref a ∧ SqT K H a vs ∧ RDs K ι n H ds vs
  | .rol ds, v => ∃ a vs, v = .ref a ∧ RoL K H a vs ∧ RDs K ι n H ds vs
  | .ref i, v => i < n ∧ v = .ref (ι i)
def RDs (K : PySem.W.Frag) (ι : Nat → Addr) (n : Nat) (H : Hp) : List D → List V → Prop
  | [], vs => vs = []
  | d :: ds, vs => ∃ v r, vs = v :: r ∧ RD K ι n H d v ∧ RDs K ι n H ds r
end
def RO (K : PySem.W.Frag) (ι : Nat → Addr) (n : Nat) (H : Hp) : AO → Addr → Prop
  | .lst ds, a => ∃ vs, H a = some (.lst vs) ∧ RDs K ι n H ds vs
  | .dK kvs, a => ∃ ws, H a = some (.dK ws) ∧ kvs.map (·.1) = ws.map (·.1) ∧ RDs K ι n H (kvs.map (·.2)) (ws.map (·.2))
  | .dT kvs, a => ∃ ws, H a = some (.dT ws) ∧ kvs.map (·.1) = ws.map (·.1) ∧ RDs K ι n H (kvs.map (·.2)) (ws.map (·.2))

structure Rel (K : PySem.W.Frag) (ι : Nat → Addr) (h : AH) (H : Hp) : Prop where
  inj : ∀ i j, i < h.length → j < h.length → ι i = ι j → i = j
  ob : ∀ i o, h[i]? = some o → RO K ι h.length H o (ι i)
structure Ext (ι : Nat → Addr) (n : Nat) (H : Hp) (ι' : Nat → Addr) (n' : Nat) (H' : Hp) : Prop where
  le : n ≤ n'
  ag : ∀ i, i < n → ι' i = ι i
  nw : ∀ i, n ≤ i → i < n' → H (ι' i) = none
  fr : ∀ b o, H b = some o → (∀ i, i < n → ι i ≠ b) → H' b = some o
  st : ∀ b, H' b = none → H b = none
section
variable {K : PySem.W.Frag} {ι ι' ι2 : Nat → Addr} {n n' n2 : Nat} {H H' H2 : Hp} {h h' : AH} {d : D} {ds es : List D} {v : V} {vs ws : List V} {a : Addr} {i : Nat} {o : AO}
theorem Ext.refl : Ext ι n H ι n H := ⟨Nat.le_refl _, fun _ _ => rfl, fun i h1 h2 => absurd h2 (Nat.not_lt.mpr h1), fun _ _ e _ => e, fun _ e => e⟩
theorem Ext.trans (x : Ext ι n H ι' n' H') (y : Ext ι' n' H' ι2 n2 H2) : Ext ι n H ι2 n2 H2 := by
  refine ⟨Nat.le_trans x.le y.le, fun i hi => (y.ag i (Nat.lt_of_lt_of_le hi x.le)).trans (x.ag i hi), fun i h1 h2 => ?_, fun b o e hb => ?_, fun b e => x.st b (y.st b e)⟩
  · by_cases hi : i < n'
    · rw [y.ag i hi]; exact x.nw i h1 hi
    · exact x.st _ (y.nw i (Nat.not_lt.mp hi) h2)
  · refine y.fr b o (x.fr b o e hb) fun i hi e' => ?_
    by_cases h1 : i < n
    · exact hb i h1 (by rw [← x.ag i h1]; exact e')
    · have q := x.nw i (Nat.not_lt.mp h1) hi
      rw [e', e] at q; cases q

/-! ### the relation of data -/
theorem RD.int {j : Int} : RD K ι n H (.int j) v ↔ v = .int j := by unfold RD; exact Iff.rfl
theorem RD.bl {j : Bool} : RD K ι n H (.bl j) v ↔ v = .bl j := by unfold RD; exact Iff.rfl
theorem RD.str {j : Str} : RD K ι n H (.str j) v ↔ v = .str j := by unfold RD; exact Iff.rfl
theorem RD.non : RD K ι n H .non v ↔ v = .non := by unfold RD; exact Iff.rfl
theorem RD.ty {j : String} : RD K ι n H (.ty j) v ↔ v = .ty j := by unfold RD; exact Iff.rfl
theorem RD.ref : RD K ι n H (.ref i) v ↔ i < n ∧ v = .ref (ι i) := by unfold RD; exact Iff.rfl
theorem RD.tup : RD K ι n H (.tup ds) v ↔ ∃ a vs, v = .ref a ∧ SqT K H a vs ∧ RDs K ι n H ds vs := by
  constructor
  · intro h; unfold RD at h; exact h
  · intro h; unfold RD; exact h
theorem RD.rol : RD K ι n H (.rol ds) v ↔ ∃ a vs, v = .ref a ∧ RoL K H a vs ∧ RDs K ι n H ds vs := by
  constructor
  · intro h; unfold RD at h; exact h
  · intro h; unfold RD; exact h
theorem RDs.nil : RDs K ι n H [] vs ↔ vs = [] := by unfold RDs; exact Iff.rfl
theorem RDs.cons : RDs K ι n H (d :: ds) vs ↔ ∃ v r, vs = v :: r ∧ RD K ι n H d v ∧ RDs K ι n H ds r := by
  constructor
  · intro h; unfold RDs at h; exact h
  · intro h; unfold RDs; exact h
theorem RDs.cons' (h1 : RD K ι n H d v) (h2 : RDs K ι n H ds vs) : RDs K ι n H (d :: ds) (v :: vs) := RDs.cons.mpr ⟨v, vs, rfl, h1, h2⟩
theorem RDs.nil' : RDs K ι n H [] [] := RDs.nil.mpr rfl
theorem RDs.length : ∀ {ds : List D} {vs : List V}, RDs K ι n H ds vs → ds.length = vs.length
  | [], vs, h => by rw [RDs.nil.mp h]; rfl
  | d :: ds, vs, h => by
    obtain ⟨v, r, rfl, _, h2⟩ := RDs.cons.mp h
    simp [RDs.length h2]
theorem RDs.get : ∀ {ds : List D} {vs : List V} {i : Nat} {d : D}, RDs K ι n H ds vs → ds[i]? = some d → ∃ v, vs[i]? = some v ∧ RD K ι n H d v
  | [], vs, i, d, h, e => by simp at e
  | d' :: ds, vs, 0, d, h, e => by
    obtain ⟨v, r, rfl, h1, h2⟩ := RDs.cons.mp h
    simp at e; subst e
    exact ⟨v, rfl, h1⟩
  | d' :: ds, vs, i + 1, d, h, e => by
    obtain ⟨v, r, rfl, h1, h2⟩ := RDs.cons.mp h
    simpa using RDs.get h2 (by simpa using e)
theorem RDs.append : ∀ {ds es : List D} {vs ws : List V}, RDs K ι n H ds vs → RDs K ι n H es ws → RDs K ι n H (ds ++ es) (vs ++ ws)
  | [], es, vs, ws, h, h' => by rw [RDs.nil.mp h]; exact h'
  | d :: ds, es, vs, ws, h, h' => by
    obtain ⟨v, r, rfl, h1, h2⟩ := RDs.cons.mp h
    exact RDs.cons' h1 (RDs.append h2 h')
theorem RDs.take : ∀ {ds : List D} {vs : List V} (k : Nat), RDs K ι n H ds vs → RDs K ι n H (ds.take k) (vs.take k)
  | _, _, 0, h => by simp only [List.take_zero]; exact RDs.nil'
  | [], vs, k + 1, h => by rw [RDs.nil.mp h]; exact RDs.nil'
  | d :: ds, vs, k + 1, h => by
    obtain ⟨v, r, rfl, h1, h2⟩ := RDs.cons.mp h
    exact RDs.cons' h1 (RDs.take k h2)
theorem RDs.drop : ∀ {ds : List D} {vs : List V} (k : Nat), RDs K ι n H ds vs → RDs K ι n H (ds.drop k) (vs.drop k)
  | _, _, 0, h => by simpa using h
  | [], vs, k + 1, h => by rw [RDs.nil.mp h]; exact RDs.nil'
  | d :: ds, vs, k + 1, h => by
    obtain ⟨v, r, rfl, h1, h2⟩ := RDs.cons.mp h
    simpa using RDs.drop k h2
theorem RDs.set : ∀ {ds : List D} {vs : List V} (k : Nat), RDs K ι n H ds vs → RD K ι n H d v → RDs K ι n H (ds.set k d) (vs.set k v)
  | [], vs, k, h, _ => by rw [RDs.nil.mp h]; exact RDs.nil'
  | d' :: ds, vs, 0, h, r => by
    obtain ⟨v', r', rfl, h1, h2⟩ := RDs.cons.mp h
    exact RDs.cons' r h2
  | d' :: ds, vs, k + 1, h, r => by
    obtain ⟨v', r', rfl, h1, h2⟩ := RDs.cons.mp h
    exact RDs.cons' h1 (RDs.set k h2 r)
theorem RDs.eraseIdx : ∀ {ds : List D} {vs : List V} (k : Nat), RDs K ι n H ds vs → RDs K ι n H (ds.eraseIdx k) (vs.eraseIdx k)
  | [], vs, k, h => by rw [RDs.nil.mp h]; exact RDs.nil'
  | d' :: ds, vs, 0, h => by
    obtain ⟨v', r', rfl, h1, h2⟩ := RDs.cons.mp h
    exact h2
  | d' :: ds, vs, k + 1, h => by
    obtain ⟨v', r', rfl, h1, h2⟩ := RDs.cons.mp h
    exact RDs.cons' h1 (RDs.eraseIdx k h2)
theorem RDs.reverse : ∀ {ds : List D} {vs : List V}, RDs K ι n H ds vs → RDs K ι n H ds.reverse vs.reverse
  | [], vs, h => by rw [RDs.nil.mp h]; exact RDs.nil'
  | d' :: ds, vs, h => by
    obtain ⟨v', r', rfl, h1, h2⟩ := RDs.cons.mp h
    simp only [List.reverse_cons]
    exact RDs.append (RDs.reverse h2) (RDs.cons' h1 RDs.nil')
theorem RDs.dropLast {ds : List D} {vs : List V} (h : RDs K ι n H ds vs) : RDs K ι n H ds.dropLast vs.dropLast := by
  rw [List.dropLast_eq_take, List.dropLast_eq_take, h.length]
  exact h.take _
theorem RDs.rep {ds : List D} {vs : List V} (h : RDs K ι n H ds vs) : ∀ k : Nat, RDs K ι n H (List.replicate k ds).flatten (List.replicate k vs).flatten
  | 0 => RDs.nil'
  | k + 1 => by
    rw [List.replicate_succ, List.replicate_succ, List.flatten_cons, List.flatten_cons]
    exact RDs.append h (RDs.rep h k)

/-- what is tracked within the heap of lists is no tuple and not locked -/
theorem Rel.mut (R : Rel K ι h H) (hi : i < h.length) : Mut (H (ι i)) := by
  have e : h[i]? = some h[i] := List.getElem?_eq_getElem hi
  have q := R.ob i _ e
  cases r : h[i] with
  | lst ds => rw [r] at q; obtain ⟨vs, e, _⟩ := q; rw [e]; trivial
  | dK ds => rw [r] at q; obtain ⟨vs, e, _⟩ := q; rw [e]; trivial
  | dT ds => rw [r] at q; obtain ⟨vs, e, _⟩ := q; rw [e]; trivial
theorem Rel.fix (R : Rel K ι h H) (x : Ext ι h.length H ι' n' H') {o : HO} (e : H a = some o) (m : ¬ Mut (some o)) : H' a = some o :=
  x.fr a o e fun i hi z => by
    have q := R.mut hi
    rw [z, e] at q
    exact m q
theorem Rel.sqT (R : Rel K ι h H) (x : Ext ι h.length H ι' n' H') (q : SqT K H a vs) : SqT K H' a vs := by
  rcases q with (q | ⟨o, q⟩) | q
  · exact .inl (.inl (R.fix x q fun z => z))
  · exact .inl (.inr ⟨o, R.fix x q fun z => z⟩)
  · exact .inr q
theorem Rel.roL (R : Rel K ι h H) (x : Ext ι h.length H ι' n' H') (q : RoL K H a vs) : RoL K H' a vs := by
  rcases q with ⟨o, q⟩ | q
  · exact .inl ⟨o, R.fix x q fun z => z⟩
  · exact .inr q
/-- data keeps its meaning where tuples are kept -/
structure Grow (K : PySem.W.Frag) (ι : Nat → Addr) (n : Nat) (H : Hp) (ι' : Nat → Addr) (n' : Nat) (H' : Hp) : Prop where
  le : n ≤ n'
  ag : ∀ i, i < n → ι' i = ι i
  tp : ∀ a vs, SqT K H a vs → SqT K H' a vs
  ro : ∀ a vs, RoL K H a vs → RoL K H' a vs
theorem Ext.grow (x : Ext ι h.length H ι' n' H') (R : Rel K ι h H) : Grow K ι h.length H ι' n' H' := ⟨x.le, x.ag, fun _ _ q => R.sqT x q, fun _ _ q => R.roL x q⟩
mutual
theorem RD.mono (g : Grow K ι n H ι' n' H') : ∀ {d : D} {v : V}, RD K ι n H d v → RD K ι' n' H' d v
  | .non, v, h => by unfold RD at h ⊢; exact h
  | .bl _, v, h => by unfold RD at h ⊢; exact h
  | .int _, v, h => by unfold RD at h ⊢; exact h
  | .str _, v, h => by unfold RD at h ⊢; exact h
  | .ty _, v, h => by unfold RD at h ⊢; exact h
  | .tup ds, v, h => by
    unfold RD at h ⊢
    obtain ⟨a, vs, e, q, r⟩ := h
    exact ⟨a, vs, e, g.tp a vs q, RDs.mono g r⟩
  | .rol ds, v, h => by
    unfold RD at h ⊢
    obtain ⟨a, vs, e, q, r⟩ := h
    exact ⟨a, vs, e, g.ro a vs q, RDs.mono g r⟩
  | .ref i, v, h => by
    unfold RD at h ⊢
    exact ⟨Nat.lt_of_lt_of_le h.1 g.le, by rw [g.ag i h.1]; exact h.2⟩
theorem RDs.mono (g : Grow K ι n H ι' n' H') : ∀ {ds : List D} {vs : List V}, RDs K ι n H ds vs → RDs K ι' n' H' ds vs
  | [], vs, h => by unfold RDs at h ⊢; exact h
  | d :: ds, vs, h => by
    unfold RDs at h ⊢
    obtain ⟨v, r, e, h1, h2⟩ := h
    exact ⟨v, r, e, RD.mono g h1, RDs.mono g h2⟩
end
theorem RO.mono {H0 : Hp} (g : Grow K ι n H ι' n' H') (e : H' a = H a) : RO K ι n H o a → RO K ι' n' H' o a := by
  cases o with
  | lst ds => rintro ⟨vs, q, r⟩; exact ⟨vs, e.trans q, r.mono g⟩
  | dK kvs => rintro ⟨vs, q, k, r⟩; exact ⟨vs, e.trans q, k, r.mono g⟩
  | dT kvs => rintro ⟨vs, q, k, r⟩; exact ⟨vs, e.trans q, k, r.mono g⟩

/-! ### the slots -/
structure RE (K : PySem.W.Frag) (ι : Nat → Addr) (n : Nat) (H : Hp) (env : AE) (σ : List (Option V)) : Prop where
  len : env.length = σ.length
  at_ : ∀ (i : Nat) (d : D), env[i]? = some (some d) → ∃ v : V, σ[i]? = some (some v) ∧ RD K ι n H d v
theorem RE.mono {env : AE} {σ : List (Option V)} (g : Grow K ι n H ι' n' H') (h : RE K ι n H env σ) : RE K ι' n' H' env σ :=
  ⟨h.len, fun i d e => let ⟨v, e1, r⟩ := h.at_ i d e; ⟨v, e1, r.mono g⟩⟩
theorem RE.set {env : AE} {σ : List (Option V)} (h : RE K ι n H env σ) (i : Nat) (r : RD K ι n H d v) : RE K ι n H (env.set i (some d)) (σ.set i (some v)) := by
  refine ⟨by simp [h.len], fun j d' e => ?_⟩
  by_cases hj : i = j
  · subst hj
    by_cases hl : i < env.length
    · rw [List.getElem?_set_self hl] at e
      have e' : d = d' := by simpa using e
      subst e'
      exact ⟨v, List.getElem?_set_self (by rw [← h.len]; exact hl), r⟩
    · rw [List.getElem?_eq_none (by simpa using hl)] at e; cases e
  · rw [List.getElem?_set_ne hj] at e ⊢
    exact h.at_ j d' e
theorem RE.forget {env : AE} {σ : List (Option V)} (h : RE K ι n H env σ) (i : Nat) (x : Option V) : RE K ι n H (env.set i none) (σ.set i x) := by
  refine ⟨by simp [h.len], fun j d' e => ?_⟩
  by_cases hj : i = j
  · subst hj
    by_cases hl : i < env.length
    · rw [List.getElem?_set_self hl] at e; cases e
    · rw [List.getElem?_eq_none (by simpa using hl)] at e; cases e
  · rw [List.getElem?_set_ne hj] at e ⊢
    exact h.at_ j d' e
end
end Rf

set_option maxHeartbeats 1000000
namespace Rf
open PySem PySem.Spec PyProof.Rows L2

/-- the own dict of an exception -/
def XD (K : PySem.W.Frag) (ι : Nat → Addr) (n : Nat) (H : Hp) (d : Option Addr) (fs : List (Str × D)) : Prop := match d with
  | some dd => ∃ ws : List (Str × V), H dd = some (.xd ws) ∧ fs.map (·.1) = ws.map (·.1) ∧ RDs K ι n H (fs.map (·.2)) (ws.map (·.2))
  | none => fs = []
/-- the exception that a suite handles: its slot, its address, class, dict, fields -/
structure ExI where
  i : Nat
  a : Addr
  C : Addr
  c : Str
  d : Option Addr
  fs : List (Str × D)
structure Ct where
  X : Cx
  W : WX
  ea : Option ExI
def EA (K : PySem.W.Frag) (ι : Nat → Addr) (n : Nat) (H : Hp) (ea : Option ExI) (env : AE) (σ : List (Option V)) : Prop := match ea with
  | none => True
  | some x => σ[x.i]? = some (some (.ref x.a)) ∧ (∀ d, env[x.i]? ≠ some (some d)) ∧ XD K ι n H x.d x.fs
structure RVK (K : PySem.W.Frag) (ea : Option ExI) (ι : Nat → Addr) (n : Nat) (H : Hp) (env : AE) (σ : List (Option V)) : Prop where
  re : RE K ι n H env σ
  ea : EA K ι n H ea env σ
abbrev RV (C : Ct) (ι : Nat → Addr) (n : Nat) (H : Hp) (env : AE) (σ : List (Option V)) : Prop := RVK C.X.K C.ea ι n H env σ
section
variable {K : PySem.W.Frag} {C : Ct} {ι ι' ι1 : Nat → Addr} {n n' n1 : Nat} {H H' H1 : Hp} {h h' h1 : AH} {env : AE} {σ : List (Option V)} {d : D} {ds : List D} {v : V} {vs : List V} {a : Addr} {i : Nat}
theorem Rel.xd (R : Rel K ι h H) (x : Ext ι h.length H ι' n' H') {d : Option Addr} {fs : List (Str × D)} (q : XD K ι h.length H d fs) : XD K ι' n' H' d fs := by
  cases d with
  | none => exact q
  | some dd =>
    obtain ⟨ws, e, k, r⟩ := q
    exact ⟨ws, R.fix x e fun z => z, k, r.mono (x.grow R)⟩
theorem RV.ext (R : Rel C.X.K ι h H) (x : Ext ι h.length H ι' n' H') (e : RV C ι h.length H env σ) : RV C ι' n' H' env σ := by
  refine ⟨e.re.mono (x.grow R), ?_⟩
  have q := e.ea
  unfold EA at q ⊢
  cases r : C.ea with
  | none => trivial
  | some y =>
    rw [r] at q
    exact ⟨q.1, q.2.1, R.xd x q.2.2⟩
theorem RV.set (e : RV C ι n H env σ) (i : Nat) (r : RD C.X.K ι n H d v) (hi : ∀ x, C.ea = some x → x.i ≠ i) : RV C ι n H (env.set i (some d)) (σ.set i (some v)) := by
  refine ⟨e.re.set i r, ?_⟩
  have q := e.ea
  unfold EA at q ⊢
  cases z : C.ea with
  | none => trivial
  | some y =>
    rw [z] at q
    have hne := hi y z
    refine ⟨by rw [List.getElem?_set_ne (Ne.symm hne)]; exact q.1, fun d' e' => q.2.1 d' ?_, q.2.2⟩
    rw [List.getElem?_set_ne (Ne.symm hne)] at e'
    exact e'

/-! ### what must hold behind -/
def PostE (C : Ct) (ι : Nat → Addr) (n : Nat) (H : Hp) (σ : List (Option V)) (o : ER) (Q : VK) : Prop := match o with
  | .ok d h' => ∀ ι' H' v, Ext ι n H ι' h'.length H' → Rel C.X.K ι' h' H' → RD C.X.K ι' h'.length H' d v → Q v H'
  | .exc c fs h' => ∀ ι' H' Cl dd, Ext ι n H ι' h'.length H' → Rel C.X.K ι' h' H' → C.X.mg c = some (.ref Cl) → XD C.X.K ι' h'.length H' dd fs → C.W (.ref Cl) dd σ H'
  | .stuck => False
def PostL (C : Ct) (ι : Nat → Addr) (n : Nat) (H : Hp) (σ : List (Option V)) (o : LR) (Q : List V → Hp → Prop) : Prop := match o with
  | .ok ds h' => ∀ ι' H' vs, Ext ι n H ι' h'.length H' → Rel C.X.K ι' h' H' → RDs C.X.K ι' h'.length H' ds vs → Q vs H'
  | .exc c fs h' => ∀ ι' H' Cl dd, Ext ι n H ι' h'.length H' → Rel C.X.K ι' h' H' → C.X.mg c = some (.ref Cl) → XD C.X.K ι' h'.length H' dd fs → C.W (.ref Cl) dd σ H'
  | .stuck => False
def PostT (C : Ct) (ι : Nat → Addr) (n : Nat) (H : Hp) (σ : List (Option V)) (o : ER) (Q : Bool → Hp → Prop) : Prop := match o with
  | .ok d h' => ∃ b, d = .bl b ∧ ∀ ι' H', Ext ι n H ι' h'.length H' → Rel C.X.K ι' h' H' → Q b H'
  | .exc c fs h' => ∀ ι' H' Cl dd, Ext ι n H ι' h'.length H' → Rel C.X.K ι' h' H' → C.X.mg c = some (.ref Cl) → XD C.X.K ι' h'.length H' dd fs → C.W (.ref Cl) dd σ H'
  | .stuck => False
def PostS (C : Ct) (ι : Nat → Addr) (n : Nat) (H : Hp) (o : SR) (D : Ends) : Prop := match o with
  | .nx env' h' => ∀ ι' H' σ', Ext ι n H ι' h'.length H' → Rel C.X.K ι' h' H' → RV C ι' h'.length H' env' σ' → D.nx σ' H'
  | .rt d h' => ∀ ι' H' v, Ext ι n H ι' h'.length H' → Rel C.X.K ι' h' H' → RD C.X.K ι' h'.length H' d v → D.rt v H'
  | .bk env' h' => ∀ ι' H' σ', Ext ι n H ι' h'.length H' → Rel C.X.K ι' h' H' → RV C ι' h'.length H' env' σ' → D.bk σ' H'
  | .ct env' h' => ∀ ι' H' σ', Ext ι n H ι' h'.length H' → Rel C.X.K ι' h' H' → RV C ι' h'.length H' env' σ' → D.ct σ' H'
  | .exc c fs env' h' => ∀ ι' H' σ' Cl dd, Ext ι n H ι' h'.length H' → Rel C.X.K ι' h' H' → RV C ι' h'.length H' env' σ' → C.X.mg c = some (.ref Cl) → XD C.X.K ι' h'.length H' dd fs → C.W (.ref Cl) dd σ' H'
  | .stuck => False
theorem PostE.shift {o : ER} {Q : VK} (p : PostE C ι n H σ o Q) (x : Ext ι n H ι1 n1 H1) : PostE C ι1 n1 H1 σ o Q := by
  cases o with
  | ok d h' => exact fun ι' H' v y => p ι' H' v (x.trans y)
  | exc c fs h' => exact fun ι' H' Cl dd y => p ι' H' Cl dd (x.trans y)
  | stuck => exact p
theorem PostL.shift {o : LR} {Q : List V → Hp → Prop} (p : PostL C ι n H σ o Q) (x : Ext ι n H ι1 n1 H1) : PostL C ι1 n1 H1 σ o Q := by
  cases o with
  | ok d h' => exact fun ι' H' v y => p ι' H' v (x.trans y)
  | exc c fs h' => exact fun ι' H' Cl dd y => p ι' H' Cl dd (x.trans y)
  | stuck => exact p
theorem PostT.shift {o : ER} {Q : Bool → Hp → Prop} (p : PostT C ι n H σ o Q) (x : Ext ι n H ι1 n1 H1) : PostT C ι1 n1 H1 σ o Q := by
  cases o with
  | ok d h' =>
    obtain ⟨b, e, p⟩ := p
    exact ⟨b, e, fun ι' H' y => p ι' H' (x.trans y)⟩
  | exc c fs h' => exact fun ι' H' Cl dd y => p ι' H' Cl dd (x.trans y)
  | stuck => exact p
theorem PostS.shift {o : SR} {D : Ends} (p : PostS C ι n H o D) (x : Ext ι n H ι1 n1 H1) : PostS C ι1 n1 H1 o D := by
  cases o with
  | nx e h' => exact fun ι' H' s y => p ι' H' s (x.trans y)
  | rt e h' => exact fun ι' H' s y => p ι' H' s (x.trans y)
  | bk e h' => exact fun ι' H' s y => p ι' H' s (x.trans y)
  | ct e h' => exact fun ι' H' s y => p ι' H' s (x.trans y)
  | exc c fs e h' => exact fun ι' H' s Cl dd y => p ι' H' s Cl dd (x.trans y)
  | stuck => exact p
end

/-! ### the judgements: the def's piece e is done by the plain function m -/
abbrev EM := AE → AH → ER
abbrev LM := AE → AH → LR
abbrev SM := AE → AH → SR
structure SimE (C : Ct) (t : TE) (m : EM) : Prop where
  run : ∀ (env : AE) (h : AH) (σ : List (Option V)) (H : Hp) (ι : Nat → Addr) (Q : VK), Rel C.X.K ι h H → RV C ι h.length H env σ → PostE C ι h.length H σ (m env h) Q → t σ H Q
structure SimT (C : Ct) (t : TT) (m : EM) : Prop where
  run : ∀ (env : AE) (h : AH) (σ : List (Option V)) (H : Hp) (ι : Nat → Addr) (Q : Bool → Hp → Prop), Rel C.X.K ι h H → RV C ι h.length H env σ → PostT C ι h.length H σ (m env h) Q → t σ H Q
structure SimL (C : Ct) (t : TA) (m : LM) : Prop where
  run : ∀ (env : AE) (h : AH) (σ : List (Option V)) (H : Hp) (ι : Nat → Addr) (Q : List V → Hp → Prop), Rel C.X.K ι h H → RV C ι h.length H env σ → PostL C ι h.length H σ (m env h) Q → t σ H Q
structure SimS (C : Ct) (t : TS) (m : SM) : Prop where
  run : ∀ (env : AE) (h : AH) (σ : List (Option V)) (H : Hp) (ι : Nat → Addr) (D : Ends), Rel C.X.K ι h H → RV C ι h.length H env σ → PostS C ι h.length H (m env h) D → t D σ H
def ME (C : Ct) (e : Expr) (m : EM) : Prop := ∃ t, PE C.X e t ∧ SimE C t m
def MT (C : Ct) (e : Expr) (m : EM) : Prop := ∃ t, PT C.X e t ∧ SimT C t m
def MW (C : Ct) (e : Expr) (m : EM) : Prop := ∃ t, PW C.X e t ∧ SimT C t m
def MA (C : Ct) (es : List Expr) (m : LM) : Prop := ∃ t, PA C.X es t ∧ SimL C t m
def MS (C : Ct) (s : Stmt) (m : SM) : Prop := ∃ t, PS C.X s t ∧ SimS C t m
def MB (C : Ct) (s : List Stmt) (m : SM) : Prop := ∃ t, PSs C.X s t ∧ SimS C t m

/-! ### the plain functions of the constructs -/
def ER.then (o : ER) (f : D → AH → ER) : ER := match o with
  | .ok d h => f d h
  | .exc c fs h => .exc c fs h
  | .stuck => .stuck
def LR.then (o : LR) (f : List D → AH → ER) : ER := match o with
  | .ok d h => f d h
  | .exc c fs h => .exc c fs h
  | .stuck => .stuck
def eVar (i : Nat) : EM := fun env h => match env[i]? with
  | some (some d) => .ok d h
  | _ => .stuck
def eC (d : D) : EM := fun _ h => .ok d h
def eOp (g : D → D → AH → ER) (a b : EM) : EM := fun env h => (a env h).then fun d1 h1 => (b env h1).then fun d2 h2 => g d1 d2 h2
def eUn (g : D → AH → ER) (a : EM) : EM := fun env h => (a env h).then fun d1 h1 => g d1 h1
def eIf (c a b : EM) : EM := fun env h => (c env h).then fun d h1 => match d with
  | .bl true => a env h1
  | .bl false => b env h1
  | _ => .stuck
/-- and, or of bools -/
def eAnd (a b : EM) : EM := fun env h => (a env h).then fun d h1 => match d with
  | .bl true => b env h1
  | .bl false => .ok (.bl false) h1
  | _ => .stuck
def eOr (a b : EM) : EM := fun env h => (a env h).then fun d h1 => match d with
  | .bl true => .ok (.bl true) h1
  | .bl false => b env h1
  | _ => .stuck
def eNot (a : EM) : EM := fun env h => (a env h).then fun d h1 => match d with
  | .bl b => .ok (.bl (!b)) h1
  | _ => .stuck
def lNil : LM := fun _ h => .ok [] h
def lCons (a : EM) (r : LM) : LM := fun env h => match a env h with
  | .ok d h1 => (match r env h1 with
    | .ok ds h2 => .ok (d :: ds) h2
    | .exc c fs h2 => .exc c fs h2
    | .stuck => .stuck)
  | .exc c fs h1 => .exc c fs h1
  | .stuck => .stuck
def eCall (g : List D → AH → ER) (a : LM) : EM := fun env h => (a env h).then g

section
variable {C : Ct} {e a b c : Expr} {m ma mb mc : EM} {pos : Pos}
/-- the first of two -/
theorem SimE.then {t : TE} {ma : EM} (sa : SimE C t ma) {env : AE} {h : AH} {σ : List (Option V)} {H : Hp} {ι : Nat → Addr} {f : D → AH → ER} {Q Q' : VK} (R : Rel C.X.K ι h H) (V : RV C ι h.length H env σ)
    (p : PostE C ι h.length H σ ((ma env h).then f) Q)
    (k : ∀ d h' ι' H' v, Ext ι h.length H ι' h'.length H' → Rel C.X.K ι' h' H' → RV C ι' h'.length H' env σ → RD C.X.K ι' h'.length H' d v → PostE C ι' h'.length H' σ (f d h') Q → Q' v H') : t σ H Q' := by
  refine sa.run env h σ H ι Q' R V ?_
  cases hm : ma env h with
  | ok d h1 =>
    rw [hm] at p
    exact fun ι' H' v x R' r => k d h1 ι' H' v x R' (V.ext R x) r (PostE.shift p x)
  | exc c fs h1 => rw [hm] at p; exact p
  | stuck => rw [hm] at p; exact p
theorem SimT.then {t : TT} {ma : EM} (sa : SimT C t ma) {env : AE} {h : AH} {σ : List (Option V)} {H : Hp} {ι : Nat → Addr} {f : Bool → AH → ER} {Q : VK} {Q' : Bool → Hp → Prop} (R : Rel C.X.K ι h H) (V : RV C ι h.length H env σ)
    (p : PostE C ι h.length H σ ((ma env h).then fun d h1 => match d with | .bl b => f b h1 | _ => .stuck) Q)
    (k : ∀ b h' ι' H', Ext ι h.length H ι' h'.length H' → Rel C.X.K ι' h' H' → RV C ι' h'.length H' env σ → PostE C ι' h'.length H' σ (f b h') Q → Q' b H') : t σ H Q' := by
  refine sa.run env h σ H ι Q' R V ?_
  cases hm : ma env h with
  | ok d h1 =>
    rw [hm] at p
    cases d with
    | bl b => exact ⟨b, rfl, fun ι' H' x R' => k b h1 ι' H' x R' (V.ext R x) (PostE.shift p x)⟩
    | _ => exact (show False from p).elim
  | exc c fs h1 => rw [hm] at p; exact p
  | stuck => rw [hm] at p; exact p

/-! ### names, constants -/
theorem me_var (i : Nat) {x : Str} (hN : C.X.N[i]? = some x := by rfl) (hv : Vis C.X.env.scope x := by first | exact Or.inl rfl | exact Or.inr (Or.inl rfl) | exact Or.inr (Or.inr rfl)) (hd : (x == ("__debug__" : Str)) = false := by decide)
    (hcd : (x == ("__classdict__" : Str)) = false := by decide) : ME C (.Name x pos) (eVar i) := by
  refine ⟨_, pe_var hN hv hd hcd, ⟨fun env h σ H ι Q R V p => ?_⟩⟩
  unfold eVar at p
  split at p
  · rename_i d e
    obtain ⟨v, e2, r⟩ := V.re.at_ i d e
    exact ⟨v, e2, p ι H v .refl R r⟩
  · exact p.elim
theorem me_C {v : V} {d : D} (hp : PE C.X e (tC v)) (hd : ∀ ι n H, RD C.X.K ι n H d v) : ME C e (eC d) :=
  ⟨_, hp, ⟨fun env h σ H ι Q R V p => p ι H v .refl R (hd _ _ _)⟩⟩

/-! ### operators, by values -/
/-- r asks no more of related values than g tells -/
def OpS (C : Ct) (r : R2) (g : D → D → AH → ER) : Prop := ∀ (ι : Nat → Addr) (h : AH) (H : Hp) (σ : List (Option V)) (x y : V) (d1 d2 : D) (Q : VK), Rel C.X.K ι h H → RD C.X.K ι h.length H d1 x → RD C.X.K ι h.length H d2 y → PostE C ι h.length H σ (g d1 d2 h) Q → r x y H Q
def UnS (C : Ct) (r : V → Hp → VK → Prop) (g : D → AH → ER) : Prop := ∀ (ι : Nat → Addr) (h : AH) (H : Hp) (σ : List (Option V)) (x : V) (d : D) (Q : VK), Rel C.X.K ι h H → RD C.X.K ι h.length H d x → PostE C ι h.length H σ (g d h) Q → r x H Q
def CallS (C : Ct) (r : List V → Hp → VK → Prop) (g : List D → AH → ER) : Prop := ∀ (ι : Nat → Addr) (h : AH) (H : Hp) (σ : List (Option V)) (xs : List V) (ds : List D) (Q : VK), Rel C.X.K ι h H → RDs C.X.K ι h.length H ds xs → PostE C ι h.length H σ (g ds h) Q → r xs H Q
def TruS (C : Ct) (g : D → AH → ER) : Prop := ∀ (ι : Nat → Addr) (h : AH) (H : Hp) (σ : List (Option V)) (x : V) (d : D) (Q : Bool → Hp → Prop), Rel C.X.K ι h H → RD C.X.K ι h.length H d x → PostT C ι h.length H σ (g d h) Q → ∃ k, TruV C.X.K x H k ∧ Q k H
theorem SimE.op {ta tb : TE} (sa : SimE C ta ma) (sb : SimE C tb mb) {r : R2} {g : D → D → AH → ER} (hs : OpS C r g) : SimE C (tOp r ta tb) (eOp g ma mb) := by
  refine ⟨fun env h σ H ι Q R V p => ?_⟩
  refine sa.then R V p fun d1 h1 ι1 H1 v1 x1 R1 V1 r1 p1 => ?_
  refine sb.then R1 V1 p1 fun d2 h2 ι2 H2 v2 x2 R2 V2 r2 p2 => ?_
  exact hs ι2 h2 H2 σ v1 v2 d1 d2 Q R2 (r1.mono (x2.grow R1)) r2 p2
theorem me_op {op : Operator} {r : R2} {g : D → D → AH → ER} (ho : OpR C.X (binaryOp op) r) (hs : OpS C r g) (ha : ME C a ma) (hb : ME C b mb) : ME C (.BinOp a op b pos) (eOp g ma mb) := by
  obtain ⟨ta, pa, sa⟩ := ha
  obtain ⟨tb, pb, sb⟩ := hb
  exact ⟨_, pe_op ho pa pb, sa.op sb hs⟩
theorem me_un {op : UnaryOp} {r : V → Hp → VK → Prop} {g : D → AH → ER} (ho : UnR C.X (unaryOp op) r) (hs : UnS C r g) (ha : ME C a ma) : ME C (.UnaryOp op a pos) (eUn g ma) := by
  obtain ⟨ta, pa, sa⟩ := ha
  refine ⟨_, pe_un ho pa, ⟨fun env h σ H ι Q R V p => ?_⟩⟩
  refine sa.then R V p fun d1 h1 ι1 H1 v1 x1 R1 V1 r1 p1 => ?_
  exact hs ι1 h1 H1 σ v1 d1 Q R1 r1 p1
theorem me_cmp {op : CmpOp} {r : R2} {g : D → D → AH → ER} (ho : OpR C.X (compareOp op) r) (hs : OpS C r g) (ha : ME C a ma) (hb : ME C b mb) (hm : behindInMarks op b = false) : ME C (.Compare a [op] [b] pos) (eOp g ma mb) := by
  obtain ⟨ta, pa, sa⟩ := ha
  obtain ⟨tb, pb, sb⟩ := hb
  exact ⟨_, pe_cmpR ho pa pb hm, sa.op sb hs⟩
theorem SimE.test {t : TE} (s : SimE C t m) : SimT C (tTest t) m := by
  refine ⟨fun env h σ H ι Q R V p => ?_⟩
  refine s.run env h σ H ι _ R V ?_
  cases hm : m env h with
  | ok d h1 =>
    rw [hm] at p
    obtain ⟨b, rfl, p⟩ := p
    exact fun ι' H' v x R' r => ⟨b, RD.bl.mp r, p ι' H' x R'⟩
  | exc c fs h1 => rw [hm] at p; exact p
  | stuck => rw [hm] at p; exact p
theorem mt_cmp {op : CmpOp} {r : R2} {g : D → D → AH → ER} (ho : OpR C.X (compareOp op) r) (hs : OpS C r g) (ha : ME C a ma) (hb : ME C b mb) (hm : behindInMarks op b = false) : MT C (.Compare a [op] [b] pos) (eOp g ma mb) := by
  obtain ⟨ta, pa, sa⟩ := ha
  obtain ⟨tb, pb, sb⟩ := hb
  exact ⟨_, pt_cmpR ho pa pb hm, (sa.op sb hs).test⟩
/-- a op b op' c -/
def eChain (g g' : D → D → AH → ER) (a b c : EM) : EM := fun env h => (a env h).then fun d1 h1 => (b env h1).then fun d2 h2 => (g d1 d2 h2).then fun z h3 => match z with
  | .bl true => (c env h3).then fun d3 h4 => g' d2 d3 h4
  | .bl false => .ok (.bl false) h3
  | _ => .stuck
/-- r, then f -/
theorem OpS.then {r : R2} {g : D → D → AH → ER} (hs : OpS C r g) {ι : Nat → Addr} {h : AH} {H : Hp} {σ : List (Option V)} {x y : V} {d1 d2 : D} {f : D → AH → ER} {Q Q' : VK} {env : AE} (R : Rel C.X.K ι h H) (V : RV C ι h.length H env σ) (r1 : RD C.X.K ι h.length H d1 x) (r2 : RD C.X.K ι h.length H d2 y)
    (p : PostE C ι h.length H σ ((g d1 d2 h).then f) Q)
    (k : ∀ d h' ι' H' v, Ext ι h.length H ι' h'.length H' → Rel C.X.K ι' h' H' → RV C ι' h'.length H' env σ → RD C.X.K ι' h'.length H' d v → PostE C ι' h'.length H' σ (f d h') Q → Q' v H') : r x y H Q' := by
  refine hs ι h H σ x y d1 d2 Q' R r1 r2 ?_
  cases hm : g d1 d2 h with
  | ok d h1 =>
    rw [hm] at p
    exact fun ι' H' v x R' r => k d h1 ι' H' v x R' (V.ext R x) r (PostE.shift p x)
  | exc c fs h1 => rw [hm] at p; exact p
  | stuck => rw [hm] at p; exact p
theorem SimE.chain {ta tb tc : TE} (sa : SimE C ta ma) (sb : SimE C tb mb) (sc : SimE C tc mc) {r r' : R2} {g g' : D → D → AH → ER} (hs : OpS C r g) (hs' : OpS C r' g') : SimE C (tChain r r' ta tb tc) (eChain g g' ma mb mc) := by
  refine ⟨fun env h σ H ι Q R V p => ?_⟩
  refine sa.then R V p fun d1 h1 ι1 H1 v1 x1 R1 V1 r1 p1 => ?_
  refine sb.then R1 V1 p1 fun d2 h2 ι2 H2 v2 x2 R2 V2 r2 p2 => ?_
  refine hs.then R2 V2 (r1.mono (x2.grow R1)) r2 p2 fun d3 h3 ι3 H3 v3 x3 R3 V3 r3 p3 => ?_
  cases d3 with
  | bl k =>
    refine ⟨k, RD.bl.mp r3, ?_⟩
    cases k with
    | true =>
      refine iteT ?_
      refine sc.then R3 V3 p3 fun d4 h4 ι4 H4 v4 x4 R4 V4 r4 p4 => ?_
      exact hs' ι4 h4 H4 σ v2 v4 d2 d4 Q R4 (r2.mono ((x3.trans x4).grow R2)) r4 p4
    | false => exact iteF (p3 ι3 H3 _ .refl R3 (RD.bl.mpr rfl))
  | _ => exact (show False from p3).elim
theorem me_chain {op op' : CmpOp} {r r' : R2} {g g' : D → D → AH → ER} (ho : OpR C.X (compareOp op) r) (hs : OpS C r g) (ho' : OpR C.X (compareOp op') r') (hs' : OpS C r' g') (ha : ME C a ma) (hb : ME C b mb) (hc : ME C c mc)
    (hm : lastMarks [op, op'] [b, c] = false := by with_unfolding_all rfl) : ME C (.Compare a [op, op'] [b, c] pos) (eChain g g' ma mb mc) := by
  obtain ⟨ta, pa, sa⟩ := ha
  obtain ⟨tb, pb, sb⟩ := hb
  obtain ⟨tc, pc, sc⟩ := hc
  exact ⟨_, pe_chain ho ho' pa pb pc hm, sa.chain sb sc hs hs'⟩
theorem mt_chain {op op' : CmpOp} {r r' : R2} {g g' : D → D → AH → ER} (ho : OpR C.X (compareOp op) r) (hs : OpS C r g) (ho' : OpR C.X (compareOp op') r') (hs' : OpS C r' g') (ha : ME C a ma) (hb : ME C b mb) (hc : ME C c mc)
    (hm : lastMarks [op, op'] [b, c] = false := by with_unfolding_all rfl) : MT C (.Compare a [op, op'] [b, c] pos) (eChain g g' ma mb mc) := by
  obtain ⟨ta, pa, sa⟩ := ha
  obtain ⟨tb, pb, sb⟩ := hb
  obtain ⟨tc, pc, sc⟩ := hc
  exact ⟨_, pt_chain ho ho' pa pb pc hm, (sa.chain sb sc hs hs').test⟩

/-! ### tests -/
theorem mt_truth {g : D → AH → ER} (hs : TruS C g) (ha : ME C a ma) (he : ∀ whole, isTrue a C.X.env whole = (do let v ← whole; standAt a.pos; holding [v] (truthy v)) := by intro _; rfl) : MT C a (eUn g ma) := by
  obtain ⟨ta, pa, sa⟩ := ha
  refine ⟨_, pt_truth pa he, ⟨fun env h σ H ι Q R V p => ?_⟩⟩
  refine sa.run env h σ H ι _ R V ?_
  unfold eUn at p
  cases hm : ma env h with
  | ok d h1 =>
    rw [hm] at p
    refine fun ι' H' v x R' r => hs ι' h1 H' σ v d Q R' r (PostT.shift p x)
  | exc c fs h1 => rw [hm] at p; exact p
  | stuck => rw [hm] at p; exact p
theorem mt_not (ha : MT C a ma) : MT C (.UnaryOp .Not a pos) (eNot ma) := by
  obtain ⟨ta, pa, sa⟩ := ha
  refine ⟨_, pt_not pa, ⟨fun env h σ H ι Q R V p => ?_⟩⟩
  refine sa.run env h σ H ι _ R V ?_
  unfold eNot at p
  cases hm : ma env h with
  | ok d h1 =>
    rw [hm] at p
    cases d with
    | bl b =>
      obtain ⟨b', e, p⟩ := p
      cases e
      exact ⟨b, rfl, p⟩
    | _ => exact (show False from p).elim
  | exc c fs h1 => rw [hm] at p; exact p
  | stuck => rw [hm] at p; exact p
theorem mw_and1 (ha : MT C a ma) : MW C (.BoolOp .And [a] pos) ma := by
  obtain ⟨ta, pa, sa⟩ := ha
  exact ⟨_, pw_and1 pa, sa⟩
theorem mw_or1 (ha : MT C a ma) : MW C (.BoolOp .Or [a] pos) ma := by
  obtain ⟨ta, pa, sa⟩ := ha
  exact ⟨_, pw_or1 pa, sa⟩
theorem SimT.and {ta tb : TT} (sa : SimT C ta ma) (sb : SimT C tb mb) : SimT C (tAnd ta tb) (eAnd ma mb) := by
  refine ⟨fun env h σ H ι Q R V p => ?_⟩
  refine sa.run env h σ H ι _ R V ?_
  unfold eAnd at p
  cases hm : ma env h with
  | ok d h1 =>
    rw [hm] at p
    cases d with
    | bl b =>
      refine ⟨b, rfl, fun ι' H' x R' => ?_⟩
      cases b with
      | true => exact iteT (sb.run env h1 σ H' ι' Q R' (V.ext R x) (PostT.shift p x))
      | false =>
        obtain ⟨b', e, p⟩ := p
        cases e
        exact iteF (p ι' H' x R')
    | _ => exact (show False from p).elim
  | exc c fs h1 => rw [hm] at p; exact p
  | stuck => rw [hm] at p; exact p
theorem SimT.or {ta tb : TT} (sa : SimT C ta ma) (sb : SimT C tb mb) : SimT C (tOr ta tb) (eOr ma mb) := by
  refine ⟨fun env h σ H ι Q R V p => ?_⟩
  refine sa.run env h σ H ι _ R V ?_
  unfold eOr at p
  cases hm : ma env h with
  | ok d h1 =>
    rw [hm] at p
    cases d with
    | bl b =>
      refine ⟨b, rfl, fun ι' H' x R' => ?_⟩
      cases b with
      | false => exact iteF (sb.run env h1 σ H' ι' Q R' (V.ext R x) (PostT.shift p x))
      | true =>
        obtain ⟨b', e, p⟩ := p
        cases e
        exact iteT (p ι' H' x R')
    | _ => exact (show False from p).elim
  | exc c fs h1 => rw [hm] at p; exact p
  | stuck => rw [hm] at p; exact p
theorem mw_and {rest : List Expr} (ha : MT C a ma) (hb : MW C (.BoolOp .And (b :: rest) pos) mb) : MW C (.BoolOp .And (a :: b :: rest) pos) (eAnd ma mb) := by
  obtain ⟨ta, pa, sa⟩ := ha
  obtain ⟨tb, pb, sb⟩ := hb
  exact ⟨_, pw_and pa pb, sa.and sb⟩
theorem mw_or {rest : List Expr} (ha : MT C a ma) (hb : MW C (.BoolOp .Or (b :: rest) pos) mb) : MW C (.BoolOp .Or (a :: b :: rest) pos) (eOr ma mb) := by
  obtain ⟨ta, pa, sa⟩ := ha
  obtain ⟨tb, pb, sb⟩ := hb
  exact ⟨_, pw_or pa pb, sa.or sb⟩
theorem MW.mt (h : MW C a ma) : MT C a ma := by
  obtain ⟨t, p, s⟩ := h
  exact ⟨t, p.pt, s⟩
/-- .. as values (bools, but the last) -/
theorem me_one {op} (h : ME C a ma) : ME C (.BoolOp op [a] pos) ma := by
  obtain ⟨t, p, s⟩ := h
  exact ⟨t, pe_one p, s⟩
theorem me_and {rest : List Expr} (ha : ME C a ma) (hb : ME C (.BoolOp .And (b :: rest) pos) mb) : ME C (.BoolOp .And (a :: b :: rest) pos) (eAnd ma mb) := by
  obtain ⟨ta, pa, sa⟩ := ha
  obtain ⟨tb, pb, sb⟩ := hb
  refine ⟨_, pe_and pa pb, ⟨fun env h σ H ι Q R V p => ?_⟩⟩
  refine sa.then R V p fun d1 h1 ι1 H1 v1 x1 R1 V1 r1 p1 => ?_
  cases d1 with
  | bl k =>
    refine ⟨k, RD.bl.mp r1, ?_⟩
    cases k with
    | true => exact iteT (sb.run env h1 σ H1 ι1 Q R1 V1 p1)
    | false => exact iteF (p1 ι1 H1 _ .refl R1 (RD.bl.mpr rfl))
  | _ => exact (show False from p1).elim
theorem me_or {rest : List Expr} (ha : ME C a ma) (hb : ME C (.BoolOp .Or (b :: rest) pos) mb) : ME C (.BoolOp .Or (a :: b :: rest) pos) (eOr ma mb) := by
  obtain ⟨ta, pa, sa⟩ := ha
  obtain ⟨tb, pb, sb⟩ := hb
  refine ⟨_, pe_or pa pb, ⟨fun env h σ H ι Q R V p => ?_⟩⟩
  refine sa.then R V p fun d1 h1 ι1 H1 v1 x1 R1 V1 r1 p1 => ?_
  cases d1 with
  | bl k =>
    refine ⟨k, RD.bl.mp r1, ?_⟩
    cases k with
    | false => exact iteF (sb.run env h1 σ H1 ι1 Q R1 V1 p1)
    | true => exact iteT (p1 ι1 H1 _ .refl R1 (RD.bl.mpr rfl))
  | _ => exact (show False from p1).elim
theorem me_not (ha : ME C a ma) : ME C (.UnaryOp .Not a pos) (eNot ma) := by
  obtain ⟨ta, pa, sa⟩ := ha
  refine ⟨_, pe_not pa, ⟨fun env h σ H ι Q R V p => ?_⟩⟩
  refine sa.then R V p fun d1 h1 ι1 H1 v1 x1 R1 V1 r1 p1 => ?_
  cases d1 with
  | bl k => exact ⟨k, RD.bl.mp r1, p1 ι1 H1 _ .refl R1 (RD.bl.mpr rfl)⟩
  | _ => exact (show False from p1).elim
/-- a if c else b -/
theorem me_if (hc : MT C c mc) (ha : ME C a ma) (hb : ME C b mb) : ME C (.IfExp c a b pos) (eIf mc ma mb) := by
  obtain ⟨tc, pc, sc⟩ := hc
  obtain ⟨ta, pa, sa⟩ := ha
  obtain ⟨tb, pb, sb⟩ := hb
  refine ⟨_, pe_ifExp pc pa pb, ⟨fun env h σ H ι Q R V p => ?_⟩⟩
  refine sc.run env h σ H ι _ R V ?_
  unfold eIf at p
  cases hm : mc env h with
  | ok d h1 =>
    rw [hm] at p
    cases d with
    | bl k =>
      refine ⟨k, rfl, fun ι' H' x R' => ?_⟩
      cases k with
      | true => exact iteT (sa.run env h1 σ H' ι' Q R' (V.ext R x) (PostE.shift p x))
      | false => exact iteF (sb.run env h1 σ H' ι' Q R' (V.ext R x) (PostE.shift p x))
    | _ => exact (show False from p).elim
  | exc c fs h1 => rw [hm] at p; exact p
  | stuck => rw [hm] at p; exact p

/-! ### argument lists, calls of built-ins -/
theorem ma_nil : MA C [] lNil := ⟨_, pa_nil, ⟨fun env h σ H ι Q R V p => p ι H [] .refl R RDs.nil'⟩⟩
theorem ma_cons {es : List Expr} {mr : LM} (ha : ME C e m) (hr : MA C es mr) (hs : starEach (e :: es) C.X.env = (false, eval e C.X.env) :: starEach es C.X.env := by rfl) : MA C (e :: es) (lCons m mr) := by
  obtain ⟨ta, pa, sa⟩ := ha
  obtain ⟨tr, pr, sr⟩ := hr
  refine ⟨_, pa_cons pa pr hs, ⟨fun env h σ H ι Q R V p => ?_⟩⟩
  refine sa.run env h σ H ι _ R V ?_
  unfold lCons at p
  cases hm : m env h with
  | ok d h1 =>
    rw [hm] at p
    dsimp only at p
    refine fun ι' H' v x R' r => ?_
    refine sr.run env h1 σ H' ι' _ R' (V.ext R x) ?_
    cases hm2 : mr env h1 with
    | ok ds h2 =>
      rw [hm2] at p
      exact fun ι2 H2 vs x2 R2 r2 => p ι2 H2 _ (x.trans x2) R2 (RDs.cons' (r.mono (x2.grow R')) r2)
    | exc c fs h2 =>
      rw [hm2] at p
      exact fun ι2 H2 Cl dd x2 => p ι2 H2 Cl dd (x.trans x2)
    | stuck => rw [hm2] at p; exact p
  | exc c fs h1 => rw [hm] at p; exact p
  | stuck => rw [hm] at p; exact p
theorem SimL.call {t : TA} {ml : LM} (s : SimL C t ml) {r : List V → Hp → VK → Prop} {g : List D → AH → ER} (hs : CallS C r g) : SimE C (fun σ H Q => t σ H fun vs H1 => r vs H1 Q) (eCall g ml) := by
  refine ⟨fun env h σ H ι Q R V p => ?_⟩
  refine s.run env h σ H ι _ R V ?_
  unfold eCall at p
  cases hm : ml env h with
  | ok ds h1 =>
    rw [hm] at p
    exact fun ι' H' vs x R' r' => hs ι' h1 H' σ vs ds Q R' r' (PostE.shift p x)
  | exc c fs h1 => rw [hm] at p; exact p
  | stuck => rw [hm] at p; exact p
theorem me_callB {x : Str} {p : Pos} {es : List Expr} {id : String} {r : List V → Hp → VK → Prop} {g : List D → AH → ER} {ml : LM} (hc : CallR C.X (.builtin id) r) (hs : CallS C r g) (hm : C.X.mg x = none) (ha : MA C (e :: es) ml) (hv : bootBuiltins x = some (.builtin id) := by decide +kernel) (hg : Gl C.X x := by rfl) (hn : x ≠ "__name__" := by decide) (hdb : (x == ("__debug__" : Str)) = false := by decide)
    (he : starEach (e :: es) C.X.env = (false, eval e C.X.env) :: starEach es C.X.env := by rfl) (hpl : (backTo pos (starEach es C.X.env)).any (·.1) = false := by rfl) : ME C (.Call (.Name x p) (e :: es) [] pos) (eCall g ml) := by
  obtain ⟨t, pa, s⟩ := ha
  exact ⟨_, pe_callB hc hg hm hv pa hn hdb he hpl, s.call hs⟩
theorem me_callTy {x : Str} {p : Pos} {es : List Expr} {T : String} {r : List V → Hp → VK → Prop} {g : List D → AH → ER} {ml : LM} (hc : CallR C.X (.type T) r) (hs : CallS C r g) (hm : C.X.mg x = none) (ha : MA C (e :: es) ml) (hv : bootBuiltins x = some (.type T) := by decide +kernel) (hg : Gl C.X x := by rfl) (hn : x ≠ "__name__" := by decide) (hdb : (x == ("__debug__" : Str)) = false := by decide)
    (he : starEach (e :: es) C.X.env = (false, eval e C.X.env) :: starEach es C.X.env := by rfl) (hpl : (backTo pos (starEach es C.X.env)).any (·.1) = false := by rfl) : ME C (.Call (.Name x p) (e :: es) [] pos) (eCall g ml) := by
  obtain ⟨t, pa, s⟩ := ha
  exact ⟨_, pe_callTy hc hg hm hv pa hn hdb he hpl, s.call hs⟩
end
end Rf

set_option maxHeartbeats 1000000
namespace Rf
open PySem PySem.Spec PyProof.Rows L2

/-! ### statements -/
def SR.then (o : SR) (f : SM) : SR := match o with
  | .nx e h => f e h
  | r => r
/-- an expression, then a statement's piece -/
def ER.thenS (o : ER) (env : AE) (f : D → AH → SR) : SR := match o with
  | .ok d h => f d h
  | .exc c fs h => .exc c fs env h
  | .stuck => .stuck
def sPass : SM := fun e h => .nx e h
def sSeq (a b : SM) : SM := fun e h => (a e h).then b
def sRet (m : EM) : SM := fun e h => (m e h).thenS e fun d h1 => .rt d h1
def sRetN : SM := fun _ h => .rt .non h
def sExpr (m : EM) : SM := fun e h => (m e h).thenS e fun _ h1 => .nx e h1
def sIf (c : EM) (a b : SM) : SM := fun e h => (c e h).thenS e fun d h1 => match d with
  | .bl true => a e h1
  | .bl false => b e h1
  | _ => .stuck
def sBreak : SM := fun e h => .bk e h
def sCont : SM := fun e h => .ct e h
def sStuck : SM := fun _ _ => .stuck
/-- a target takes a value -/
abbrev GM := D → AE → AH → SR
def gVar (i : Nat) : GM := fun d e h => .nx (e.set i (some d)) h
def sAsg (m : EM) (g : GM) : SM := fun e h => (m e h).thenS e fun d h1 => g d e h1
def sSet (i : Nat) (m : EM) : SM := sAsg m (gVar i)

section
variable {C : Ct} {e a b c : Expr} {s : Stmt} {st st' : List Stmt} {m ma mb mc : EM} {q q' : SM} {pos : Pos}
theorem SimE.thenS {t : TE} {ma : EM} (sa : SimE C t ma) {env : AE} {h : AH} {σ : List (Option V)} {H : Hp} {ι : Nat → Addr} {f : D → AH → SR} {D : Ends} {Q' : VK} (R : Rel C.X.K ι h H) (V : RV C ι h.length H env σ)
    (p : PostS C ι h.length H ((ma env h).thenS env f) D)
    (k : ∀ d h' ι' H' v, Ext ι h.length H ι' h'.length H' → Rel C.X.K ι' h' H' → RV C ι' h'.length H' env σ → RD C.X.K ι' h'.length H' d v → PostS C ι' h'.length H' (f d h') D → Q' v H') : t σ H Q' := by
  refine sa.run env h σ H ι Q' R V ?_
  cases hm : ma env h with
  | ok d h1 =>
    rw [hm] at p
    exact fun ι' H' v x R' r => k d h1 ι' H' v x R' (V.ext R x) r (PostS.shift p x)
  | exc c fs h1 => rw [hm] at p; exact fun ι' H' Cl dd x R' mc xd => p ι' H' σ Cl dd x R' (V.ext R x) mc xd
  | stuck => rw [hm] at p; exact p
theorem mb_nil : MB C [] sPass := ⟨_, pss_nil, ⟨fun env h σ H ι D R V p => p ι H σ .refl R V⟩⟩
theorem SimS.seq {t u : TS} (s1 : SimS C t q) (s2 : SimS C u q') : SimS C (tSeq t u) (sSeq q q') := by
  refine ⟨fun env h σ H ι D R V p => ?_⟩
  refine s1.run env h σ H ι _ R V ?_
  unfold sSeq at p
  cases hm : q env h with
  | nx e h1 =>
    rw [hm] at p
    exact fun ι' H' σ' x R' V' => s2.run e h1 σ' H' ι' D R' V' (PostS.shift p x)
  | rt d h1 => rw [hm] at p; exact p
  | bk d h1 => rw [hm] at p; exact p
  | ct d h1 => rw [hm] at p; exact p
  | exc c fs e h1 => rw [hm] at p; exact p
  | stuck => rw [hm] at p; exact p
theorem mb_cons (h1 : MS C s q) (h2 : MB C st q') : MB C (s :: st) (sSeq q q') := by
  obtain ⟨t, p, s1⟩ := h1
  obtain ⟨u, p', s2⟩ := h2
  exact ⟨_, pss_cons p p', s1.seq s2⟩
theorem mb_one (h1 : MS C s q) : MB C [s] q := by
  obtain ⟨t, p, s1⟩ := h1
  exact ⟨_, pss_one p, s1⟩
theorem ms_pass : MS C (.Pass pos) sPass := ⟨_, ps_pass, ⟨fun env h σ H ι D R V p => p ι H σ .refl R V⟩⟩
theorem ms_break : MS C (.Break pos) sBreak := ⟨_, ps_break, ⟨fun env h σ H ι D R V p => p ι H σ .refl R V⟩⟩
theorem ms_continue : MS C (.Continue pos) sCont := ⟨_, ps_continue, ⟨fun env h σ H ι D R V p => p ι H σ .refl R V⟩⟩
theorem ms_never : MS C s sStuck := ⟨_, ps_never, ⟨fun env h σ H ι D R V p => p⟩⟩
theorem ms_doc {x : Str} {j : Nat} {pos' : Pos} : MS C (.Expr (.Constant (.str x) j pos) pos') sPass := ⟨_, ps_doc, ⟨fun env h σ H ι D R V p => p ι H σ .refl R V⟩⟩
theorem ms_expr (ha : ME C e m) (hs : swapsWith e none pos.line C.X.env = pure false := by rfl) : MS C (.Expr e pos) (sExpr m) := by
  obtain ⟨t, p, s1⟩ := ha
  refine ⟨_, ps_expr p hs, ⟨fun env h σ H ι D R V p => ?_⟩⟩
  exact s1.thenS R V p fun d h1 ι1 H1 v1 x1 R1 V1 r1 p1 => p1 ι1 H1 σ .refl R1 V1
theorem ms_ret (ha : ME C e m) : MS C (.Return (some e) pos) (sRet m) := by
  obtain ⟨t, p, s1⟩ := ha
  refine ⟨_, ps_ret p, ⟨fun env h σ H ι D R V p => ?_⟩⟩
  exact s1.thenS R V p fun d h1 ι1 H1 v1 x1 R1 V1 r1 p1 => p1 ι1 H1 v1 .refl R1 r1
theorem ms_retN : MS C (.Return none pos) sRetN := ⟨_, ps_retN, ⟨fun env h σ H ι D R V p => p ι H .non .refl R (RD.non.mpr rfl)⟩⟩
theorem ms_if (hc : MT C c mc) (ha : MB C st q) (hb : MB C st' q') : MS C (.If c st st' pos) (sIf mc q q') := by
  obtain ⟨tc, pc, sc⟩ := hc
  obtain ⟨ta, pa, sa⟩ := ha
  obtain ⟨tb, pb, sb⟩ := hb
  refine ⟨_, ps_if pc pa pb, ⟨fun env h σ H ι D R V p => ?_⟩⟩
  refine sc.run env h σ H ι _ R V ?_
  unfold sIf at p
  cases hm : mc env h with
  | ok d h1 =>
    rw [hm] at p
    cases d with
    | bl k =>
      refine ⟨k, rfl, fun ι' H' x R' => ?_⟩
      cases k with
      | true => exact iteT (sa.run env h1 σ H' ι' D R' (V.ext R x) (PostS.shift p x))
      | false => exact iteF (sb.run env h1 σ H' ι' D R' (V.ext R x) (PostS.shift p x))
    | _ => exact (show False from p).elim
  | exc c fs h1 => rw [hm] at p; exact fun ι' H' Cl dd x R' mc xd => p ι' H' σ Cl dd x R' (V.ext R x) mc xd
  | stuck => rw [hm] at p; exact p
theorem ms_set {i : Nat} {x : Str} {pos' : Pos} (hN : C.X.N.Nodup) (hi : C.X.N[i]? = some x) (hx : Loc C.X.env.scope x) (ha : ME C e m) (hne : ∀ y, C.ea = some y → y.i ≠ i := by exact fun _ z => nomatch z)
    (hs : swapsWith e (some (.Name x pos')) pos.line C.X.env = pure false := by rfl) (hf : C.X.fn x = true ∨ C.X.env.scope.names.lookup x = some .local := by first | exact .inl rfl | exact .inr rfl | assumption) : MS C (.Assign [.Name x pos'] e pos) (sSet i m) := by
  obtain ⟨t, p, s1⟩ := ha
  refine ⟨_, ps_set hN hi hx p hs hf, ⟨fun env h σ H ι D R V p => ?_⟩⟩
  exact s1.thenS R V p fun d h1 ι1 H1 v1 x1 R1 V1 r1 p1 => p1 ι1 H1 _ .refl R1 (V1.set i r1 hne)

/-! ### targets -/
structure SimG (C : Ct) (t : TG) (g : GM) : Prop where
  run : ∀ (d : D) (v : V) (env : AE) (h : AH) (σ : List (Option V)) (H : Hp) (ι : Nat → Addr) (Q : List (Option V) → Hp → Prop), Rel C.X.K ι h H → RV C ι h.length H env σ → RD C.X.K ι h.length H d v →
    PostS C ι h.length H (g d env h) { nx := Q, rt := fun _ _ => False } → t v σ H Q
def MG (C : Ct) (tg : Expr) (g : GM) : Prop := ∃ t, PG C.X tg t ∧ SimG C t g
structure SimGs (C : Ct) (t : TGs) (g : List D → AE → AH → SR) : Prop where
  run : ∀ (ds : List D) (vs : List V) (env : AE) (h : AH) (σ : List (Option V)) (H : Hp) (ι : Nat → Addr) (Q : List (Option V) → Hp → Prop), Rel C.X.K ι h H → RV C ι h.length H env σ → RDs C.X.K ι h.length H ds vs →
    PostS C ι h.length H (g ds env h) { nx := Q, rt := fun _ _ => False } → t vs σ H Q
def MGs (C : Ct) (tg : List Expr) (g : List D → AE → AH → SR) : Prop := ∃ t, PGs C.X tg t ∧ SimGs C t g
/-- a target lets no exception out, ends in next -/
def onlyNx (o : SR) : SR := match o with
  | .nx e h => .nx e h
  | _ => .stuck
def gNils : List D → AE → AH → SR := fun ds e h => match ds with
  | [] => .nx e h
  | _ => .stuck
def gCons (g : GM) (r : List D → AE → AH → SR) : List D → AE → AH → SR := fun ds e h => match ds with
  | d :: ds => (onlyNx (g d e h)).then fun e1 h1 => r ds e1 h1
  | _ => .stuck
def gTup (k : Nat) (r : List D → AE → AH → SR) : GM := fun d e h => match d with
  | .tup ds => if ds.length = k then r ds e h else .stuck
  | _ => .stuck
theorem mg_var {i : Nat} {x : Str} (hN : C.X.N.Nodup) (hi : C.X.N[i]? = some x) (hx : Loc C.X.env.scope x) (hne : ∀ y, C.ea = some y → y.i ≠ i := by exact fun _ z => nomatch z) (hf : C.X.fn x = true ∨ C.X.env.scope.names.lookup x = some .local := by first | exact .inl rfl | exact .inr rfl | assumption) : MG C (.Name x pos) (gVar i) :=
  ⟨_, pg_name hN hi hx hf, ⟨fun d v env h σ H ι Q R V r p => p ι H _ .refl R (V.set i r hne)⟩⟩
theorem mgs_nil : MGs C [] gNils := by
  refine ⟨_, pgs_nil, ⟨fun ds vs env h σ H ι Q R V r p => ?_⟩⟩
  cases ds with
  | nil => exact ⟨RDs.nil.mp r, p ι H σ .refl R V⟩
  | cons _ _ => exact (show False from p).elim
theorem PostS.only {ι : Nat → Addr} {n : Nat} {H : Hp} {o : SR} {D D' : Ends} (p : PostS C ι n H (onlyNx o) D) (eD : D.nx = D'.nx) : PostS C ι n H o D' := by
  cases o with
  | nx e h => exact fun ι' H' σ' x R V => by rw [← eD]; exact p ι' H' σ' x R V
  | _ => exact (show False from p).elim
theorem SR.then_only {o : SR} {f : SM} {ι : Nat → Addr} {n : Nat} {H : Hp} {D : Ends} (p : PostS C ι n H ((onlyNx o).then f) D) : ∃ e h, o = .nx e h ∧ PostS C ι n H (f e h) D := by
  cases o with
  | nx e h => exact ⟨e, h, rfl, p⟩
  | _ => exact (show False from p).elim
theorem mgs_cons {es : List Expr} {g : GM} {r : List D → AE → AH → SR} (h1 : MG C e g) (h2 : MGs C es r) (hs : (assignEach (e :: es) C.X.env).map (·.2) = assign e C.X.env :: (assignEach es C.X.env).map (·.2) := by rfl) : MGs C (e :: es) (gCons g r) := by
  obtain ⟨t, p, s1⟩ := h1
  obtain ⟨u, p', s2⟩ := h2
  refine ⟨_, pgs_cons p p' hs, ⟨fun ds vs env h σ H ι Q R V rr pp => ?_⟩⟩
  cases ds with
  | nil => exact (show False from pp).elim
  | cons d ds =>
    obtain ⟨v, vr, rfl, r1, r2⟩ := RDs.cons.mp rr
    refine ⟨v, vr, rfl, ?_⟩
    obtain ⟨e1, h1, eg, pq⟩ := SR.then_only pp
    refine s1.run d v env h σ H ι _ R V r1 ?_
    rw [eg]
    exact fun ι' H' σ' x R' V' => s2.run ds vr e1 h1 σ' H' ι' Q R' V' (r2.mono (x.grow R)) (PostS.shift pq x)
theorem mg_tup {es : List Expr} {kk k : Nat} {r : List D → AE → AH → SR} (hc : C.X.calm = true) (h : MGs C es r) (hn : (assignEach es C.X.env).length = k := by rfl) (hst : (assignEach es C.X.env).findIdx? (·.1) = none := by rfl) : MG C (.Tuple es kk pos) (gTup k r) := by
  obtain ⟨t, p, s1⟩ := h
  refine ⟨_, pg_tup hc p hn hst, ⟨fun d v env h σ H ι Q R V rr pp => ?_⟩⟩
  cases d with
  | tup ds =>
    obtain ⟨a, vs, rfl, q, r2⟩ := RD.tup.mp rr
    unfold gTup at pp
    dsimp only at pp
    by_cases hk : ds.length = k
    · rw [if_pos hk] at pp
      exact ⟨a, vs, rfl, q, by rw [← r2.length]; exact hk, s1.run ds vs env h σ H ι Q R V r2 pp⟩
    · rw [if_neg hk] at pp; exact (show False from pp).elim
  | _ => exact (show False from pp).elim
/-- a store a[i] = v, by values -/
def SetS (C : Ct) (t : TSet) (g : D → D → D → AH → Option AH) : Prop := ∀ (ι : Nat → Addr) (h : AH) (H : Hp) (x y z : V) (d1 d2 d3 : D) (h' : AH) (Q : Hp → Prop), Rel C.X.K ι h H → RD C.X.K ι h.length H d1 x → RD C.X.K ι h.length H d2 y → RD C.X.K ι h.length H d3 z →
  g d1 d2 d3 h = some h' → (∀ ι' H', Ext ι h.length H ι' h'.length H' → Rel C.X.K ι' h' H' → Q H') → t x y z H Q
def gSub (g : D → D → D → AH → Option AH) (o i : EM) : GM := fun d env h => (o env h).thenS env fun d1 h1 => (i env h1).thenS env fun d2 h2 => match g d1 d2 d h2 with
  | some h3 => .nx env h3
  | none => .stuck
theorem mg_sub {o i : Expr} {mo mi : EM} {t : TSet} {g : D → D → D → AH → Option AH} (hs : PSet C.X t) (ss : SetS C t g) (ho : ME C o mo) (hi : ME C i mi)
    (ha : ∀ v, assign (.Subscript o i pos) C.X.env v = (do
      let ov ← holding [v] (eval o C.X.env)
      let iv ← holding [v, ov] (eval i C.X.env)
      standAt pos
      holding [v, ov, iv] (setItem ov iv v)
      release [v, ov, iv] []) := by intro _; rfl) : MG C (.Subscript o i pos) (gSub g mo mi) := by
  obtain ⟨ta, pa, sa⟩ := ho
  obtain ⟨tb, pb, sb⟩ := hi
  refine ⟨_, pg_sub pa pb hs ha, ⟨fun d v env h σ H ι Q R V r p => ?_⟩⟩
  refine sa.thenS R V p fun d1 h1 ι1 H1 v1 x1 R1 V1 r1 p1 => ?_
  refine sb.thenS R1 V1 p1 fun d2 h2 ι2 H2 v2 x2 R2 V2 r2 p2 => ?_
  cases hg : g d1 d2 d h2 with
  | none => rw [hg] at p2; exact (show False from p2).elim
  | some h3 =>
    rw [hg] at p2
    exact ss ι2 h2 H2 v1 v2 v d1 d2 d h3 _ R2 (r1.mono (x2.grow R1)) r2 (r.mono ((x1.trans x2).grow R)) hg fun ι3 H3 x3 R3 => p2 ι3 H3 σ x3 R3 (V2.ext R2 x3)
theorem ms_asg {tg : Expr} {g : GM} (ha : ME C e m) (hg : MG C tg g) (hs : swapsWithSole [tg] e pos.line C.X.env = pure false := by rfl) (hw : swappedStores [tg] e C.X.env = pure none := by rfl)
    (h1 : (assignEach [tg] C.X.env).map (·.2) = [assign tg C.X.env] := by rfl) : MS C (.Assign [tg] e pos) (sAsg m (fun d e h => onlyNx (g d e h))) := by
  obtain ⟨t, p, s1⟩ := ha
  obtain ⟨u, p', s2⟩ := hg
  refine ⟨_, ps_asg p p' hs hw h1, ⟨fun env h σ H ι D R V p => ?_⟩⟩
  exact s1.thenS R V p fun d h1 ι1 H1 v1 x1 R1 V1 r1 p1 => s2.run d v1 env h1 σ H1 ι1 _ R1 V1 r1 (PostS.only p1 rfl)
/-- a, b = x, y with local names -/
def sPar (i j : Nat) (l : LM) : SM := fun e h => match l e h with
  | .ok [d1, d2] h1 => .nx ((e.set i (some d1)).set j (some d2)) h1
  | .exc c fs h1 => .exc c fs e h1
  | _ => .stuck
theorem ms_par {i j : Nat} {x y : Str} {ml : LM} {px py pt : Pos} {kt k2 : Nat} {pt2 : Pos} (hc : C.X.calm = true) (hN : C.X.N.Nodup) (hi : C.X.N[i]? = some x) (hj : C.X.N[j]? = some y) (hij : i ≠ j)
    (hx : C.X.env.scope.names.lookup x = some .local) (hy : C.X.env.scope.names.lookup y = some .local) (ha : MA C [a, b] ml)
    (hw : swappedStores [.Tuple [.Name x px, .Name y py] kt pt] (.Tuple [a, b] k2 pt2) C.X.env = pure (some [x, y])) (hne : C.ea = none := by rfl)
    (hs : swapsWithSole [.Tuple [.Name x px, .Name y py] kt pt] (.Tuple [a, b] k2 pt2) pos.line C.X.env = pure false := by rfl) :
    MS C (.Assign [.Tuple [.Name x px, .Name y py] kt pt] (.Tuple [a, b] k2 pt2) pos) (sPar i j ml) := by
  obtain ⟨t, p, s1⟩ := ha
  refine ⟨_, ps_par hc hN hi hj hij hx hy p hw hs, ⟨fun env h σ H ι D R V p => ?_⟩⟩
  refine s1.run env h σ H ι _ R V ?_
  unfold sPar at p
  have nea : ∀ y, C.ea = some y → ∀ k, y.i ≠ k := fun y z => by rw [hne] at z; cases z
  cases hm : ml env h with
  | ok ds h1 =>
    rw [hm] at p
    match ds, p with
    | [d1, d2], p =>
      refine fun ι' H' vs x R' r => ?_
      obtain ⟨v1, r1, rfl, q1, q2⟩ := RDs.cons.mp r
      obtain ⟨v2, r2, rfl, q3, q4⟩ := RDs.cons.mp q2
      cases RDs.nil.mp q4
      exact ⟨v1, v2, rfl, p ι' H' _ x R' (((V.ext R x).set i q1 fun y z => nea y z i).set j q3 fun y z => nea y z j)⟩
    | [], p => exact (show False from p).elim
    | [_], p => exact (show False from p).elim
    | _ :: _ :: _ :: _, p => exact (show False from p).elim
  | exc c fs h1 => rw [hm] at p; exact fun ι' H' Cl dd x R' mc xd => p ι' H' σ Cl dd x R' (V.ext R x) mc xd
  | stuck => rw [hm] at p; exact p
/-- name op= e -/
def sAug (i : Nat) (g : D → D → AH → ER) (m : EM) : SM := fun e h => match e[i]? with
  | some (some d) => (m e h).thenS e fun d2 h1 => (g d d2 h1).thenS e fun d3 h2 => .nx (e.set i (some d3)) h2
  | _ => .stuck
theorem ms_aug {i : Nat} {x : Str} {op : Operator} {r : R2} {g : D → D → AH → ER} {pos' : Pos} (ho : OpR C.X (inplaceOp op) r) (hs : OpS C r g) (hN : C.X.N.Nodup) (hi : C.X.N[i]? = some x) (hx : Loc C.X.env.scope x) (ha : ME C e m)
    (hne : ∀ y, C.ea = some y → y.i ≠ i := by exact fun _ z => nomatch z) (hf : C.X.fn x = true ∨ C.X.env.scope.names.lookup x = some .local := by first | exact .inl rfl | exact .inr rfl | assumption) : MS C (.AugAssign (.Name x pos') op e pos) (sAug i g m) := by
  obtain ⟨t, p, s1⟩ := ha
  have hp : PIp C.X op r := fun pins s σ H x y v u Q I rx ry hh => ho pins s σ H x y v u Q I rx ry hh
  refine ⟨_, ps_aug hN hi hx p hp hf, ⟨fun env h σ H ι D R V p => ?_⟩⟩
  unfold sAug at p
  split at p
  · rename_i d0 e0
    obtain ⟨v0, e1, r0⟩ := V.re.at_ i d0 e0
    refine ⟨v0, e1, ?_⟩
    refine s1.thenS R V p fun d h1 ι1 H1 v1 x1 R1 V1 r1 p1 => ?_
    refine hs ι1 h1 H1 σ v0 v1 d0 d _ R1 (r0.mono (x1.grow R)) r1 ?_
    cases hm : g d0 d h1 with
    | ok d3 h2 =>
      rw [hm] at p1
      exact fun ι2 H2 v2 x2 R2 r2 => p1 ι2 H2 _ x2 R2 ((V1.ext R1 x2).set i r2 hne)
    | exc c fs h2 => rw [hm] at p1; exact fun ι' H' Cl dd x R' mc xd => p1 ι' H' σ Cl dd x R' (V1.ext R1 x) mc xd
    | stuck => rw [hm] at p1; exact p1
  · exact p.elim
end

/-! ### while -/
/-- behind a turn's body: once more, or out -/
def again (r : SR) (k : SM) : SR := match r with
  | .nx e h => k e h
  | .ct e h => k e h
  | .bk e h => .nx e h
  | .rt d h => .rt d h
  | .exc c fs e h => .exc c fs e h
  | .stuck => .stuck
def whileN (c : EM) (b : SM) : Nat → SM
  | 0 => fun _ _ => .stuck
  | k + 1 => fun e h => (c e h).thenS e fun d h1 => match d with
    | .bl true => again (b e h1) (whileN c b k)
    | .bl false => .nx e h1
    | _ => .stuck
open Classical in
noncomputable def sWhile (c : EM) (b : SM) : SM := fun e h => if hk : ∃ k, whileN c b k e h ≠ .stuck then whileN c b hk.choose e h else .stuck
section
variable {C : Ct} {c : Expr} {st : List Stmt} {mc : EM} {q : SM} {pos : Pos}
/-- a body of a loop: k is what the next turns do -/
theorem PostS.again {ι : Nat → Addr} {n : Nat} {H : Hp} {r : SR} {k : SM} {D : Ends} {N : List (Option V) → Hp → Prop} (p : PostS C ι n H (again r k) D)
    (hN : ∀ env h ι' H' σ, Ext ι n H ι' h.length H' → Rel C.X.K ι' h H' → RV C ι' h.length H' env σ → PostS C ι' h.length H' (k env h) D → N σ H') : PostS C ι n H r { D with nx := N, ct := N, bk := D.nx } := by
  cases r with
  | nx e h => exact fun ι' H' σ x R V => hN e h ι' H' σ x R V (PostS.shift p x)
  | ct e h => exact fun ι' H' σ x R V => hN e h ι' H' σ x R V (PostS.shift p x)
  | bk e h => exact p
  | rt e h => exact p
  | exc c fs e h => exact p
  | stuck => exact p
theorem ms_while (hp : PassesOwn (model C.X.prog C.X.w) C.X.A C.X.env C.X.xe) (hc : MT C c mc) (hb : MB C st q) : MS C (.While c st [] pos) (sWhile mc q) := by
  obtain ⟨tc, pc, sc⟩ := hc
  obtain ⟨tb, pb, sb⟩ := hb
  refine ⟨_, ps_while hp pc pb, ⟨fun env h σ H ι D R V p => ?_⟩⟩
  unfold sWhile at p
  split at p
  · rename_i hk
    generalize hk.choose = k at p
    refine ⟨fun k σ H => ∃ env h ι, Rel C.X.K ι h H ∧ RV C ι h.length H env σ ∧ PostS C ι h.length H (whileN mc q k env h) D, ⟨k, env, h, ι, R, V, p⟩, ?_⟩
    rintro k σ H ⟨env, h, ι, R, V, p⟩
    cases k with
    | zero => exact (show False from p).elim
    | succ k =>
      refine sc.run env h σ H ι _ R V ?_
      unfold whileN at p
      cases hm : mc env h with
      | ok d h1 =>
        rw [hm] at p
        cases d with
        | bl b =>
          refine ⟨b, rfl, fun ι' H' x R' => ?_⟩
          cases b with
          | true =>
            refine iteT ⟨fun σ H => ∃ env h ι, Rel C.X.K ι h H ∧ RV C ι h.length H env σ ∧ PostS C ι h.length H (whileN mc q k env h) D, fun σ' H' hq => ⟨k, Nat.lt_succ_self k, hq⟩, ?_⟩
            refine sb.run env h1 σ H' ι' _ R' (V.ext R x) ?_
            exact PostS.again (PostS.shift (o := again (q env h1) (whileN mc q k)) p x) fun e2 h2 ι2 H2 σ2 x2 R2 V2 p2 => ⟨e2, h2, ι2, R2, V2, p2⟩
          | false => exact iteF (p ι' H' σ x R' (V.ext R x))
        | _ => exact (show False from p).elim
      | exc c fs h1 => rw [hm] at p; exact fun ι' H' Cl dd x R' mc xd => p ι' H' σ Cl dd x R' (V.ext R x) mc xd
      | stuck => rw [hm] at p; exact p
  · exact p.elim
end
/-- once it ends within k turns, it ends so -/
theorem whileN_mono {c : EM} {b : SM} : ∀ {k j : Nat} {e : AE} {h : AH}, k ≤ j → whileN c b k e h ≠ .stuck → whileN c b j e h = whileN c b k e h
  | 0, j, e, h, _, hn => absurd rfl hn
  | k + 1, 0, e, h, hj, _ => absurd hj (Nat.not_succ_le_zero k)
  | k + 1, j + 1, e, h, hj, hn => by
    unfold whileN at hn ⊢
    cases hc : c e h with
    | ok d h1 =>
      rw [hc] at hn
      cases d with
      | bl v =>
        cases v with
        | true =>
          show again (b e h1) (whileN c b j) = again (b e h1) (whileN c b k)
          have hn : again (b e h1) (whileN c b k) ≠ .stuck := hn
          cases hb : b e h1 with
          | nx e2 h2 => rw [hb] at hn; exact whileN_mono (Nat.le_of_succ_le_succ hj) hn
          | ct e2 h2 => rw [hb] at hn; exact whileN_mono (Nat.le_of_succ_le_succ hj) hn
          | bk e2 h2 => rfl
          | rt e2 h2 => rfl
          | exc c2 f2 e2 h2 => rfl
          | stuck => rfl
        | false => rfl
      | _ => rfl
    | exc c2 fs h1 => rfl
    | stuck => rfl
theorem sWhile_eq {c : EM} {b : SM} {k : Nat} {e : AE} {h : AH} {r : SR} (hr : whileN c b k e h = r) (hn : r ≠ .stuck) : sWhile c b e h = r := by
  have hk : ∃ k, whileN c b k e h ≠ .stuck := ⟨k, by rw [hr]; exact hn⟩
  unfold sWhile
  rw [dif_pos hk]
  have h1 := hk.choose_spec
  rcases Nat.le_total k hk.choose with l | l
  · rw [whileN_mono l (by rw [hr]; exact hn)]; exact hr
  · rw [← whileN_mono l h1]; exact hr
end Rf

set_option maxHeartbeats 1000000
namespace Rf
open PySem PySem.Spec PyProof.Rows L2

/-! ### what is walked -/
/-- n: at most so many turns; nxt: at a turn, in a heap: the item, or none at the end -/
structure AIt where
  n : Nat
  nxt : Nat → AH → Option (Option D)
inductive IR where
  | ok (it : AIt) (h : AH)
  | exc (c : Str) (fs : List (Str × D)) (h : AH)
  | stuck
abbrev IM := AE → AH → IR
def forN (it : AIt) (g : GM) (b : SM) : Nat → Nat → SM
  | 0, _ => fun _ _ => .stuck
  | k + 1, i => fun e h => match it.nxt i h with
    | some none => .nx e h
    | some (some d) => again ((onlyNx (g d e h)).then b) (forN it g b k (i + 1))
    | none => .stuck
def sFor (mi : IM) (g : GM) (b : SM) : SM := fun e h => match mi e h with
  | .ok it h1 => forN it g b (it.n + 1) 0 e h1
  | .exc c fs h1 => .exc c fs e h1
  | .stuck => .stuck
/-- J does what it tells, from this heap on -/
def ItR (K : PySem.W.Frag) (J : It) (it : AIt) (ι : Nat → Addr) (n : Nat) (H : Hp) : Prop := ∀ i ι' h' H', Ext ι n H ι' h'.length H' → Rel K ι' h' H' →
  (it.nxt i h' = some none → J.stop i H') ∧
  ∀ d, it.nxt i h' = some (some d) → J.go i H' ∧ ∀ x H2, J.yld i H' x H2 → ∃ ι2, Ext ι' h'.length H' ι2 h'.length H2 ∧ Rel K ι2 h' H2 ∧ RD K ι2 h'.length H2 d x
def PostI (C : Ct) (ι : Nat → Addr) (n : Nat) (H : Hp) (σ : List (Option V)) (o : IR) (Q : It → Hp → Prop) : Prop := match o with
  | .ok it h' => ∀ ι' H' J, Ext ι n H ι' h'.length H' → Rel C.X.K ι' h' H' → ItR C.X.K J it ι' h'.length H' → Q J H'
  | .exc c fs h' => ∀ ι' H' Cl dd, Ext ι n H ι' h'.length H' → Rel C.X.K ι' h' H' → C.X.mg c = some (.ref Cl) → XD C.X.K ι' h'.length H' dd fs → C.W (.ref Cl) dd σ H'
  | .stuck => False
structure SimI (C : Ct) (t : TI) (m : IM) : Prop where
  run : ∀ (env : AE) (h : AH) (σ : List (Option V)) (H : Hp) (ι : Nat → Addr) (Q : It → Hp → Prop), Rel C.X.K ι h H → RV C ι h.length H env σ → PostI C ι h.length H σ (m env h) Q → t σ H Q
def MI (C : Ct) (tg e : Expr) (m : IM) : Prop := ∃ t, PI C.X tg e t ∧ SimI C t m

section
variable {C : Ct} {e tg iter : Expr} {st : List Stmt} {m : EM} {mi : IM} {g : GM} {q : SM} {pos : Pos}
theorem ms_for (hp : PassesOwn (model C.X.prog C.X.w) C.X.A C.X.env C.X.xe) (hc : C.X.calm = true) (hi : MI C tg iter mi) (hg : MG C tg g) (hb : MB C st q) (hs : ∀ x, foldedSetIterable iter C.X.env x = pure x := by intro _; rfl) :
    MS C (.For tg iter st [] pos) (sFor mi g q) := by
  obtain ⟨ti, pi, si⟩ := hi
  obtain ⟨tg', pg, sg⟩ := hg
  obtain ⟨tb, pb, sb⟩ := hb
  refine ⟨_, ps_for hp hc pi pg pb hs, ⟨fun env h σ H ι D R V p => ?_⟩⟩
  refine si.run env h σ H ι _ R V ?_
  unfold sFor at p
  cases hm : mi env h with
  | ok it h1 =>
    rw [hm] at p
    refine fun ι0 H0 J x0 R0 J0 => ?_
    refine ⟨fun i m σ H => ∃ env h ι, Ext ι0 h1.length H0 ι h.length H ∧ Rel C.X.K ι h H ∧ RV C ι h.length H env σ ∧ PostS C ι h.length H (forN it g q m i env h) D,
      ⟨it.n + 1, env, h1, ι0, .refl, R0, V.ext R x0, PostS.shift p x0⟩, ?_⟩
    rintro i m σ H ⟨env, h, ι, x, R, V, p⟩
    cases m with
    | zero => exact (show False from p).elim
    | succ m =>
      unfold forN at p
      obtain ⟨j1, j2⟩ := J0 i ι h H x R
      cases hn : it.nxt i h with
      | none => rw [hn] at p; exact (show False from p).elim
      | some od =>
        rw [hn] at p
        cases od with
        | none => exact .inl ⟨j1 hn, p ι H σ .refl R V⟩
        | some d =>
          obtain ⟨go, y⟩ := j2 d hn
          refine .inr ⟨go, fun σ H => ∃ env h ι, Ext ι0 h1.length H0 ι h.length H ∧ Rel C.X.K ι h H ∧ RV C ι h.length H env σ ∧ PostS C ι h.length H (forN it g q m (i + 1) env h) D,
            fun σ' H' hq => ⟨m, Nat.lt_succ_self m, hq⟩, fun xv H2 hy => ?_⟩
          obtain ⟨ι2, x2, R2, r2⟩ := y xv H2 hy
          have p : PostS C ι h.length H (again ((onlyNx (g d env h)).then q) (forN it g q m (i + 1))) D := p
          have p2 := PostS.shift p x2
          refine sg.run d xv env h σ H2 ι2 _ R2 (V.ext R x2) r2 ?_
          cases hgd : g d env h with
          | nx e3 h3 =>
            rw [hgd] at p2
            refine fun ι3 H3 σ3 x3 R3 V3 => ?_
            refine sb.run e3 h3 σ3 H3 ι3 _ R3 V3 ?_
            exact PostS.again (PostS.shift p2 x3) fun e4 h4 ι4 H4 σ4 x4 R4 V4 p4 => ⟨e4, h4, ι4, x.trans (x2.trans (x3.trans x4)), R4, V4, p4⟩
          | _ => rw [hgd] at p2; exact (show False from p2).elim
  | exc c fs h1 => rw [hm] at p; exact fun ι' H' Cl dd x R' mc xd => p ι' H' σ Cl dd x R' (V.ext R x) mc xd
  | stuck => rw [hm] at p; exact p
end

/-! ### the weakest reading of a plain function -/
def canE (C : Ct) (m : EM) : TE := fun σ H Q => ∃ env h ι, Rel C.X.K ι h H ∧ RV C ι h.length H env σ ∧ PostE C ι h.length H σ (m env h) Q
def canT (C : Ct) (m : EM) : TT := fun σ H Q => ∃ env h ι, Rel C.X.K ι h H ∧ RV C ι h.length H env σ ∧ PostT C ι h.length H σ (m env h) Q
theorem ME.can {C : Ct} {e : Expr} {m : EM} (h : ME C e m) : PE C.X e (canE C m) := by
  obtain ⟨t, p, s⟩ := h
  exact ⟨fun pins st σ H Q I ⟨env, h, ι, R, V, q⟩ => p.run pins st σ H Q I (s.run env h σ H ι Q R V q)⟩
theorem MT.can {C : Ct} {e : Expr} {m : EM} (h : MT C e m) : PT C.X e (canT C m) := by
  obtain ⟨t, p, s⟩ := h
  exact ⟨fun pins st σ H Q I ⟨env, h, ι, R, V, q⟩ => p.run pins st σ H Q I (s.run env h σ H ι Q R V q)⟩

/-! ### comprehensions -/
/-- the context of a comprehension's block -/
abbrev Ct.blk (C : Ct) (s : Shared) (H : Hp) (scope : Scope) (Cc : Addr) (cl : List (Str × Addr)) (fp : List Addr) : Ct := ⟨C.X.blk s H scope (compEnvC scope cl Cc C.X.env) fp, fun _ _ _ _ => False, none⟩
/-- what the readings of a block's parts lean on -/
abbrev Ct.flat (C : Ct) : Ct := ⟨C.X, fun _ _ _ _ => False, none⟩
/-- of a length that a list, a tuple, a text may have -/
def Fits (n : Nat) : Prop := n ≤ sizeLine
def FitsL (n : Nat) : Prop := n < sizeLine
noncomputable instance {n : Nat} : Decidable (Fits n) := Classical.propDecidable _
noncomputable instance {n : Nat} : Decidable (FitsL n) := Classical.propDecidable _
def wipeE (e : AE) : List Nat → AE
  | [] => e
  | v :: vs => (wipeE e vs).set v none
/-- the tests and the element at the items from i on -/
noncomputable def lcN (it : AIt) (g : GM) (tt : EM) (te : EM) (e0 : AE) : Nat → Nat → List D → AH → ER ⊕ (List D × AH)
  | 0, _ => fun _ _ => .inl .stuck
  | k + 1, i => fun acc h => match it.nxt i h with
    | some none => .inr (acc, h)
    | some (some d) => (match g d e0 h with
      | .nx e1 h1 => (match tt e1 h1 with
        | .ok (.bl true) h2 => (match te e1 h2 with
          | .ok d2 h3 => if FitsL acc.length then lcN it g tt te e0 k (i + 1) (acc ++ [d2]) h3 else .inl .stuck
          | _ => .inl .stuck)
        | .ok (.bl false) h2 => lcN it g tt te e0 k (i + 1) acc h2
        | _ => .inl .stuck)
      | _ => .inl .stuck)
    | none => .inl .stuck
noncomputable def eLc (mi : IM) (g : GM) (tt : EM) (te : EM) (vs : List Nat) : EM := fun e h => match mi e h with
  | .ok it h1 => (match lcN it g tt te (wipeE e vs) (it.n + 1) 0 [] h1 with
    | .inr (acc, h2) => .ok (.ref h2.length) (h2 ++ [.lst acc])
    | .inl _ => .stuck)
  | .exc c fs h1 => .exc c fs h1
  | .stuck => .stuck
section
variable {K : PySem.W.Frag} {C : Ct} {ι ι' : Nat → Addr} {n n' : Nat} {H H' : Hp} {h h' : AH} {env : AE} {σ : List (Option V)} {d : D} {ds : List D} {v : V} {xs : List V} {a p : Addr} {i : Nat} {o : AO} {ho : HO}
theorem RE.wipe (r : RE K ι n H env σ) : ∀ vs : List Nat, RE K ι n H (wipeE env vs) (L2.wipe σ vs)
  | [] => r
  | v :: vs => (RE.wipe r vs).forget v none
/-- a fresh number -/
def ιset (ι : Nat → Addr) (n : Nat) (p : Addr) : Nat → Addr := fun i => if i = n then p else ι i
theorem ιset_same : ιset ι n p n = p := if_pos rfl
theorem ιset_ne (hi : i ≠ n) : ιset ι n p i = ι i := if_neg hi
theorem ιset_lt (hi : i < n) : ιset ι n p i = ι i := if_neg (Nat.ne_of_lt hi)
theorem Ext.tup (hp : H p = none) : Ext ι n H ι n (upd H p ho) := by
  refine ⟨Nat.le_refl _, fun _ _ => rfl, fun i h1 h2 => absurd h2 (Nat.not_lt.mpr h1), fun b o e _ => ?_, fun b e => ?_⟩
  · rw [upd_ne (ne_of_none e hp)]; exact e
  · unfold upd at e
    split at e
    · cases e
    · exact e
theorem Rel.at_ne (R : Rel K ι h H) (hi : i < h.length) (hp : H p = none) : ι i ≠ p := fun e => by
  have q := R.mut hi
  rw [e, hp] at q
  exact q
theorem Rel.tup (R : Rel K ι h H) (hp : H p = none) (x : Ext ι h.length H ι h.length (upd H p ho)) : Rel K ι h (upd H p ho) := by
  refine ⟨R.inj, fun i o e => ?_⟩
  have hi : i < h.length := (List.getElem?_eq_some_iff.mp e).1
  exact RO.mono (H0 := H) (x.grow R) (upd_ne (R.at_ne hi hp)) (R.ob i o e)
/-- a new thing of the abstract heap -/
theorem Ext.new (hp : H p = none) : Ext ι n H (ιset ι n p) (n + 1) (upd H p ho) := by
  refine ⟨Nat.le_succ _, fun i hi => ιset_lt hi, fun i h1 h2 => ?_, fun b o e _ => ?_, fun b e => ?_⟩
  · have e : i = n := by omega
    rw [e, ιset_same]; exact hp
  · rw [upd_ne (ne_of_none e hp)]; exact e
  · unfold upd at e
    split at e
    · cases e
    · exact e
theorem Rel.new (R : Rel K ι h H) (hp : H p = none) (hn : Ext ι h.length H (ιset ι h.length p) (h.length + 1) (upd H p ho) → RO K (ιset ι h.length p) (h.length + 1) (upd H p ho) o p) : Rel K (ιset ι h.length p) (h ++ [o]) (upd H p ho) := by
  have x : Ext ι h.length H (ιset ι h.length p) (h.length + 1) (upd H p ho) := Ext.new hp
  refine ⟨fun i j hi hj e => ?_, fun i o' e => ?_⟩
  · simp only [List.length_append, List.length_cons, List.length_nil] at hi hj
    by_cases h1 : i = h.length
    · by_cases h2 : j = h.length
      · rw [h1, h2]
      · rw [h1, ιset_same, ιset_ne h2] at e
        exact absurd e.symm (R.at_ne (by omega) hp)
    · by_cases h2 : j = h.length
      · rw [h2, ιset_same, ιset_ne h1] at e
        exact absurd e (R.at_ne (by omega) hp)
      · rw [ιset_ne h1, ιset_ne h2] at e
        exact R.inj i j (by omega) (by omega) e
  · simp only [List.length_append, List.length_cons, List.length_nil]
    by_cases h1 : i < h.length
    · rw [List.getElem?_append_left h1] at e
      have q := R.ob i o' e
      rw [ιset_lt h1]
      exact RO.mono (H0 := H) (x.grow R) (upd_ne (R.at_ne h1 hp)) q
    · have hi : i = h.length := by
        have := (List.getElem?_eq_some_iff.mp e).1
        simp only [List.length_append, List.length_cons, List.length_nil] at this
        omega
      subst hi
      rw [List.getElem?_append_right (Nat.le_refl _)] at e
      simp only [Nat.sub_self, List.getElem?_cons_zero, Option.some.injEq] at e
      subst e
      rw [ιset_same]
      exact hn x
/-- a thing changed -/
theorem Ext.put (R : Rel K ι h H) (hi : i < h.length) : Ext ι h.length H ι h.length (upd H (ι i) ho) := by
  refine ⟨Nat.le_refl _, fun _ _ => rfl, fun j h1 h2 => absurd h2 (Nat.not_lt.mpr h1), fun b o e hb => ?_, fun b e => ?_⟩
  · rw [upd_ne (Ne.symm (hb i hi))]; exact e
  · unfold upd at e
    split at e
    · cases e
    · exact e
theorem Rel.put (R : Rel K ι h H) (hi : i < h.length) (hn : Ext ι h.length H ι h.length (upd H (ι i) ho) → RO K ι h.length (upd H (ι i) ho) o (ι i)) : Rel K ι (h.set i o) (upd H (ι i) ho) := by
  have x : Ext ι h.length H ι h.length (upd H (ι i) ho) := Ext.put R hi
  refine ⟨fun a b ha hb => R.inj a b (by simpa using ha) (by simpa using hb), fun j o' e => ?_⟩
  rw [List.length_set]
  by_cases hj : i = j
  · subst hj
    rw [List.getElem?_set_self hi] at e
    simp only [Option.some.injEq] at e
    subst e
    exact hn x
  · rw [List.getElem?_set_ne hj] at e
    have hjl : j < h.length := (List.getElem?_eq_some_iff.mp e).1
    have q := R.ob j o' e
    exact RO.mono (H0 := H) (x.grow R) (upd_ne fun z => hj (R.inj i j hi hjl z.symm)) q
/-- a list that the abstract heap does not know is laid there -/
theorem Rel.take (R : Rel K ι h H) (hD : H p = some (.lst xs)) (hne : ∀ i, i < h.length → ι i ≠ p) (r : RDs K ι h.length H ds xs) : Rel K (ιset ι h.length p) (h ++ [.lst ds]) H := by
  have g : Grow K ι h.length H (ιset ι h.length p) (h.length + 1) H := ⟨Nat.le_succ _, fun i hi => ιset_lt hi, fun _ _ q => q, fun _ _ q => q⟩
  refine ⟨fun i j hi hj e => ?_, fun i o' e => ?_⟩
  · simp only [List.length_append, List.length_cons, List.length_nil] at hi hj
    by_cases h1 : i = h.length
    · by_cases h2 : j = h.length
      · rw [h1, h2]
      · rw [h1, ιset_same, ιset_ne h2] at e
        exact absurd e.symm (hne j (by omega))
    · by_cases h2 : j = h.length
      · rw [h2, ιset_same, ιset_ne h1] at e
        exact absurd e (hne i (by omega))
      · rw [ιset_ne h1, ιset_ne h2] at e
        exact R.inj i j (by omega) (by omega) e
  · simp only [List.length_append, List.length_cons, List.length_nil]
    by_cases h1 : i < h.length
    · rw [List.getElem?_append_left h1] at e
      rw [ιset_lt h1]
      exact RO.mono (H0 := H) g rfl (R.ob i o' e)
    · have hi : i = h.length := by
        have := (List.getElem?_eq_some_iff.mp e).1
        simp only [List.length_append, List.length_cons, List.length_nil] at this
        omega
      subst hi
      rw [List.getElem?_append_right (Nat.le_refl _)] at e
      simp only [Nat.sub_self, List.getElem?_cons_zero, Option.some.injEq] at e
      subst e
      rw [ιset_same]
      exact ⟨xs, hD, r.mono g⟩
end
/-- a target that stores to the slots vs alone -/
def OnlyAt (t : TG) (vs : List Nat) : Prop := ∀ v σ H Q, t v σ H Q → t v σ H fun σ' H' => L2.wipe σ' vs = L2.wipe σ vs ∧ Q σ' H'
theorem wipe_set {σ : L2.St} {i : Nat} {x : Option V} : ∀ {vs : List Nat}, i ∈ vs → L2.wipe (σ.set i x) vs = L2.wipe σ vs
  | v :: vs, h => by
    unfold L2.wipe
    by_cases hv : i = v
    · subst hv
      by_cases hm : i ∈ vs
      · rw [wipe_set hm]
      · have : ∀ vs : List Nat, L2.wipe (List.set σ i x) vs = List.set (L2.wipe σ vs) i (if i ∈ vs then none else x) ∨ True := fun _ => .inr trivial
        have key : ∀ vs : List Nat, i ∉ vs → L2.wipe (List.set σ i x) vs = List.set (L2.wipe σ vs) i x := by
          intro vs
          induction vs with
          | nil => intro _; rfl
          | cons w ws ih =>
            intro hn
            have h1 : i ≠ w := fun e => hn (by rw [e]; exact List.mem_cons_self)
            have h2 : i ∉ ws := fun e => hn (List.mem_cons_of_mem _ e)
            unfold L2.wipe
            rw [ih h2, List.set_comm _ _ h1]
        rw [key vs hm, List.set_set]
    · have hm : i ∈ vs := by
        rcases List.mem_cons.mp h with e | e
        · exact absurd e hv
        · exact e
      rw [wipe_set hm]
theorem wipe_wipe {σ : L2.St} {vs : List Nat} : ∀ {ws : List Nat}, (∀ i ∈ ws, i ∈ vs) → L2.wipe (L2.wipe σ ws) vs = L2.wipe σ vs
  | [], _ => rfl
  | w :: ws, h => by
    show L2.wipe (List.set (L2.wipe σ ws) w none) vs = _
    rw [wipe_set (h w List.mem_cons_self)]
    exact wipe_wipe fun i hi => h i (List.mem_cons_of_mem _ hi)
theorem OnlyAt.at_ {t : TG} {vs : List Nat} (o : OnlyAt t vs) {v : V} {σ W : L2.St} {H : Hp} {Q : L2.St → Hp → Prop} (h : L2.wipe σ vs = W) (q : t v σ H Q) : t v σ H fun σ' H' => L2.wipe σ' vs = W ∧ Q σ' H' := by
  subst h
  exact o v σ H Q q
def MGc (C : Ct) (tg : Expr) (g : GM) (t : TG) (vs : List Nat) : Prop := PG C.X tg t ∧ SimG C t g ∧ OnlyAt t vs
def MGcs (C : Ct) (tg : List Expr) (g : List D → AE → AH → SR) (t : TGs) (vs : List Nat) : Prop := PGs C.X tg t ∧ SimGs C t g ∧ ∀ v σ H Q, t v σ H Q → t v σ H fun σ' H' => L2.wipe σ' vs = L2.wipe σ vs ∧ Q σ' H'
section
variable {C : Ct} {pos : Pos} {vs : List Nat}
theorem mgc_var {i : Nat} {x : Str} (hN : C.X.N.Nodup) (hi : C.X.N[i]? = some x) (hx : Loc C.X.env.scope x) (hv : i ∈ vs) (hne : ∀ y, C.ea = some y → y.i ≠ i := by exact fun _ z => nomatch z) (hf : C.X.fn x = true ∨ C.X.env.scope.names.lookup x = some .local := by first | exact .inl rfl | exact .inr rfl | assumption) : MGc C (.Name x pos) (gVar i) (gName i) vs :=
  ⟨pg_name hN hi hx hf, ⟨fun d v env h σ H ι Q R V r p => p ι H _ .refl R (V.set i r hne)⟩, fun v σ H Q q => ⟨wipe_set hv, q⟩⟩
theorem mgcs_nil : MGcs C [] gNils L2.gNil vs := by
  refine ⟨pgs_nil, ⟨fun ds vs env h σ H ι Q R V r p => ?_⟩, fun v σ H Q q => ⟨q.1, rfl, q.2⟩⟩
  cases ds with
  | nil => exact ⟨RDs.nil.mp r, p ι H σ .refl R V⟩
  | cons _ _ => exact (show False from p).elim
theorem mgcs_cons {e : Expr} {es : List Expr} {g : GM} {r : List D → AE → AH → SR} {t : TG} {u : TGs} (h1 : MGc C e g t vs) (h2 : MGcs C es r u vs) (hs : (assignEach (e :: es) C.X.env).map (·.2) = assign e C.X.env :: (assignEach es C.X.env).map (·.2) := by rfl)
    (mono : ∀ v σ H (Q Q' : List (Option V) → Hp → Prop), (∀ a b, Q a b → Q' a b) → t v σ H Q → t v σ H Q') : MGcs C (e :: es) (gCons g r) (L2.gCons t u) vs := by
  obtain ⟨p, s1, o1⟩ := h1
  obtain ⟨p', s2, o2⟩ := h2
  refine ⟨pgs_cons p p' hs, ⟨fun ds vs env h σ H ι Q R V rr pp => ?_⟩, fun v σ H Q q => ?_⟩
  · cases ds with
    | nil => exact (show False from pp).elim
    | cons d ds =>
      obtain ⟨v, vr, rfl, r1, r2⟩ := RDs.cons.mp rr
      refine ⟨v, vr, rfl, ?_⟩
      obtain ⟨e1, h1, eg, pq⟩ := SR.then_only pp
      refine s1.run d v env h σ H ι _ R V r1 ?_
      rw [eg]
      exact fun ι' H' σ' x R' V' => s2.run ds vr e1 h1 σ' H' ι' Q R' V' (r2.mono (x.grow R)) (PostS.shift pq x)
  · obtain ⟨x, r, rfl, q⟩ := q
    refine ⟨x, r, rfl, ?_⟩
    refine mono _ _ _ _ _ (fun a b hq => ?_) (o1 _ _ _ _ q)
    obtain ⟨e1, q1⟩ := hq
    have := o2 r a b Q q1
    rw [e1] at this
    exact this
theorem mono_name {i : Nat} : ∀ v σ H (Q Q' : List (Option V) → Hp → Prop), (∀ a b, Q a b → Q' a b) → gName i v σ H Q → gName i v σ H Q' := fun _ _ _ _ _ f q => f _ _ q
theorem mgc_tup {es : List Expr} {kk k : Nat} {r : List D → AE → AH → SR} {u : TGs} (hc : C.X.calm = true) (h : MGcs C es r u vs) (hn : (assignEach es C.X.env).length = k := by rfl) (hst : (assignEach es C.X.env).findIdx? (·.1) = none := by rfl) : MGc C (.Tuple es kk pos) (gTup k r) (L2.gTup C.X.K k u) vs := by
  obtain ⟨p, s1, o1⟩ := h
  refine ⟨pg_tup hc p hn hst, ⟨fun d v env h σ H ι Q R V rr pp => ?_⟩, fun v σ H Q q => ?_⟩
  · cases d with
    | tup ds =>
      obtain ⟨a, vs, rfl, q, r2⟩ := RD.tup.mp rr
      unfold gTup at pp
      dsimp only at pp
      by_cases hk : ds.length = k
      · rw [if_pos hk] at pp
        exact ⟨a, vs, rfl, q, by rw [← r2.length]; exact hk, s1.run ds vs env h σ H ι Q R V r2 pp⟩
      · rw [if_neg hk] at pp; exact (show False from pp).elim
    | _ => exact (show False from pp).elim
  · obtain ⟨a, xs, e, hq, l, q⟩ := q
    exact ⟨a, xs, e, hq, l, o1 _ _ _ _ q⟩
end
/-- a comprehension's tests -/
def MTs (C : Ct) (es : List Expr) (m : EM) : Prop := ∃ t, PTs C.X es t ∧ SimT C t m
theorem mts_nil {C : Ct} : MTs C [] (eC (.bl true)) := ⟨_, pts_nil, ⟨fun env h σ H ι Q R V p => by
  obtain ⟨b, e, p⟩ := p
  cases e
  exact p ι H .refl R⟩⟩
theorem mts_one {C : Ct} {c : Expr} {m : EM} (h : MT C c m) : MTs C [c] m := by
  obtain ⟨t, p, s⟩ := h
  exact ⟨t, pts_one p, s⟩
theorem MTs.can {C : Ct} {e : List Expr} {m : EM} (h : MTs C e m) : PTs C.X e (canT C m) := by
  obtain ⟨t, p, s⟩ := h
  exact ⟨fun pins st σ H Q I ⟨env, h, ι, R, V, q⟩ => p.run pins st σ H Q I (s.run env h σ H ι Q R V q)⟩
section
variable {C : Ct} {elt tg iter : Expr} {ifs : List Expr} {scope : Scope} {own : List (Str × Nat)} {pos : Pos} {mi : IM} {g : GM} {t : TG} {mt me : EM}
theorem SimE.lc {ti : TI} (si : SimI C ti mi) (sg : ∀ s H Cc cl fp, SimG (C.blk s H scope Cc cl fp) t g ∧ OnlyAt t (own.map (·.2))) : SimE C (tLc ti t (canT C.flat mt) (canE C.flat me) (own.map (·.2))) (eLc mi g mt me (own.map (·.2))) := by
  refine ⟨fun env h σ H ι Q R V p => ?_⟩
  refine si.run env h σ H ι _ R V ?_
  unfold eLc at p
  cases hm : mi env h with
  | ok it h1 =>
    rw [hm] at p
    dsimp only at p
    refine fun ι0 H0 J x0 R0 J0 Dp hD => ?_
    have V0 := V.ext R x0
    cases hl : lcN it g mt me (wipeE env (own.map (·.2))) (it.n + 1) 0 [] h1 with
    | inl o => rw [hl] at p; exact (show False from p).elim
    | inr pr =>
      obtain ⟨accF, h2⟩ := pr
      rw [hl] at p
      dsimp only at p
      refine ⟨fun i m H => ∃ h ι acc xs, Ext ι0 h1.length H0 ι h.length H ∧ Rel C.X.K ι h H ∧ RE C.X.K ι h.length H (wipeE env (own.map (·.2))) (L2.wipe σ (own.map (·.2))) ∧ H Dp = some (.lst xs) ∧ RDs C.X.K ι h.length H acc xs ∧ (∀ i, i < h.length → ι i ≠ Dp) ∧
        lcN it g mt me (wipeE env (own.map (·.2))) m i acc h = .inr (accF, h2), ⟨it.n + 1, h1, ι0, [], [], Ext.tup hD, Rel.tup R0 hD (Ext.tup hD), (V0.re.wipe _).mono ((Ext.tup hD).grow R0), upd_same, RDs.nil', fun i hi => R0.at_ne hi hD, hl⟩, ?_⟩
      rintro i m H ⟨h, ι', acc, xs, x, R, E, hDl, ra, hne, hq⟩
      cases m with
      | zero => cases hq
      | succ m =>
        obtain ⟨j1, j2⟩ := J0 i ι' h H x R
        unfold lcN at hq
        cases hn : it.nxt i h with
        | none => rw [hn] at hq; cases hq
        | some od =>
          rw [hn] at hq
          cases od with
          | none =>
            refine .inl ⟨j1 hn, ?_⟩
            dsimp only at hq
            cases hq
            have e1 : ((h2 ++ [AO.lst accF]).length) = h2.length + 1 := by simp
            refine p (ιset ι' h2.length Dp) H (.ref Dp) ?_ (R.take hDl hne ra) ?_
            · have hle := x.le
              have hle0 := x0.le
              rw [e1]
              refine ⟨by omega, fun j hj => ?_, fun j j1 j2 => ?_, fun b o e hb => ?_, fun b e => x0.st b (x.st b e)⟩
              · rw [ιset_lt (by omega), x.ag j (by omega), x0.ag j hj]
              · by_cases hj : j = h2.length
                · rw [hj, ιset_same]; exact x0.st _ hD
                · rw [ιset_ne hj]; exact (x0.trans x).nw j j1 (by omega)
              · exact (x0.trans x).fr b o e hb
            · rw [e1]
              exact RD.ref.mpr ⟨Nat.lt_succ_self _, by rw [ιset_same]⟩
          | some d =>
            dsimp only at hq
            obtain ⟨go, y⟩ := j2 d hn
            refine .inr ⟨go, _, fun H' hN => ⟨m, Nat.lt_succ_self m, hN⟩, fun xv H2 hy => ?_⟩
            obtain ⟨ι2, x2, R2, r2⟩ := y xv H2 hy
            have hD2 : H2 Dp = some (.lst xs) := x2.fr Dp _ hDl hne
            have hne2 : ∀ i, i < h.length → ι2 i ≠ Dp := fun i hi => by rw [x2.ag i hi]; exact hne i hi
            have E2 := E.mono (x2.grow R)
            have sgo := sg C.X.s_0 H2 0 [] []
            cases hgd : g d (wipeE env (own.map (·.2))) h with
            | nx e3 h3 =>
              rw [hgd] at hq
              dsimp only at hq
              refine sgo.2.at_ (wipe_wipe fun _ h => h) (sgo.1.run d xv _ h _ H2 ι2 _ R2 ⟨E2, trivial⟩ r2 ?_)
              rw [hgd]
              refine fun ι3 H3 σ3 x3 R3 V3 => ?_
              have hD3 : H3 Dp = some (.lst xs) := x3.fr Dp _ hD2 hne2
              have hne3 : ∀ i, i < h3.length → ι3 i ≠ Dp := fun i hi => by
                by_cases hlt : i < h.length
                · rw [x3.ag i hlt]; exact hne2 i hlt
                · intro e
                  have := x3.nw i (Nat.not_lt.mp hlt) hi
                  rw [e, hD2] at this; cases this
              have V3' : RV C.flat ι3 h3.length H3 e3 σ3 := ⟨V3.re, trivial⟩
              refine ⟨e3, h3, ι3, R3, V3', ?_⟩
              cases htt : mt e3 h3 with
              | ok db h4 =>
                rw [htt] at hq
                cases db with
                | bl b =>
                  refine ⟨b, rfl, fun ι4 H4 x4 R4 => ?_⟩
                  have hD4 : H4 Dp = some (.lst xs) := x4.fr Dp _ hD3 hne3
                  have hne4 : ∀ i, i < h4.length → ι4 i ≠ Dp := fun i hi => by
                    by_cases hlt : i < h3.length
                    · rw [x4.ag i hlt]; exact hne3 i hlt
                    · intro e
                      have := x4.nw i (Nat.not_lt.mp hlt) hi
                      rw [e, hD3] at this; cases this
                  have xx := x2.trans (x3.trans x4)
                  cases b with
                  | true =>
                    dsimp only at hq
                    refine iteT ?_
                    refine ⟨e3, h4, ι4, R4, V3'.ext R3 x4, ?_⟩
                    cases hte : me e3 h4 with
                    | ok d5 h5 =>
                      rw [hte] at hq
                      dsimp only at hq
                      by_cases hz : FitsL acc.length
                      · rw [if_pos hz] at hq
                        refine fun ι5 H5 v5 x5 R5 r5 => ?_
                        have hD5 : H5 Dp = some (.lst xs) := x5.fr Dp _ hD4 hne4
                        have hne5 : ∀ i, i < h5.length → ι5 i ≠ Dp := fun i hi => by
                          by_cases hlt : i < h4.length
                          · rw [x5.ag i hlt]; exact hne4 i hlt
                          · intro e
                            have := x5.nw i (Nat.not_lt.mp hlt) hi
                            rw [e, hD4] at this; cases this
                        have x25 := xx.trans x5
                        refine ⟨xs, hD5, by rw [← ra.length]; exact hz, h5, ι5, acc ++ [d5], xs ++ [v5], ?_, ?_, ?_, upd_same, ?_, hne5, hq⟩
                        · have xa := x.trans x25
                          refine ⟨xa.le, xa.ag, xa.nw, fun b o e hb => ?_, fun b e => ?_⟩
                          · have hbD : b ≠ Dp := ne_of_none e hD
                            rw [upd_ne hbD]; exact xa.fr b o e hb
                          · by_cases hb : b = Dp
                            · subst hb; rw [upd_same] at e; cases e
                            · rw [upd_ne hb] at e; exact xa.st b e
                        all_goals
                          have gg : Grow C.X.K ι5 h5.length H5 ι5 h5.length (upd H5 Dp (.lst (xs ++ [v5]))) := ⟨Nat.le_refl _, fun _ _ => rfl, fun a vs q => by
                              rcases q with (q | ⟨o, q⟩) | q
                              · exact .inl (.inl (by rw [upd_ne (ne_of q hD5 (by intro z; cases z))]; exact q))
                              · exact .inl (.inr ⟨o, by rw [upd_ne (ne_of q hD5 (by intro z; cases z))]; exact q⟩)
                              · exact .inr q, fun a vs q => by
                              rcases q with ⟨o, q⟩ | q
                              · exact .inl ⟨o, by rw [upd_ne (ne_of q hD5 (by intro z; cases z))]; exact q⟩
                              · exact .inr q⟩
                        · refine ⟨R5.inj, fun i o e => ?_⟩
                          have hi : i < h5.length := (List.getElem?_eq_some_iff.mp e).1
                          exact RO.mono (H0 := H5) gg (upd_ne (hne5 i hi)) (R5.ob i o e)
                        · exact ((E2.mono (x3.grow R2)).mono ((x4.trans x5).grow R3)).mono gg
                        · exact RDs.append ((ra.mono (x25.grow R)).mono gg) (RDs.cons' (r5.mono gg) RDs.nil')
                      · rw [if_neg hz] at hq; cases hq
                    | exc c fs h5 => rw [hte] at hq; cases hq
                    | stuck => rw [hte] at hq; cases hq
                  | false =>
                    dsimp only at hq
                    refine iteF ?_
                    exact ⟨h4, ι4, acc, xs, x.trans xx, R4, (E2.mono (x3.grow R2)).mono (x4.grow R3), hD4, ra.mono (xx.grow R), hne4, hq⟩
                | _ => cases hq
              | exc c fs h4 => rw [htt] at hq; cases hq
              | stuck => rw [htt] at hq; cases hq
            | _ => rw [hgd] at hq; cases hq
  | exc c fs h1 => rw [hm] at p; exact p
  | stuck => rw [hm] at p; exact p
end
end Rf

set_option maxHeartbeats 1000000
namespace Rf
open PySem PySem.Spec PyProof.Rows L2

section
variable {C : Ct} {elt tg iter : Expr} {ifs : List Expr} {scope : Scope} {own : List (Str × Nat)} {pos : Pos} {mi : IM} {g : GM} {t : TG} {mt me : EM}
theorem me_lc (hc : C.X.calm = true) (hN : C.X.N.Nodup) (hi : MI C tg iter mi) (ok : BlkOk C.X.N C.X.env.scope scope own)
    (hg : ∀ s H Cc cl fp, MGc (C.blk s H scope Cc cl fp) tg g t (own.map (·.2)))
    (ht : ∀ s H Cc cl fp, MTs (C.blk s H scope Cc cl fp) ifs mt) (he : ∀ s H Cc cl fp, ME (C.blk s H scope Cc cl fp) elt me) (hs : ∀ x, foldedSetIterable iter C.X.env x = pure x := by intro _; rfl) :
    ME C (.ListComp elt [⟨tg, iter, ifs, 0⟩] scope pos) (eLc mi g mt me (own.map (·.2))) := by
  obtain ⟨ti, pi, si⟩ := hi
  exact ⟨_, pe_lc hc hN pi ok (fun s H Cc cl fp => (hg s H Cc cl fp).1) (fun s H Cc cl fp => (ht s H Cc cl fp).can) (fun s H Cc cl fp => (he s H Cc cl fp).can) hs, SimE.lc si fun s H Cc cl fp => (hg s H Cc cl fp).2⟩
theorem ms_setLc {i : Nat} {y : Str} {py spos : Pos} (hc : C.X.calm = true) (hN : C.X.N.Nodup) (hy : C.X.N[i]? = some y) (hyl : C.X.env.scope.names.lookup y = some .local)
    (hsw : swapsWith (.ListComp elt [⟨tg, iter, ifs, 0⟩] scope pos) (some (.Name y py)) spos.line C.X.env = pure true) (hi : MI C tg iter mi) (ok : BlkOk C.X.N C.X.env.scope scope own)
    (hg : ∀ s H Cc cl fp, MGc (C.blk s H scope Cc cl fp) tg g t (own.map (·.2)))
    (ht : ∀ s H Cc cl fp, MTs (C.blk s H scope Cc cl fp) ifs mt) (he : ∀ s H Cc cl fp, ME (C.blk s H scope Cc cl fp) elt me) (hne : ∀ y, C.ea = some y → y.i ≠ i := by exact fun _ z => nomatch z) (hs : ∀ x, foldedSetIterable iter C.X.env x = pure x := by intro _; rfl) :
    MS C (.Assign [.Name y py] (.ListComp elt [⟨tg, iter, ifs, 0⟩] scope pos) spos) (sSet i (eLc mi g mt me (own.map (·.2)))) := by
  obtain ⟨ti, pi, si⟩ := hi
  refine ⟨_, ps_setLc (te := canE C.flat me) (tt := canT C.flat mt) hc hN hy hyl hsw pi ok (fun s H Cc cl fp => (hg s H Cc cl fp).1) (fun s H Cc cl fp => (ht s H Cc cl fp).can) (fun s H Cc cl fp => (he s H Cc cl fp).can) hs, ⟨fun env h σ H ι D R V p => ?_⟩⟩
  have s1 : SimE C _ (eLc mi g mt me (own.map (·.2))) := SimE.lc si fun s H Cc cl fp => (hg s H Cc cl fp).2
  exact s1.thenS R V p fun d h1 ι1 H1 v1 x1 R1 V1 r1 p1 => p1 ι1 H1 _ .refl R1 (V1.set i r1 hne)
end

/-! ### no numbers within -/
mutual
def D.pure : D → Bool
  | .ref _ => false
  | .tup ds => pures ds
  | .rol ds => pures ds
  | .non => true
  | .bl _ => true
  | .int _ => true
  | .str _ => true
  | .ty _ => true
def pures : List D → Bool
  | [] => true
  | d :: ds => d.pure && pures ds
end
def AO.flat : AO → Bool
  | .lst ds => pures ds
  | .dK kvs => pures (kvs.map (·.2))
  | .dT kvs => pures (kvs.map (·.2))
theorem pures_iff : ∀ {ds : List D}, pures ds = true ↔ ∀ d ∈ ds, d.pure = true
  | [] => by simp [pures]
  | d :: ds => by simp [pures, pures_iff (ds := ds)]
mutual
def D.lt_ (n : Nat) : D → Prop
  | .ref i => i < n
  | .tup ds => lts_ n ds
  | .rol ds => lts_ n ds
  | .non => True
  | .bl _ => True
  | .int _ => True
  | .str _ => True
  | .ty _ => True
def lts_ (n : Nat) : List D → Prop
  | [] => True
  | d :: ds => d.lt_ n ∧ lts_ n ds
end
section
variable {K : PySem.W.Frag} {ι ι' : Nat → Addr} {n n' : Nat} {H H' : Hp} {h h' : AH} {d : D} {ds : List D} {v : V} {vs : List V}
mutual
theorem RD.lt_ : ∀ {d : D} {v : V}, RD K ι n H d v → d.lt_ n
  | .ref i, v, r => (RD.ref.mp r).1
  | .tup ds, v, r => by obtain ⟨_, _, _, _, r⟩ := RD.tup.mp r; exact RDs.below r
  | .rol ds, v, r => by obtain ⟨_, _, _, _, r⟩ := RD.rol.mp r; exact RDs.below r
  | .non, _, _ => trivial
  | .bl _, _, _ => trivial
  | .int _, _, _ => trivial
  | .str _, _, _ => trivial
  | .ty _, _, _ => trivial
theorem RDs.below : ∀ {ds : List D} {vs : List V}, RDs K ι n H ds vs → lts_ n ds
  | [], _, _ => trivial
  | d :: ds, vs, r => by
    obtain ⟨v, r', _, h1, h2⟩ := RDs.cons.mp r
    exact ⟨RD.lt_ h1, RDs.below h2⟩
end
mutual
theorem D.pure_lt : ∀ {d : D}, d.pure = true → d.lt_ n
  | .ref i, r => by cases r
  | .tup ds, r => pures_lt (by unfold D.pure at r; exact r)
  | .rol ds, r => pures_lt (by unfold D.pure at r; exact r)
  | .non, _ => trivial
  | .bl _, _ => trivial
  | .int _, _ => trivial
  | .str _, _ => trivial
  | .ty _, _ => trivial
theorem pures_lt : ∀ {ds : List D}, pures ds = true → lts_ n ds
  | [], _ => trivial
  | d :: ds, r => by
    unfold pures at r
    simp only [Bool.and_eq_true] at r
    exact ⟨D.pure_lt r.1, pures_lt r.2⟩
end
mutual
/-- numbers below n alone matter -/
theorem RD.cut (ag : ∀ i, i < n → ι' i = ι i) : ∀ {d : D} {v : V}, RD K ι n' H d v → d.lt_ n → RD K ι' n H d v
  | .ref i, v, r, b => RD.ref.mpr ⟨b, by rw [ag i b]; exact (RD.ref.mp r).2⟩
  | .tup ds, v, r, b => by
    obtain ⟨a, vs, e, q, r⟩ := RD.tup.mp r
    exact RD.tup.mpr ⟨a, vs, e, q, RDs.cut ag r (by unfold D.lt_ at b; exact b)⟩
  | .rol ds, v, r, b => by
    obtain ⟨a, vs, e, q, r⟩ := RD.rol.mp r
    exact RD.rol.mpr ⟨a, vs, e, q, RDs.cut ag r (by unfold D.lt_ at b; exact b)⟩
  | .non, _, r, _ => by unfold RD at r ⊢; exact r
  | .bl _, _, r, _ => by unfold RD at r ⊢; exact r
  | .int _, _, r, _ => by unfold RD at r ⊢; exact r
  | .str _, _, r, _ => by unfold RD at r ⊢; exact r
  | .ty _, _, r, _ => by unfold RD at r ⊢; exact r
theorem RDs.cut (ag : ∀ i, i < n → ι' i = ι i) : ∀ {ds : List D} {vs : List V}, RDs K ι n' H ds vs → lts_ n ds → RDs K ι' n H ds vs
  | [], _, r, _ => by unfold RDs at r ⊢; exact r
  | d :: ds, vs, r, b => by
    obtain ⟨v, r', e, h1, h2⟩ := RDs.cons.mp r
    exact RDs.cons.mpr ⟨v, r', e, RD.cut ag h1 b.1, RDs.cut ag h2 b.2⟩
end
def AO.lt_ (n : Nat) : AO → Prop
  | .lst ds => lts_ n ds
  | .dK kvs => lts_ n (kvs.map (·.2))
  | .dT kvs => lts_ n (kvs.map (·.2))
theorem AO.flat_lt {o : AO} (f : o.flat = true) : o.lt_ n := by
  cases o <;> exact pures_lt f
theorem RO.below {o : AO} {a : Addr} (r : RO K ι n H o a) : o.lt_ n := by
  cases o with
  | lst ds => obtain ⟨_, _, r⟩ := r; exact r.below
  | dK ds => obtain ⟨_, _, _, r⟩ := r; exact r.below
  | dT ds => obtain ⟨_, _, _, r⟩ := r; exact r.below
theorem RO.cut (ag : ∀ i, i < n → ι' i = ι i) {o : AO} {a : Addr} (r : RO K ι n' H o a) (b : o.lt_ n) : RO K ι' n H o a := by
  cases o with
  | lst ds => obtain ⟨vs, e, r⟩ := r; exact ⟨vs, e, r.cut ag b⟩
  | dK ds => obtain ⟨vs, e, k, r⟩ := r; exact ⟨vs, e, k, r.cut ag b⟩
  | dT ds => obtain ⟨vs, e, k, r⟩ := r; exact ⟨vs, e, k, r.cut ag b⟩
end

/-! ### what a def leaves: its own things are dropped where nothing leads to them -/
/-- the things of h stand as they stood, or are flat -/
def Keep (h h' : AH) : Prop := h.length ≤ h'.length ∧ ∀ i o, i < h.length → h'[i]? = some o → h[i]? = some o ∨ o.flat = true
open Classical in
noncomputable def gc (h : AH) (o : ER) : ER := match o with
  | .ok d h' => if Keep h h' then (if d.pure = true then .ok d (h'.take h.length) else match d with
      | .ref i => if h.length ≤ i ∧ ∃ o, h'[i]? = some o ∧ o.flat = true then .ok (.ref h.length) (h'.take h.length ++ (h'[i]?).toList) else .ok d h'
      | _ => .ok d h') else .ok d h'
  | r => r
theorem gc_pure {h h' : AH} {d : D} (k : Keep h h') (p : d.pure = true) : gc h (.ok d h') = .ok d (h'.take h.length) := by
  unfold gc
  simp only [if_pos k, if_pos p]
theorem gc_list {h h' : AH} {i : Nat} {o : AO} (k : Keep h h') (hi : h.length ≤ i) (e : h'[i]? = some o) (f : o.flat = true) : gc h (.ok (.ref i) h') = .ok (.ref h.length) (h'.take h.length ++ [o]) := by
  unfold gc
  simp only [if_pos k]
  rw [if_neg (by unfold D.pure; exact Bool.false_ne_true), if_pos ⟨hi, o, e, f⟩, e]
  rfl
/-- the end of a def's body as the end of its call -/
def outS (r : SR) : ER := match r with
  | .rt d h => .ok d h
  | .nx _ h => .ok .non h
  | .exc c fs _ h => .exc c fs h
  | _ => .stuck
/-- a def of N slots, by its body -/
noncomputable def fsem (N : Nat) (m : SM) : List D → AH → ER := fun ds h => gc h (outS (m (ds.map some ++ List.replicate (N - ds.length) none) h))

def PostF (K : PySem.W.Frag) (mg : Str → Option Value) (ι : Nat → Addr) (n : Nat) (H : Hp) (o : ER) (Q : VK) (E : XK) : Prop := match o with
  | .ok d h' => ∀ ι' H' v, Ext ι n H ι' h'.length H' → Rel K ι' h' H' → RD K ι' h'.length H' d v → Q v H'
  | .exc c fs h' => ∀ ι' H' Cl dd, Ext ι n H ι' h'.length H' → Rel K ι' h' H' → mg c = some (.ref Cl) → XD K ι' h'.length H' dd fs → E (.ref Cl) dd H'
  | .stuck => False
/-- the promise of a def that does F -/
def spF (K : PySem.W.Frag) (mg : Str → Option Value) (pl : Nat) (F : List D → AH → ER) : Sp := fun vs H Q E => vs.length = pl ∧ ∃ ι h ds, Rel K ι h H ∧ RDs K ι h.length H ds vs ∧ PostF K mg ι h.length H (F ds h) Q E
section
variable {K : PySem.W.Frag} {mg : Str → Option Value} {ι ι' : Nat → Addr} {H H' : Hp} {h h' : AH} {Q : VK} {E : XK} {o : ER}
theorem PostF.gc (R0 : Rel K ι h H) (p : PostF K mg ι h.length H (Rf.gc h o) Q E) : PostF K mg ι h.length H o Q E := by
  cases o with
  | exc c fs h' => exact p
  | stuck => exact p
  | ok d h' =>
    by_cases k : Keep h h'
    · obtain ⟨kl, kk⟩ := k
      have lt : (h'.take h.length).length = h.length := by rw [List.length_take]; omega
      -- the first things alone
      have cutR : ∀ {ι' : Nat → Addr} {H' : Hp}, Ext ι h.length H ι' h'.length H' → Rel K ι' h' H' → Rel K ι' (h'.take h.length) H' := fun {ι' H'} x R => by
        refine ⟨fun i j hi hj => R.inj i j (by omega) (by omega), fun i o e => ?_⟩
        rw [lt]
        have hi : i < h.length := by have := (List.getElem?_eq_some_iff.mp e).1; omega
        rw [List.getElem?_take_of_lt hi] at e
        refine (R.ob i o e).cut (fun _ _ => rfl) ?_
        rcases kk i o hi e with e0 | f
        · exact (R0.ob i o e0).below
        · exact AO.flat_lt f
      have cutX : ∀ {ι' : Nat → Addr} {H' : Hp}, Ext ι h.length H ι' h'.length H' → Ext ι h.length H ι' h.length H' := fun {ι' H'} x =>
        ⟨Nat.le_refl _, x.ag, fun i h1 h2 => absurd h2 (Nat.not_lt.mpr h1), x.fr, x.st⟩
      by_cases hp : d.pure = true
      · rw [gc_pure ⟨kl, kk⟩ hp] at p
        refine fun ι' H' v x R r => p ι' H' v (by rw [lt]; exact cutX x) (cutR x R) ?_
        rw [lt]
        exact r.cut (fun _ _ => rfl) (D.pure_lt hp)
      · unfold Rf.gc at p
        simp only [if_pos (show Keep h h' from ⟨kl, kk⟩), if_neg hp] at p
        cases d with
        | ref i =>
          dsimp only at p
          by_cases hc : h.length ≤ i ∧ ∃ o, h'[i]? = some o ∧ o.flat = true
          · rw [if_pos hc] at p
            obtain ⟨hi, o, e, f⟩ := hc
            rw [e] at p
            refine fun ι' H' v x R r => ?_
            obtain ⟨hil, rfl⟩ := RD.ref.mp r
            have le : (h'.take h.length ++ [o]).length = h.length + 1 := by rw [List.length_append, lt]; rfl
            have ag : ∀ j, j < h.length → ιset ι' h.length (ι' i) j = ι' j := fun j hj => ιset_lt hj
            refine p (ιset ι' h.length (ι' i)) H' (.ref (ι' i)) ?_ ?_ ?_
            · rw [show (List.take (List.length h) h' ++ (some o).toList) = h'.take h.length ++ [o] from rfl, le]
              refine ⟨Nat.le_succ _, fun j hj => by rw [ag j hj]; exact x.ag j hj, fun j h1 h2 => ?_, x.fr, x.st⟩
              have ej : j = h.length := by omega
              rw [ej, ιset_same]
              exact x.nw i hi hil
            · show Rel K _ (h'.take h.length ++ [o]) H'
              have RT := cutR x R
              refine ⟨fun a b ha hb eab => ?_, fun j o' e' => ?_⟩
              · rw [le] at ha hb
                by_cases h1 : a = h.length
                · by_cases h2 : b = h.length
                  · rw [h1, h2]
                  · rw [h1, ιset_same, ιset_ne h2] at eab
                    have := R.inj i b hil (by omega) eab
                    omega
                · by_cases h2 : b = h.length
                  · rw [h2, ιset_same, ιset_ne h1] at eab
                    have := R.inj a i (by omega) hil eab
                    omega
                  · rw [ιset_ne h1, ιset_ne h2] at eab
                    exact R.inj a b (by omega) (by omega) eab
              · rw [le]
                by_cases h1 : j < h.length
                · rw [List.getElem?_append_left (by omega)] at e'
                  have q := RT.ob j o' e'
                  rw [lt] at q
                  rw [ag j h1]
                  exact RO.mono (H0 := H') ⟨Nat.le_succ _, ag, fun _ _ q => q, fun _ _ q => q⟩ rfl q
                · have ej : j = h.length := by have := (List.getElem?_eq_some_iff.mp e').1; omega
                  subst ej
                  rw [List.getElem?_append_right (by omega), lt] at e'
                  simp only [Nat.sub_self, List.getElem?_cons_zero, Option.some.injEq] at e'
                  subst e'
                  rw [ιset_same]
                  have q := R.ob i o e
                  refine RO.mono (H0 := H') (ι := ι') (n := h.length) ⟨Nat.le_succ _, ag, fun _ _ q => q, fun _ _ q => q⟩ rfl (q.cut (fun _ _ => rfl) (AO.flat_lt f))
            · show RD K _ (h'.take h.length ++ [o]).length H' _ _
              rw [le]
              exact RD.ref.mpr ⟨Nat.lt_succ_self _, by rw [ιset_same]⟩
          · rw [if_neg hc] at p; exact p
        | _ => exact p
    · unfold Rf.gc at p
      simp only [if_neg k] at p
      exact p
end

/-! ### a def -/
/-- the context of a def's body -/
abbrev ctOf (P : Program) (w : World) (K : PySem.W.Frag) (mg : Str → Option Value) (base : Heap) (N : List Str) (qual : Str) (scope : Scope) (f : Addr) (cdv : Value) (A : Around) (outer : List Env) (s : Shared) (H : Hp) (E : XK) : Ct :=
  ⟨cxOf (L2.CX P w) P w K mg base N qual scope f cdv A outer s H E, fun cls d _ H => E cls d H, none⟩
theorem start_re {K : PySem.W.Frag} {ι : Nat → Addr} {n : Nat} {H : Hp} {ds : List D} {vs : List V} (N : Nat) (r : RDs K ι n H ds vs) : RE K ι n H (ds.map some ++ List.replicate (N - ds.length) none) (vs.map some ++ List.replicate (N - vs.length) none) := by
  have hl := r.length
  refine ⟨by simp [hl], fun i d e => ?_⟩
  by_cases hi : i < ds.length
  · rw [List.getElem?_append_left (by simpa using hi), List.getElem?_map] at e
    cases q : ds[i]? with
    | none => rw [q] at e; cases e
    | some d' =>
      rw [q] at e
      have e' : d' = d := by simpa using e
      subst e'
      obtain ⟨v, e2, r2⟩ := r.get q
      exact ⟨v, by rw [List.getElem?_append_left (by simp; omega), List.getElem?_map, e2]; rfl, r2⟩
  · rw [List.getElem?_append_right (by simpa using hi)] at e
    have := List.mem_of_getElem? e
    rw [List.mem_replicate] at this
    cases this.2
theorem fn_ok {P : Program} {w : World} {K : PySem.W.Frag} {mg : Str → Option Value} {base : Heap} {x qual : Str} {st : Stmt} {f : Addr} {fd : FuncData} {N ps : List Str} {k n pl : Nat} {m : SM} (F : Fun K x qual st f fd) (S : FnScope N ps (defScope st)) (hN : N.length = n) (hp : ps.length = pl)
    (hm : ∀ cdv A outer s H E, Room k (A.deeper (envOfC qual (defScope st) s.heap.objs.size f cdv)) → MB (ctOf P w K mg base N qual (defScope st) f cdv A outer s H E) (defBody st) m) :
    FnOk P w K mg base (L2.CX P w) (k + 1) f fd ps (spF K mg pl (fsem n m)) := by
  subst hN hp
  refine F.okX S (fun vs H Q E h => h.1) (fun cdv A outer s H vs Q E hr h => ?_)
  obtain ⟨hl, ι, h, ds, R, r, p⟩ := h
  obtain ⟨t, pt, s1⟩ := hm cdv A outer s H E hr
  refine ⟨t, pt, ?_⟩
  have V : RV (ctOf P w K mg base N qual (defScope st) f cdv A outer s H E) ι h.length H (ds.map some ++ List.replicate (N.length - ds.length) none) (L2.start N vs) := ⟨start_re N.length r, trivial⟩
  refine s1.run _ h _ H ι _ R V ?_
  have q := PostF.gc R p
  cases hq : m (ds.map some ++ List.replicate (N.length - ds.length) none) h with
  | nx e h1 =>
    rw [hq] at q
    exact fun ι' H' σ' x R' V' => q ι' H' .non x R' (RD.non.mpr rfl)
  | rt d h1 => rw [hq] at q; exact q
  | exc c fs e h1 => rw [hq] at q; exact fun ι' H' σ' Cl dd x R' V' mc xd => q ι' H' Cl dd x R' mc xd
  | bk e h1 => rw [hq] at q; exact q.elim
  | ct e h1 => rw [hq] at q; exact q.elim
  | stuck => rw [hq] at q; exact q.elim

/-! ### calls of defs -/
/-- called with n arguments -/
def argn (n : Nat) (F : List D → AH → ER) : List D → AH → ER := fun ds h => if ds.length = n then F ds h else .stuck
section
variable {C : Ct} {k pl : Nat} {f : Addr} {fd : FuncData} {ps : List Str} {F : List D → AH → ER} {x : Str} {p pos : Pos} {e : Expr} {es : List Expr} {ml : LM}
theorem spF.of {ι : Nat → Addr} {h : AH} {H : Hp} {σ : List (Option V)} {ds : List D} {vs : List V} {Q : VK} (R : Rel C.X.K ι h H) (r : RDs C.X.K ι h.length H ds vs) (hl : vs.length = pl) (q : PostE C ι h.length H σ (F ds h) Q) : spF C.X.K C.X.mg pl F vs H Q (WE C.W σ) := by
  refine ⟨hl, ι, h, ds, R, r, ?_⟩
  cases hf : F ds h with
  | ok d h' => rw [hf] at q; exact q
  | exc c fs h' => rw [hf] at q; exact q
  | stuck => rw [hf] at q; exact q
theorem me_call (F0 : FnOk C.X.prog C.X.w C.X.K C.X.mg C.X.base (L2.CX C.X.prog C.X.w) k f fd ps (spF C.X.K C.X.mg pl F)) (hr : Room k C.X.A) (hm : C.X.mg x = some (.ref f)) (hk : PySem.W.keepIn C.X.K (.ref f) = true) (hb : Binds C.X.K fd ps []) (tk : Takes C.X C.W)
    (ha : MA C (e :: es) ml) (hlen : (e :: es).length = pl := by rfl) (hg : Gl C.X x := by rfl) (hdb : (x == ("__debug__" : Str)) = false := by decide) (he : starEach (e :: es) C.X.env = (false, eval e C.X.env) :: starEach es C.X.env := by rfl) (hpl : (backTo pos (starEach es C.X.env)).any (·.1) = false := by rfl) :
    ME C (.Call (.Name x p) (e :: es) [] pos) (eCall (argn pl F) ml) := by
  obtain ⟨t, pa, s⟩ := ha
  refine ⟨_, pe_callSD F0 hr hg hm hk hb (dvs := []) .nil (fun σ => passAt tk σ) pa hdb he hpl, ⟨fun env h σ H ι Q R V q => ?_⟩⟩
  refine s.run env h σ H ι _ R V ?_
  unfold eCall at q
  cases hm : ml env h with
  | ok ds h1 =>
    rw [hm] at q
    refine fun ι' H' vs x R' r => ?_
    show spF C.X.K C.X.mg pl F (vs ++ []) H' Q (WE C.W σ)
    rw [List.append_nil]
    have q2 : PostE C ι h.length H σ (if ds.length = pl then F ds h1 else .stuck) Q := q
    by_cases hd : ds.length = pl
    · rw [if_pos hd] at q2
      exact spF.of R' r (by rw [← r.length]; exact hd) (PostE.shift q2 x)
    · rw [if_neg hd] at q2; exact q2.elim
  | exc c fs h1 => rw [hm] at q; exact q
  | stuck => rw [hm] at q; exact q
end
end Rf

set_option maxHeartbeats 1000000
namespace Rf
open PySem PySem.Spec PyProof.Rows L2

/-! ### values made -/
section
variable {C : Ct} {ι : Nat → Addr} {h : AH} {H : Hp} {σ : List (Option V)} {Q : VK} {ds : List D} {vs : List V} {d : D} {v : V}
theorem PostE.here (p : PostE C ι h.length H σ (.ok d h) Q) (R : Rel C.X.K ι h H) (r : RD C.X.K ι h.length H d v) : Q v H := p ι H v .refl R r
theorem PostE.tup (p : PostE C ι h.length H σ (.ok (.tup ds) h) Q) (R : Rel C.X.K ι h H) (r : RDs C.X.K ι h.length H ds vs) {a : Addr} (ha : H a = none) : Q (.ref a) (upd H a (.tup vs)) := by
  have x : Ext ι h.length H ι h.length (upd H a (.tup vs)) := Ext.tup ha
  exact p ι _ (.ref a) x (R.tup ha x) (RD.tup.mpr ⟨a, vs, rfl, .inl (.inl upd_same), r.mono (x.grow R)⟩)
theorem PostE.lst (p : PostE C ι h.length H σ (.ok (.ref h.length) (h ++ [.lst ds])) Q) (R : Rel C.X.K ι h H) (r : RDs C.X.K ι h.length H ds vs) {a : Addr} (ha : H a = none) : Q (.ref a) (upd H a (.lst vs)) := by
  have el : (h ++ [AO.lst ds]).length = h.length + 1 := by simp
  have x : Ext ι h.length H (ιset ι h.length a) (h.length + 1) (upd H a (.lst vs)) := Ext.new ha
  refine p (ιset ι h.length a) _ (.ref a) (by rw [el]; exact x) (R.new ha fun x => ⟨vs, upd_same, r.mono (x.grow R)⟩) ?_
  rw [el]
  exact RD.ref.mpr ⟨Nat.lt_succ_self _, by rw [ιset_same]⟩
theorem RD.list {K : PySem.W.Frag} (R : Rel K ι h H) {i : Nat} (r : RD K ι h.length H (.ref i) v) (e : h[i]? = some (.lst ds)) : ∃ vs, v = .ref (ι i) ∧ H (ι i) = some (.lst vs) ∧ RDs K ι h.length H ds vs := by
  obtain ⟨_, e2⟩ := RD.ref.mp r
  obtain ⟨vs, e3, r3⟩ := R.ob i _ e
  exact ⟨vs, e2, e3, r3⟩
end
/-- what a value holds as a row that may be read -/
def seqOf (h : AH) : D → Option (List D)
  | .tup ds => some ds
  | .rol ds => some ds
  | .ref i => match h[i]? with
    | some (.lst ds) => some ds
    | _ => none
  | _ => none
/-- .. a list alone -/
def listOf (h : AH) : D → Option (List D)
  | .rol ds => some ds
  | .ref i => match h[i]? with
    | some (.lst ds) => some ds
    | _ => none
  | _ => none
section
variable {K : PySem.W.Frag} {ι : Nat → Addr} {h : AH} {H : Hp} {ds : List D} {d : D} {v : V}
theorem listOf_sq (R : Rel K ι h H) (r : RD K ι h.length H d v) (e : listOf h d = some ds) : ∃ a vs, v = .ref a ∧ SqL K H a vs ∧ RDs K ι h.length H ds vs := by
  cases d with
  | rol es =>
    cases e
    obtain ⟨a, vs, e, q, r⟩ := RD.rol.mp r
    exact ⟨a, vs, e, q.sq, r⟩
  | ref i =>
    simp only [listOf] at e
    cases he : h[i]? with
    | none => rw [he] at e; cases e
    | some o =>
      rw [he] at e
      cases o with
      | lst es =>
        cases e
        obtain ⟨vs, e1, e2, r2⟩ := r.list R he
        exact ⟨_, vs, e1, SqL.of e2, r2⟩
      | _ => cases e
  | _ => cases e
theorem seqOf_sq (R : Rel K ι h H) (r : RD K ι h.length H d v) (e : seqOf h d = some ds) : ∃ a vs, v = .ref a ∧ (SqL K H a vs ∨ SqT K H a vs) ∧ RDs K ι h.length H ds vs := by
  cases d with
  | tup es =>
    cases e
    obtain ⟨a, vs, e, q, r⟩ := RD.tup.mp r
    exact ⟨a, vs, e, .inr q, r⟩
  | rol es =>
    cases e
    obtain ⟨a, vs, e, q, r⟩ := RD.rol.mp r
    exact ⟨a, vs, e, .inl q.sq, r⟩
  | ref i =>
    have e' : listOf h (.ref i) = some ds := e
    obtain ⟨a, vs, e1, q, r⟩ := listOf_sq R r e'
    exact ⟨a, vs, e1, .inl q, r⟩
  | _ => cases e
theorem RDs.ints : ∀ {ns : List Int} {vs : List V} {n : Nat}, RDs K ι n H (ns.map D.int) vs → vs = ns.map V.int
  | [], vs, n, r => RDs.nil.mp r
  | k :: ns, vs, n, r => by
    obtain ⟨v, r', rfl, h1, h2⟩ := RDs.cons.mp r
    rw [RD.int.mp h1, RDs.ints h2]; rfl
theorem RDs.of_ints : ∀ {ns : List Int} {n : Nat}, RDs K ι n H (ns.map D.int) (ns.map V.int)
  | [], n => RDs.nil'
  | k :: ns, n => RDs.cons' (RD.int.mpr rfl) RDs.of_ints
theorem RDs.bls : ∀ {ns : List Bool} {vs : List V} {n : Nat}, RDs K ι n H (ns.map D.bl) vs → vs = ns.map V.bl
  | [], vs, n, r => RDs.nil.mp r
  | k :: ns, vs, n, r => by
    obtain ⟨v, r', rfl, h1, h2⟩ := RDs.cons.mp r
    rw [RD.bl.mp h1, RDs.bls h2]; rfl
theorem RDs.strs : ∀ {ns : List Str} {vs : List V} {n : Nat}, RDs K ι n H (ns.map D.str) vs → vs = ns.map V.str
  | [], vs, n, r => RDs.nil.mp r
  | k :: ns, vs, n, r => by
    obtain ⟨v, r', rfl, h1, h2⟩ := RDs.cons.mp r
    rw [RD.str.mp h1, RDs.strs h2]; rfl
theorem RDs.of_strs : ∀ {ns : List Str} {n : Nat}, RDs K ι n H (ns.map D.str) (ns.map V.str)
  | [], n => RDs.nil'
  | k :: ns, n => RDs.cons' (RD.str.mpr rfl) RDs.of_strs
theorem RDs.atI {n : Nat} {vs : List V} (r : RDs K ι n H ds vs) {i : Int} {d : D} (e : L2.atI ds i = some d) : ∃ v, L2.atI vs i = some v ∧ RD K ι n H d v := by
  unfold L2.atI at e ⊢
  rw [← r.length]
  cases q : L2.ixN ds.length i with
  | none => rw [q] at e; cases e
  | some j =>
    rw [q] at e
    exact r.get e
theorem RDs.cut_ {n : Nat} {vs : List V} (r : RDs K ι n H ds vs) (lo hi : Option Int) : RDs K ι n H ((ds.drop (HT.sIx ds.length 0 lo)).take (HT.sIx ds.length ds.length hi - HT.sIx ds.length 0 lo)) (cutV vs lo hi) := by
  unfold cutV
  rw [← r.length]
  exact (r.drop _).take _
end
/-- the ints of a row -/
def intsOf : List D → Option (List Int)
  | [] => some []
  | .int i :: r => (intsOf r).map (i :: ·)
  | _ => none
theorem intsOf_eq : ∀ {ds : List D} {ns : List Int}, intsOf ds = some ns → ds = ns.map D.int
  | [], ns, e => by cases e; rfl
  | .int i :: r, ns, e => by
    unfold intsOf at e
    cases q : intsOf r with
    | none => rw [q] at e; cases e
    | some ms =>
      rw [q] at e
      cases e
      rw [intsOf_eq q]; rfl
  | .non :: _, _, e => by cases e
  | .bl _ :: _, _, e => by cases e
  | .str _ :: _, _, e => by cases e
  | .ty _ :: _, _, e => by cases e
  | .tup _ :: _, _, e => by cases e
  | .rol _ :: _, _, e => by cases e
  | .ref _ :: _, _, e => by cases e
@[simp] theorem intsOf_map : ∀ ns : List Int, intsOf (ns.map D.int) = some ns
  | [] => rfl
  | k :: ns => by
    show (intsOf (ns.map D.int)).map (k :: ·) = _
    rw [intsOf_map ns]; rfl
def blsOf : List D → Option (List Bool)
  | [] => some []
  | .bl i :: r => (blsOf r).map (i :: ·)
  | _ => none
theorem blsOf_eq : ∀ {ds : List D} {ns : List Bool}, blsOf ds = some ns → ds = ns.map D.bl
  | [], ns, e => by cases e; rfl
  | .bl i :: r, ns, e => by
    unfold blsOf at e
    cases q : blsOf r with
    | none => rw [q] at e; cases e
    | some ms =>
      rw [q] at e
      cases e
      rw [blsOf_eq q]; rfl
  | .non :: _, _, e => by cases e
  | .int _ :: _, _, e => by cases e
  | .str _ :: _, _, e => by cases e
  | .ty _ :: _, _, e => by cases e
  | .tup _ :: _, _, e => by cases e
  | .rol _ :: _, _, e => by cases e
  | .ref _ :: _, _, e => by cases e
@[simp] theorem blsOf_map : ∀ ns : List Bool, blsOf (ns.map D.bl) = some ns
  | [] => rfl
  | k :: ns => by
    show (blsOf (ns.map D.bl)).map (k :: ·) = _
    rw [blsOf_map ns]; rfl
def strsOf : List D → Option (List Str)
  | [] => some []
  | .str i :: r => (strsOf r).map (i :: ·)
  | _ => none
theorem strsOf_eq : ∀ {ds : List D} {ns : List Str}, strsOf ds = some ns → ds = ns.map D.str
  | [], ns, e => by cases e; rfl
  | .str i :: r, ns, e => by
    unfold strsOf at e
    cases q : strsOf r with
    | none => rw [q] at e; cases e
    | some ms =>
      rw [q] at e
      cases e
      rw [strsOf_eq q]; rfl
  | .non :: _, _, e => by cases e
  | .int _ :: _, _, e => by cases e
  | .bl _ :: _, _, e => by cases e
  | .ty _ :: _, _, e => by cases e
  | .tup _ :: _, _, e => by cases e
  | .rol _ :: _, _, e => by cases e
  | .ref _ :: _, _, e => by cases e
@[simp] theorem strsOf_map : ∀ ns : List Str, strsOf (ns.map D.str) = some ns
  | [] => rfl
  | k :: ns => by
    show (strsOf (ns.map D.str)).map (k :: ·) = _
    rw [strsOf_map ns]; rfl

/-! ### + - * // % ** -/
def RepOk (n : Nat) (k : Int) : Prop := -(2 ^ 63) ≤ k ∧ k < 2 ^ 63 ∧ n * k.toNat ≤ sizeLine
noncomputable instance {n : Nat} {k : Int} : Decidable (RepOk n k) := Classical.propDecidable _
def DivOk (j : Int) : Prop := 0 < j ∧ j.natAbs.log2 < 9000
noncomputable instance {j : Int} : Decidable (DivOk j) := Classical.propDecidable _
def PowOk (i j : Int) : Prop := 0 ≤ j ∧ j ≤ 1000000 ∧ i.natAbs < 2 ^ 64
noncomputable instance {i j : Int} : Decidable (PowOk i j) := Classical.propDecidable _
noncomputable def oAdd (a b : D) (h : AH) : ER := match a, b with
  | .int i, .int j => .ok (.int (i + j)) h
  | .str x, .str y => if Fits (x.length + y.length) then .ok (.str (x ++ y)) h else .stuck
  | .tup xs, .tup ys => if Fits (xs.length + ys.length) then .ok (.tup (xs ++ ys)) h else .stuck
  | .ref i, .ref j => (match h[i]?, h[j]? with
    | some (.lst xs), some (.lst ys) => if Fits (xs.length + ys.length) then .ok (.ref h.length) (h ++ [.lst (xs ++ ys)]) else .stuck
    | _, _ => .stuck)
  | _, _ => .stuck
def oSub (a b : D) (h : AH) : ER := match a, b with
  | .int i, .int j => .ok (.int (i - j)) h
  | _, _ => .stuck
noncomputable instance {i j : Int} : Decidable (CMulX i j) := Classical.propDecidable _
noncomputable def oMul (a b : D) (h : AH) : ER := match a, b with
  | .int i, .int j => if CMulX i j then .ok (.int (i * j)) h else .stuck
  | .ref i, .int k => (match h[i]? with
    | some (.lst xs) => if RepOk xs.length k then .ok (.ref h.length) (h ++ [.lst (List.replicate k.toNat xs).flatten]) else .stuck
    | _ => .stuck)
  | _, _ => .stuck
noncomputable def oDiv (a b : D) (h : AH) : ER := match a, b with
  | .int i, .int j => if DivOk j then .ok (.int (i / j)) h else .stuck
  | _, _ => .stuck
def oMod (a b : D) (h : AH) : ER := match a, b with
  | .int i, .int j => if 0 < j then .ok (.int (i % j)) h else .stuck
  | _, _ => .stuck
noncomputable def oPow (a b : D) (h : AH) : ER := match a, b with
  | .int i, .int j => if PowOk i j then .ok (.int (i ^ j.toNat)) h else .stuck
  | _, _ => .stuck
def oNeg (a : D) (h : AH) : ER := match a with
  | .int i => .ok (.int (-i)) h
  | _ => .stuck
section
variable {C : Ct}
abbrev rAddAll (X : Cx) : R2 := fun x y H Q => (rI0 fun i j => V.int (i + j)) x y H Q ∨ (fun (x y : V) (H : Hp) (Q : VK) => ∃ i j, x = .str i ∧ y = .str j ∧ i.length + j.length ≤ sizeLine ∧ Q (.str (i ++ j)) H) x y H Q ∨ rCatA X.K x y H Q ∨ rCat x y H Q
theorem op_addAll {X : Cx} : OpR X (binaryOp .Add) (rAddAll X) := op_add.or (op_add_str.or (op_catA.or op_cat))
theorem os_add : OpS C (rAddAll C.X) oAdd := by
  intro ι h H σ x y d1 d2 Q R r1 r2 p
  unfold oAdd at p
  split at p
  · rename_i i j
    exact .inl ⟨i, j, RD.int.mp r1, RD.int.mp r2, p.here R (RD.int.mpr rfl)⟩
  · rename_i i j
    split at p
    · rename_i hl
      exact .inr (.inl ⟨i, j, RD.str.mp r1, RD.str.mp r2, hl, p.here R (RD.str.mpr rfl)⟩)
    · exact p.elim
  · rename_i xs ys
    split at p
    · rename_i hl
      change _ ≤ sizeLine at hl
      obtain ⟨a, us, rfl, s1, q1⟩ := RD.tup.mp r1
      obtain ⟨b, ws, rfl, s2, q2⟩ := RD.tup.mp r2
      have l1 := q1.length
      have l2 := q2.length
      refine .inr (.inr (.inl ⟨a, b, us, ws, rfl, rfl, s1, s2, by omega, fun e => ?_, fun _ e => ?_, fun _ _ a' ha => p.tup R (q1.append q2) ha⟩))
      · have e1 : xs = [] := List.eq_nil_of_length_eq_zero (by rw [l1, e]; rfl)
        subst e1
        exact p.here R r2
      · have e1 : ys = [] := List.eq_nil_of_length_eq_zero (by rw [l2, e]; rfl)
        subst e1
        rw [List.append_nil] at p
        exact p.here R r1
    · exact p.elim
  · rename_i i j
    split at p
    · rename_i xs ys e1 e2
      split at p
      · rename_i hl
        change _ ≤ sizeLine at hl
        obtain ⟨us, rfl, h1, q1⟩ := r1.list R e1
        obtain ⟨ws, rfl, h2, q2⟩ := r2.list R e2
        have l1 := q1.length
        have l2 := q2.length
        exact .inr (.inr (.inr ⟨_, _, us, ws, rfl, rfl, h1, h2, by omega, fun a ha => p.lst R (q1.append q2) ha⟩))
      · exact p.elim
    · exact p.elim
  · exact p.elim
theorem os_sub : OpS C (rI0 fun i j => .int (i - j)) oSub := by
  intro ι h H σ x y d1 d2 Q R r1 r2 p
  unfold oSub at p
  split at p
  · rename_i i j
    exact ⟨i, j, RD.int.mp r1, RD.int.mp r2, p.here R (RD.int.mpr rfl)⟩
  · exact p.elim
abbrev rMulAll : R2 := fun x y H Q => (rI CMulX fun i j => V.int (i * j)) x y H Q ∨ rRep x y H Q
theorem op_mulAll {X : Cx} : OpR X (binaryOp .Mult) rMulAll := op_mulX.or op_rep
theorem os_mul : OpS C rMulAll oMul := by
  intro ι h H σ x y d1 d2 Q R r1 r2 p
  unfold oMul at p
  split at p
  · rename_i i j
    split at p
    · rename_i hc
      exact .inl ⟨i, j, RD.int.mp r1, RD.int.mp r2, hc, p.here R (RD.int.mpr rfl)⟩
    · exact p.elim
  · rename_i i k
    split at p
    · rename_i xs e1
      split at p
      · rename_i hl
        obtain ⟨us, rfl, h1, q1⟩ := r1.list R e1
        have l1 := q1.length
        exact .inr ⟨_, k, us, rfl, RD.int.mp r2, h1, hl.1, hl.2.1, by rw [← l1]; exact hl.2.2, fun a ha => p.lst R (q1.rep _) ha⟩
      · exact p.elim
    · exact p.elim
  · exact p.elim
theorem os_div : OpS C (rI CDivW fun i j => .int (i / j)) oDiv := by
  intro ι h H σ x y d1 d2 Q R r1 r2 p
  unfold oDiv at p
  split at p
  · rename_i i j
    split at p
    · rename_i hc
      exact ⟨i, j, RD.int.mp r1, RD.int.mp r2, hc, p.here R (RD.int.mpr rfl)⟩
    · exact p.elim
  · exact p.elim
theorem os_mod : OpS C (rI (fun _ j => 0 < j) fun i j => .int (i % j)) oMod := by
  intro ι h H σ x y d1 d2 Q R r1 r2 p
  unfold oMod at p
  split at p
  · rename_i i j
    split at p
    · rename_i hc
      exact ⟨i, j, RD.int.mp r1, RD.int.mp r2, hc, p.here R (RD.int.mpr rfl)⟩
    · exact p.elim
  · exact p.elim
theorem os_pow : OpS C (rI CPow fun i j => .int (i ^ j.toNat)) oPow := by
  intro ι h H σ x y d1 d2 Q R r1 r2 p
  unfold oPow at p
  split at p
  · rename_i i j
    split at p
    · rename_i hc
      exact ⟨i, j, RD.int.mp r1, RD.int.mp r2, hc, p.here R (RD.int.mpr rfl)⟩
    · exact p.elim
  · exact p.elim
theorem us_neg : UnS C (rU fun i => .int (-i)) oNeg := by
  intro ι h H σ x d Q R r p
  unfold oNeg at p
  split at p
  · rename_i i
    exact ⟨i, RD.int.mp r, p.here R (RD.int.mpr rfl)⟩
  · exact p.elim

/-! ### truth -/
noncomputable def oTruth (d : D) (h : AH) : ER := match d with
  | .non => .ok (.bl false) h
  | .bl b => .ok (.bl b) h
  | .int i => .ok (.bl (i != 0)) h
  | .str x => if Fits (x.length) then .ok (.bl ((x.length : Int) != 0)) h else .stuck
  | .tup ds => .ok (.bl (!ds.isEmpty)) h
  | .rol ds => .ok (.bl (!ds.isEmpty)) h
  | .ref i => (match h[i]? with
    | some (.lst ds) => .ok (.bl (!ds.isEmpty)) h
    | some (.dK kvs) => .ok (.bl (!kvs.isEmpty)) h
    | _ => .stuck)
  | _ => .stuck
theorem isEmpty_len {α β : Type} {xs : List α} {ys : List β} (e : xs.length = ys.length) : xs.isEmpty = ys.isEmpty := by
  cases xs <;> cases ys <;> first | rfl | (simp at e)
theorem ts_truth : TruS C oTruth := by
  intro ι h H σ x d Q R r p
  have fin : ∀ {b : Bool}, PostT C ι h.length H σ (.ok (.bl b) h) Q → Q b H := fun {b} p => by
    obtain ⟨b', e, q⟩ := p
    cases e
    exact q ι H .refl R
  unfold oTruth at p
  split at p
  · exact ⟨_, by rw [RD.non.mp r]; exact rfl, fin p⟩
  · exact ⟨_, by rw [RD.bl.mp r]; exact rfl, fin p⟩
  · exact ⟨_, by rw [RD.int.mp r]; exact rfl, fin p⟩
  · split at p
    · rename_i hl
      exact ⟨_, by rw [RD.str.mp r]; exact ⟨hl, rfl⟩, fin p⟩
    · exact p.elim
  · obtain ⟨a, vs, rfl, q, rr⟩ := RD.tup.mp r
    exact ⟨_, .inr (.inl ⟨vs, q, by rw [isEmpty_len rr.length]⟩), fin p⟩
  · obtain ⟨a, vs, rfl, q, rr⟩ := RD.rol.mp r
    exact ⟨_, .inl ⟨vs, q.sq, by rw [isEmpty_len rr.length]⟩, fin p⟩
  · rename_i i
    split at p
    · rename_i ds e
      obtain ⟨vs, rfl, e1, rr⟩ := r.list R e
      exact ⟨_, .inl ⟨vs, SqL.of e1, by rw [isEmpty_len rr.length]⟩, fin p⟩
    · rename_i kvs e
      obtain ⟨_, rfl⟩ := RD.ref.mp r
      obtain ⟨ws, e1, k, rr⟩ := R.ob i _ e
      have : kvs.length = ws.length := by simpa using congrArg List.length k
      exact ⟨_, .inr (.inr ⟨ws, e1, by rw [isEmpty_len this]⟩), fin p⟩
    · exact p.elim
  · exact p.elim
end

/-! ### == -/
/-- data as the library's data, lists within looked up -/
def D.toP (h : AH) : Nat → D → Option PyData
  | _, .non => some .none
  | _, .bl b => some (.bool b)
  | _, .int i => some (.int i)
  | _, .str x => if PyData.strOk x then some (.str x) else none
  | k + 1, .tup ds => (ds.mapM (D.toP h k)).map .tuple
  | k + 1, .rol ds => (ds.mapM (D.toP h k)).map .list
  | k + 1, .ref i => (match h[i]? with
    | some (.lst ds) => (ds.mapM (D.toP h k)).map .list
    | _ => none)
  | _, _ => none
theorem mapM_cons {α β : Type} {f : α → Option β} {a : α} {l : List α} {r : List β} (e : (a :: l).mapM f = some r) : ∃ b r', f a = some b ∧ l.mapM f = some r' ∧ r = b :: r' := by
  rw [List.mapM_cons] at e
  cases h1 : f a with
  | none => rw [h1] at e; cases e
  | some b =>
    rw [h1] at e
    cases h2 : l.mapM f with
    | none => rw [h2] at e; cases e
    | some r' => rw [h2] at e; cases e; exact ⟨b, r', rfl, rfl, rfl⟩
section
variable {K : PySem.W.Frag} {ι : Nat → Addr} {h : AH} {H : Hp}
theorem toP_dp (R : Rel K ι h H) : ∀ (k : Nat) (d : D) (v : V) (p : PyData), RD K ι h.length H d v → d.toP h k = some p → Dp K H v p ∧ p.canLay0 = true ∧ p.depth ≤ k := by
  have many : ∀ (k : Nat), (∀ (d : D) (v : V) (p : PyData), RD K ι h.length H d v → d.toP h k = some p → Dp K H v p ∧ p.canLay0 = true ∧ p.depth ≤ k) →
      ∀ (ds : List D) (vs : List V) (ps : List PyData), RDs K ι h.length H ds vs → ds.mapM (D.toP h k) = some ps → DpAll K H vs ps ∧ PyData.canLayAll0 ps = true ∧ PyData.depthAll ps ≤ k := by
    intro k ih ds
    induction ds with
    | nil =>
      intro vs ps r e
      rw [RDs.nil.mp r]
      rw [List.mapM_nil] at e
      cases e
      exact ⟨.nil, by simp [PyData.canLayAll0], by simp [PyData.depthAll]⟩
    | cons d ds ihd =>
      intro vs ps r e
      obtain ⟨v, r', rfl, h1, h2⟩ := RDs.cons.mp r
      obtain ⟨p, ps', e1, e2, rfl⟩ := mapM_cons e
      obtain ⟨a1, a2, a3⟩ := ih d v p h1 e1
      obtain ⟨b1, b2, b3⟩ := ihd r' ps' h2 e2
      exact ⟨.cons a1 b1, by simp [PyData.canLayAll0, a2, b2], by simp only [PyData.depthAll]; omega⟩
  intro k
  induction k with
  | zero =>
    intro d v p r e
    cases d with
    | non => cases e; rw [RD.non.mp r]; exact ⟨.non, by simp [PyData.canLay0], by simp [PyData.depth]⟩
    | bl b => cases e; rw [RD.bl.mp r]; exact ⟨.bl b, by simp [PyData.canLay0], by simp [PyData.depth]⟩
    | int b => cases e; rw [RD.int.mp r]; exact ⟨.int b, by simp [PyData.canLay0], by simp [PyData.depth]⟩
    | str b =>
      unfold D.toP at e
      split at e
      · rename_i ok
        cases e; rw [RD.str.mp r]; exact ⟨.str b, by simp [PyData.canLay0, ok], by simp [PyData.depth]⟩
      · cases e
    | _ => cases e
  | succ k ih =>
    intro d v p r e
    cases d with
    | non => cases e; rw [RD.non.mp r]; exact ⟨.non, by simp [PyData.canLay0], by simp [PyData.depth]⟩
    | bl b => cases e; rw [RD.bl.mp r]; exact ⟨.bl b, by simp [PyData.canLay0], by simp [PyData.depth]⟩
    | int b => cases e; rw [RD.int.mp r]; exact ⟨.int b, by simp [PyData.canLay0], by simp [PyData.depth]⟩
    | str b =>
      unfold D.toP at e
      split at e
      · rename_i ok
        cases e; rw [RD.str.mp r]; exact ⟨.str b, by simp [PyData.canLay0, ok], by simp [PyData.depth]⟩
      · cases e
    | ty n => cases e
    | tup ds =>
      unfold D.toP at e
      cases q : ds.mapM (D.toP h k) with
      | none => rw [q] at e; cases e
      | some ps =>
        rw [q] at e
        cases e
        obtain ⟨a, vs, rfl, s, rr⟩ := RD.tup.mp r
        obtain ⟨b1, b2, b3⟩ := many k ih ds vs ps rr q
        exact ⟨.tup s b1, by simpa [PyData.canLay0] using b2, by simp only [PyData.depth]; omega⟩
    | rol ds =>
      unfold D.toP at e
      cases q : ds.mapM (D.toP h k) with
      | none => rw [q] at e; cases e
      | some ps =>
        rw [q] at e
        cases e
        obtain ⟨a, vs, rfl, s, rr⟩ := RD.rol.mp r
        obtain ⟨b1, b2, b3⟩ := many k ih ds vs ps rr q
        exact ⟨.lst s.sq b1, by simpa [PyData.canLay0] using b2, by simp only [PyData.depth]; omega⟩
    | ref i =>
      unfold D.toP at e
      cases qi : h[i]? with
      | none => rw [qi] at e; cases e
      | some o =>
        rw [qi] at e
        cases o with
        | lst ds =>
          dsimp only at e
          cases q : ds.mapM (D.toP h k) with
          | none => rw [q] at e; cases e
          | some ps =>
            rw [q] at e
            cases e
            obtain ⟨vs, rfl, s, rr⟩ := r.list R qi
            obtain ⟨b1, b2, b3⟩ := many k ih ds vs ps rr q
            exact ⟨.lst (SqL.of s) b1, by simpa [PyData.canLay0] using b2, by simp only [PyData.depth]; omega⟩
        | _ => cases e
theorem toP_shaped {p : PyData} (h1 : p.canLay0 = true) (h2 : p.depth ≤ 20) : SeqAt.shaped p = true := by
  unfold SeqAt.shaped
  rw [h1, decide_eq_true (by omega : p.depth ≤ 64)]; rfl
end
def oEq (a b : D) (h : AH) : ER := match a.toP h 20, b.toP h 20 with
  | some p, some q => .ok (.bl (PyData.eqv p q)) h
  | _, _ => .stuck
def oNe (a b : D) (h : AH) : ER := match a.toP h 20, b.toP h 20 with
  | some p, some q => .ok (.bl (!PyData.eqv p q)) h
  | _, _ => .stuck
section
variable {C : Ct}
theorem os_eq : OpS C (rEqD C.X.K) oEq := by
  intro ι h H σ x y d1 d2 Q R r1 r2 p
  unfold oEq at p
  split at p
  · rename_i a b e1 e2
    obtain ⟨a1, a2, a3⟩ := toP_dp R _ _ _ _ r1 e1
    obtain ⟨b1, b2, b3⟩ := toP_dp R _ _ _ _ r2 e2
    exact ⟨a, b, a1, b1, toP_shaped a2 a3, toP_shaped b2 b3, p.here R (RD.bl.mpr rfl)⟩
  · exact p.elim
theorem os_ne : OpS C (rNeD C.X.K) oNe := by
  intro ι h H σ x y d1 d2 Q R r1 r2 p
  unfold oNe at p
  split at p
  · rename_i a b e1 e2
    obtain ⟨a1, a2, a3⟩ := toP_dp R _ _ _ _ r1 e1
    obtain ⟨b1, b2, b3⟩ := toP_dp R _ _ _ _ r2 e2
    exact ⟨a, b, a1, b1, toP_shaped a2 a3, toP_shaped b2 b3, p.here R (RD.bl.mpr rfl)⟩
  · exact p.elim
/-- x in l -/
def oIn (a b : D) (h : AH) : ER := match a.toP h 20, listOf h b, b.toP h 20 with
  | some p, some _, some (.list qs) => .ok (.bl (qs.any fun z => PyData.eqv z p)) h
  | _, _, _ => .stuck
def oNotIn (a b : D) (h : AH) : ER := match a.toP h 20, listOf h b, b.toP h 20 with
  | some p, some _, some (.list qs) => .ok (.bl (!qs.any fun z => PyData.eqv z p)) h
  | _, _, _ => .stuck
theorem os_in : OpS C (rInD C.X.K) oIn := by
  intro ι h H σ x y d1 d2 Q R r1 r2 p
  unfold oIn at p
  split at p
  · rename_i a l b e1 e3 e2
    obtain ⟨a1, a2, a3⟩ := toP_dp R _ _ _ _ r1 e1
    obtain ⟨b1, b2, b3⟩ := toP_dp R _ _ _ _ r2 e2
    exact ⟨a, b, a1, b1, toP_shaped a2 a3, toP_shaped b2 b3, p.here R (RD.bl.mpr rfl)⟩
  · exact p.elim
theorem os_notIn : OpS C (rNotInD C.X.K) oNotIn := by
  intro ι h H σ x y d1 d2 Q R r1 r2 p
  unfold oNotIn at p
  split at p
  · rename_i a l b e1 e3 e2
    obtain ⟨a1, a2, a3⟩ := toP_dp R _ _ _ _ r1 e1
    obtain ⟨b1, b2, b3⟩ := toP_dp R _ _ _ _ r2 e2
    exact ⟨a, b, a1, b1, toP_shaped a2 a3, toP_shaped b2 b3, p.here R (RD.bl.mpr rfl)⟩
  · exact p.elim

/-! ### < <= > >=, is None -/
def oLt (a b : D) (h : AH) : ER := match a, b with
  | .int i, .int j => .ok (.bl (decide (i < j))) h
  | .str x, .str y => .ok (.bl (decide (x.cps.toList < y.cps.toList))) h
  | .tup xs, .tup ys => (match intsOf xs, intsOf ys with
    | some ns, some ms => .ok (.bl (HT.lexLt ns ms)) h
    | _, _ => .stuck)
  | _, _ => .stuck
def oLe (a b : D) (h : AH) : ER := match a, b with
  | .int i, .int j => .ok (.bl (decide (i ≤ j))) h
  | .str x, .str y => .ok (.bl (!decide (y.cps.toList < x.cps.toList))) h
  | _, _ => .stuck
def oGt (a b : D) (h : AH) : ER := match a, b with
  | .int i, .int j => .ok (.bl (decide (j < i))) h
  | _, _ => .stuck
def oGe (a b : D) (h : AH) : ER := match a, b with
  | .int i, .int j => .ok (.bl (decide (j ≤ i))) h
  | _, _ => .stuck
abbrev rLtAll (X : Cx) : R2 := fun x y H Q => (rI0 fun i j => V.bl (decide (i < j))) x y H Q ∨ (fun (x y : V) (H : Hp) (Q : VK) => ∃ i j, x = .str i ∧ y = .str j ∧ Q (.bl (decide (i.cps.toList < j.cps.toList))) H) x y H Q ∨ rLtT X.K x y H Q
theorem op_ltAll {X : Cx} (hu : X.A.units < cLine) : OpR X (compareOp .Lt) (rLtAll X) := op_lt.or (op_lt_str.or (op_ltT hu))
theorem os_lt : OpS C (rLtAll C.X) oLt := by
  intro ι h H σ x y d1 d2 Q R r1 r2 p
  unfold oLt at p
  split at p
  · rename_i i j
    exact .inl ⟨i, j, RD.int.mp r1, RD.int.mp r2, p.here R (RD.bl.mpr rfl)⟩
  · rename_i i j
    exact .inr (.inl ⟨i, j, RD.str.mp r1, RD.str.mp r2, p.here R (RD.bl.mpr rfl)⟩)
  · rename_i xs ys
    split at p
    · rename_i ns ms e1 e2
      obtain ⟨a, us, rfl, s1, q1⟩ := RD.tup.mp r1
      obtain ⟨b, ws, rfl, s2, q2⟩ := RD.tup.mp r2
      rw [intsOf_eq e1] at q1
      rw [intsOf_eq e2] at q2
      rw [q1.ints] at s1
      rw [q2.ints] at s2
      exact .inr (.inr ⟨a, b, ns, ms, rfl, rfl, s1, s2, p.here R (RD.bl.mpr rfl)⟩)
    · exact p.elim
  · exact p.elim
abbrev rLeAll : R2 := fun x y H Q => (rI0 fun i j => V.bl (decide (i ≤ j))) x y H Q ∨ (fun (x y : V) (H : Hp) (Q : VK) => ∃ i j, x = .str i ∧ y = .str j ∧ Q (.bl (!decide (j.cps.toList < i.cps.toList))) H) x y H Q
theorem op_leAll {X : Cx} : OpR X (compareOp .LtE) rLeAll := op_le.or op_le_str
theorem os_le : OpS C rLeAll oLe := by
  intro ι h H σ x y d1 d2 Q R r1 r2 p
  unfold oLe at p
  split at p
  · rename_i i j
    exact .inl ⟨i, j, RD.int.mp r1, RD.int.mp r2, p.here R (RD.bl.mpr rfl)⟩
  · rename_i i j
    exact .inr ⟨i, j, RD.str.mp r1, RD.str.mp r2, p.here R (RD.bl.mpr rfl)⟩
  · exact p.elim
theorem os_gt : OpS C (rI0 fun i j => .bl (decide (j < i))) oGt := by
  intro ι h H σ x y d1 d2 Q R r1 r2 p
  unfold oGt at p
  split at p
  · rename_i i j
    exact ⟨i, j, RD.int.mp r1, RD.int.mp r2, p.here R (RD.bl.mpr rfl)⟩
  · exact p.elim
theorem os_ge : OpS C (rI0 fun i j => .bl (decide (j ≤ i))) oGe := by
  intro ι h H σ x y d1 d2 Q R r1 r2 p
  unfold oGe at p
  split at p
  · rename_i i j
    exact ⟨i, j, RD.int.mp r1, RD.int.mp r2, p.here R (RD.bl.mpr rfl)⟩
  · exact p.elim
def D.isNon : D → Bool
  | .non => true
  | _ => false
theorem RD.isNon {K : PySem.W.Frag} {ι : Nat → Addr} {n : Nat} {H : Hp} {d : D} {v : V} (r : RD K ι n H d v) : decide (v = .non) = d.isNon := by
  cases d with
  | non => rw [RD.non.mp r]; rfl
  | bl b => rw [RD.bl.mp r]; rfl
  | int b => rw [RD.int.mp r]; rfl
  | str b => rw [RD.str.mp r]; rfl
  | ty b => rw [RD.ty.mp r]; rfl
  | tup b => obtain ⟨a, vs, rfl, _⟩ := RD.tup.mp r; rfl
  | rol b => obtain ⟨a, vs, rfl, _⟩ := RD.rol.mp r; rfl
  | ref b => obtain ⟨_, rfl⟩ := RD.ref.mp r; rfl
def oIs (a b : D) (h : AH) : ER := match b with
  | .non => .ok (.bl a.isNon) h
  | _ => .stuck
def oIsNot (a b : D) (h : AH) : ER := match b with
  | .non => .ok (.bl (!a.isNon)) h
  | _ => .stuck
theorem os_is : OpS C (fun x y H Q => y = .non ∧ Q (.bl (decide (x = .non))) H) oIs := by
  intro ι h H σ x y d1 d2 Q R r1 r2 p
  unfold oIs at p
  split at p
  · exact ⟨RD.non.mp r2, p.here R (RD.bl.mpr (by rw [r1.isNon]))⟩
  · exact p.elim
theorem os_isNot : OpS C (fun x y H Q => y = .non ∧ Q (.bl (!decide (x = .non))) H) oIsNot := by
  intro ι h H σ x y d1 d2 Q R r1 r2 p
  unfold oIsNot at p
  split at p
  · exact ⟨RD.non.mp r2, p.here R (RD.bl.mpr (by rw [r1.isNon]))⟩
  · exact p.elim

/-! ### items, slices -/
noncomputable def oIx (a b : D) (h : AH) : ER := match b with
  | .int i => (match a with
    | .str z => if Fits (z.length) then (match L2.atI z.cps.toList i with
      | some c => .ok (.str ⟨#[c]⟩) h
      | none => .stuck) else .stuck
    | a => (match seqOf h a with
      | some ds => (match L2.atI ds i with
        | some d => .ok d h
        | none => .stuck)
      | none => .stuck))
  | _ => .stuck
theorem os_ix : OpS C (rIx C.X.K) oIx := by
  intro ι h H σ x y d1 d2 Q R r1 r2 p
  unfold oIx at p
  split at p
  · rename_i i
    cases RD.int.mp r2
    split at p
    · rename_i z
      cases RD.str.mp r1
      split at p
      · rename_i hl
        split at p
        · rename_i c e
          exact .inr (.inr ⟨z, i, c, rfl, rfl, hl, e, p.here R (RD.str.mpr rfl)⟩)
        · exact p.elim
      · exact p.elim
    · split at p
      · rename_i ds e
        split at p
        · rename_i d e2
          obtain ⟨a, vs, rfl, s, rr⟩ := seqOf_sq R r1 e
          obtain ⟨v, e3, r3⟩ := rr.atI e2
          have q := p.here R r3
          rcases s with s | s
          · exact .inl ⟨a, vs, i, v, rfl, rfl, s, e3, q⟩
          · exact .inr (.inl ⟨a, vs, i, v, rfl, rfl, s, e3, q⟩)
        · exact p.elim
      · exact p.elim
  · exact p.elim
theorem me_ix {a b : Expr} {ma mb : EM} {pos : Pos} {r : R2} {g : D → D → AH → ER} (hr : IxR C.X r) (hs : OpS C r g) (ha : ME C a ma) (hb : ME C b mb) (hp : PlainIx b := by exact fun _ _ => rfl) : ME C (.Subscript a b pos) (eOp g ma mb) := by
  obtain ⟨ta, pa, sa⟩ := ha
  obtain ⟨tb, pb, sb⟩ := hb
  exact ⟨_, pe_ix hr pa pb hp, sa.op sb hs⟩
/-- a part of a slice -/
def MO (C : Ct) (e : Option Expr) (m : Option EM) : Prop := match m with
  | none => e = none
  | some m => ∃ a, e = some a ∧ ME C a m
def cutD (ds : List D) (lo hi : Option Int) : List D := (ds.drop (HT.sIx ds.length 0 lo)).take (HT.sIx ds.length ds.length hi - HT.sIx ds.length 0 lo)
noncomputable def oSl (a : D) (lo hi : Option Int) (h : AH) : ER := match a with
  | .str z => if Fits (z.length) then .ok (.str (cutS z lo hi)) h else .stuck
  | .tup ds => .ok (.tup (cutD ds lo hi)) h
  | a => (match listOf h a with
    | some ds => .ok (.ref h.length) (h ++ [.lst (cutD ds lo hi)])
    | none => .stuck)
def ePart (m : Option EM) (env : AE) (h : AH) (f : Option Int → AH → ER) : ER := match m with
  | none => f none h
  | some m => (m env h).then fun d h1 => match d with
    | .int i => f (some i) h1
    | _ => .stuck
noncomputable def eSl (a : EM) (lo hi : Option EM) : EM := fun env h => (a env h).then fun d h1 => ePart lo env h1 fun l h2 => ePart hi env h2 fun u h3 => oSl d l u h3
theorem MO.po {e : Option Expr} {m : Option EM} (hm : MO C e m) : ∃ t, PO C.X e t ∧ ∀ (env : AE) (h : AH) (σ : List (Option V)) (H : Hp) (ι : Nat → Addr) (f : Option Int → AH → ER) (Q : VK) (Q' : Option Int → Hp → Prop), Rel C.X.K ι h H → RV C ι h.length H env σ → PostE C ι h.length H σ (ePart m env h f) Q →
    (∀ i h' ι' H', Ext ι h.length H ι' h'.length H' → Rel C.X.K ι' h' H' → RV C ι' h'.length H' env σ → PostE C ι' h'.length H' σ (f i h') Q → Q' i H') → t σ H Q' := by
  cases m with
  | none =>
    have e' : e = none := hm
    subst e'
    exact ⟨_, po_none, fun env h σ H ι f Q Q' R V p k => k none h ι H .refl R V p⟩
  | some m =>
    obtain ⟨a, rfl, ta, pa, sa⟩ := hm
    refine ⟨_, po_some pa, fun env h σ H ι f Q Q' R V p k => ?_⟩
    refine sa.then R V p fun d h1 ι1 H1 v x1 R1 V1 r1 p1 => ?_
    cases d with
    | int i => exact ⟨i, RD.int.mp r1, k (some i) h1 ι1 H1 x1 R1 V1 p1⟩
    | _ => exact (show False from p1).elim
theorem me_slice {a : Expr} {lo hi : Option Expr} {ma : EM} {ml mh : Option EM} {p2 pos : Pos} (ha : ME C a ma) (hl : MO C lo ml) (hh : MO C hi mh) : ME C (.Subscript a (.Slice lo hi none p2) pos) (eSl ma ml mh) := by
  obtain ⟨ta, pa, sa⟩ := ha
  obtain ⟨tl, pl, sl⟩ := hl.po
  obtain ⟨th, ph, sh⟩ := hh.po
  refine ⟨_, pe_slice (sl_list.or (sl_tupA.or sl_str)) pa pl ph, ⟨fun env h σ H ι Q R V p => ?_⟩⟩
  refine sa.then R V p fun d h1 ι1 H1 v x1 R1 V1 r1 p1 => ?_
  refine sl env h1 σ H1 ι1 _ Q _ R1 V1 p1 fun l h2 ι2 H2 x2 R2 V2 p2 => ?_
  refine sh env h2 σ H2 ι2 _ Q _ R2 V2 p2 fun u h3 ι3 H3 x3 R3 V3 p3 => ?_
  have r3 := r1.mono ((x2.trans x3).grow R1)
  unfold oSl at p3
  split at p3
  · rename_i z
    split at p3
    · rename_i hz
      exact .inr (.inr ⟨z, RD.str.mp r3, hz, p3.here R3 (RD.str.mpr rfl)⟩)
    · exact p3.elim
  · rename_i ds
    obtain ⟨b, vs, rfl, s, rr⟩ := RD.tup.mp r3
    refine .inr (.inl ⟨b, vs, rfl, s, fun e => ?_, fun _ a' ha => p3.tup R3 (rr.cut_ l u) ha⟩)
    have e1 : cutD ds l u = ds := by
      unfold cutD
      rw [rr.length, e.1, e.2]
      simp only [List.drop_zero, Nat.sub_zero]
      rw [← rr.length]
      exact List.take_length
    rw [e1] at p3
    exact p3.here R3 r3
  · split at p3
    · rename_i ds e
      obtain ⟨b, vs, rfl, s, rr⟩ := listOf_sq R3 r3 e
      exact .inl ⟨b, vs, rfl, s, fun a' ha => p3.lst R3 (rr.cut_ l u) ha⟩
    · exact p3.elim
end
end Rf

set_option maxHeartbeats 1000000
namespace Rf
open PySem PySem.Spec PyProof.Rows L2

/-! ### what is walked -/
def RgB (j : Int) : Prop := -(2 ^ 62) ≤ j ∧ j < 2 ^ 62
noncomputable instance {j : Int} : Decidable (RgB j) := Classical.propDecidable _
def RgB2 (i j : Int) : Prop := -(2 ^ 62) ≤ i ∧ i < 2 ^ 62 ∧ -(2 ^ 62) ≤ j ∧ j < 2 ^ 62
noncomputable instance {i j : Int} : Decidable (RgB2 i j) := Classical.propDecidable _
/-- a row that stands still -/
def stat (ds : List D) : AIt := ⟨ds.length, fun i _ => some ds[i]?⟩
/-- the list number r, as it stands -/
def live (r n : Nat) : AIt := ⟨n, fun i h => match h[r]? with
  | some (.lst ds) => some ds[i]?
  | _ => none⟩
def signs (x : Str) : List D := x.cps.toList.map fun c => .str ⟨#[c]⟩
def iVal (m : EM) : IM := fun e h => match m e h with
  | .ok (.tup ds) h1 => .ok (stat ds) h1
  | .ok (.rol ds) h1 => .ok (stat ds) h1
  | .ok (.str x) h1 => .ok (stat (signs x)) h1
  | .ok (.ref r) h1 => (match h1[r]? with
    | some (.lst ds) => .ok (live r ds.length) h1
    | _ => .stuck)
  | .ok _ _ => .stuck
  | .exc c fs h1 => .exc c fs h1
  | .stuck => .stuck
/-- lo, lo + 1, .. (n of them) -/
def rg (lo : Int) (n : Nat) : List D := (List.range n).map fun i => .int (lo + (i : Nat))
noncomputable def iRange1 (l : LM) : IM := fun e h => match l e h with
  | .ok [.int j] h1 => if RgB j then .ok (stat (rg 0 j.toNat)) h1 else .stuck
  | .ok _ _ => .stuck
  | .exc c fs h1 => .exc c fs h1
  | .stuck => .stuck
noncomputable def iRange2 (l : LM) : IM := fun e h => match l e h with
  | .ok [.int i, .int j] h1 => if RgB2 i j then .ok (stat (rg i (j - i).toNat)) h1 else .stuck
  | .ok _ _ => .stuck
  | .exc c fs h1 => .exc c fs h1
  | .stuck => .stuck
/-- reversed(range(..)) -/
noncomputable def iRevRange1 (l : LM) : IM := fun e h => match l e h with
  | .ok [.int j] h1 => if RgB j then .ok (stat (rg 0 j.toNat).reverse) h1 else .stuck
  | .ok _ _ => .stuck
  | .exc c fs h1 => .exc c fs h1
  | .stuck => .stuck
section
variable {K : PySem.W.Frag} {ι : Nat → Addr} {n : Nat} {h : AH} {H : Hp} {ds : List D} {vs : List V} {a : Addr}
theorem itr_stat {J : It} (k : ∀ i ι' h' H', Ext ι n H ι' h'.length H' → Rel K ι' h' H' → (ds[i]? = none → J.stop i H') ∧ ∀ d, ds[i]? = some d → J.go i H' ∧ ∀ x H2, J.yld i H' x H2 → ∃ ι2, Ext ι' h'.length H' ι2 h'.length H2 ∧ Rel K ι2 h' H2 ∧ RD K ι2 h'.length H2 d x) : ItR K J (stat ds) ι n H := by
  intro i ι' h' H' x R
  obtain ⟨k1, k2⟩ := k i ι' h' H' x R
  exact ⟨fun e => k1 (by simpa [stat] using e), fun d e => k2 d (by simpa [stat] using e)⟩
theorem itr_tup (R0 : Rel K ι h H) (q : SqT K H a vs) (r : RDs K ι h.length H ds vs) : ItR K (Itt K a) (stat ds) ι h.length H := by
  refine itr_stat fun i ι' h' H' x R => ⟨fun e => ⟨vs, R0.sqT x q, by rw [← r.length]; exact List.getElem?_eq_none_iff.mp e⟩, fun d e => ?_⟩
  obtain ⟨v, ev, rv⟩ := r.get e
  refine ⟨⟨vs, v, R0.sqT x q, ev⟩, fun y H2 hy => ?_⟩
  obtain ⟨rfl, hy⟩ := hy
  have e2 := hy vs (R0.sqT x q)
  rw [ev] at e2; cases e2
  exact ⟨ι', .refl, R, rv.mono (x.grow R0)⟩
theorem itr_rol (R0 : Rel K ι h H) (q : RoL K H a vs) (r : RDs K ι h.length H ds vs) : ItR K (Itl K a) (stat ds) ι h.length H := by
  refine itr_stat fun i ι' h' H' x R => ⟨fun e => ⟨vs, (R0.roL x q).sq, by rw [← r.length]; exact List.getElem?_eq_none_iff.mp e⟩, fun d e => ?_⟩
  obtain ⟨v, ev, rv⟩ := r.get e
  refine ⟨⟨vs, v, (R0.roL x q).sq, ev⟩, fun y H2 hy => ?_⟩
  obtain ⟨rfl, hy⟩ := hy
  have e2 := hy vs (R0.roL x q).sq
  rw [ev] at e2; cases e2
  exact ⟨ι', .refl, R, rv.mono (x.grow R0)⟩
theorem itr_live {r m : Nat} (hr : r < n) : ItR K (Itl K (ι r)) (live r m) ι n H := by
  intro i ι' h' H' x R
  have eι := x.ag r hr
  unfold live
  dsimp only
  cases q : h'[r]? with
  | none => exact ⟨(fun z => nomatch z), (fun d z => nomatch z)⟩
  | some o =>
    cases o with
    | lst ds =>
      obtain ⟨vs, e1, rr⟩ := R.ob r _ q
      rw [eι] at e1
      refine ⟨fun e => ⟨vs, SqL.of e1, by rw [← rr.length]; exact List.getElem?_eq_none_iff.mp (Option.some.inj e)⟩, fun d e => ?_⟩
      obtain ⟨v, ev, rv⟩ := rr.get (Option.some.inj e)
      refine ⟨⟨vs, v, SqL.of e1, ev⟩, fun y H2 hy => ?_⟩
      obtain ⟨rfl, hy⟩ := hy
      have e2 := hy vs (SqL.of e1)
      rw [ev] at e2; cases e2
      exact ⟨ι', .refl, R, rv⟩
    | dK _ => exact ⟨(fun z => nomatch z), (fun d z => nomatch z)⟩
    | dT _ => exact ⟨(fun z => nomatch z), (fun d z => nomatch z)⟩
theorem itr_str {x : Str} : ItR K (Its x) (stat (signs x)) ι n H := by
  refine itr_stat fun i ι' h' H' y R => ?_
  unfold signs
  rw [List.getElem?_map, Array.getElem?_toList]
  refine ⟨fun e => ?_, fun d e => ?_⟩
  · cases q : x.cps[i]? with
    | none => exact Array.getElem?_eq_none_iff.mp q
    | some c => rw [q] at e; cases e
  · cases q : x.cps[i]? with
    | none => rw [q] at e; cases e
    | some c =>
      rw [q] at e
      cases e
      refine ⟨(Array.getElem?_eq_some_iff.mp q).1, fun z H2 hz => ?_⟩
      obtain ⟨rfl, c', ec, rfl⟩ := hz
      rw [q] at ec; cases ec
      exact ⟨ι', .refl, R, RD.str.mpr rfl⟩
theorem rg_get {lo : Int} {n i : Nat} : (rg lo n)[i]? = if i < n then some (.int (lo + (i : Nat))) else none := by
  unfold rg
  rw [List.getElem?_map]
  by_cases hi : i < n
  · rw [if_pos hi, List.getElem?_range hi]; rfl
  · rw [if_neg hi, List.getElem?_eq_none (by simpa using hi)]; rfl
theorem itr_range {lo : Int} {m : Nat} : ItR K (Itr lo m) (stat (rg lo m)) ι n H := by
  refine itr_stat fun i ι' h' H' y R => ?_
  rw [rg_get]
  by_cases hi : i < m
  · rw [if_pos hi]
    refine ⟨(fun z => nomatch z), fun d e => ?_⟩
    cases e
    refine ⟨hi, fun z H2 hz => ?_⟩
    obtain ⟨rfl, rfl⟩ := hz
    exact ⟨ι', .refl, R, RD.int.mpr rfl⟩
  · rw [if_neg hi]
    exact ⟨fun _ => Nat.not_lt.mp hi, (fun d z => nomatch z)⟩
theorem rg_length {lo : Int} {n : Nat} : (rg lo n).length = n := by unfold rg; simp
theorem itr_revRange {m : Nat} : ItR K (Itc ((m : Int) - 1) (-1) m) (stat (rg 0 m).reverse) ι n H := by
  refine itr_stat fun i ι' h' H' y R => ?_
  by_cases hi : i < m
  · rw [List.getElem?_reverse (by rw [rg_length]; exact hi), rg_length, rg_get, if_pos (by omega)]
    refine ⟨(fun z => nomatch z), fun d e => ?_⟩
    cases e
    refine ⟨hi, fun z H2 hz => ?_⟩
    obtain ⟨rfl, rfl⟩ := hz
    exact ⟨ι', .refl, R, RD.int.mpr (by congr 1; omega)⟩
  · rw [List.getElem?_eq_none (by rw [List.length_reverse, rg_length]; exact Nat.not_lt.mp hi)]
    exact ⟨fun _ => Nat.not_lt.mp hi, (fun d z => nomatch z)⟩
end
theorem PI.or {X : Cx} {tg e : Expr} {t u : TI} (h1 : PI X tg e t) (h2 : PI X tg e u) : PI X tg e (fun σ H R => t σ H R ∨ u σ H R) :=
  ⟨fun pins s σ H R I q => q.elim (h1.run pins s σ H R I) (h2.run pins s σ H R I)⟩
section
variable {C : Ct} {tg a b : Expr} {m : EM} {ml : LM} {p pos : Pos}
theorem PostI.here {ι : Nat → Addr} {n : Nat} {h' : AH} {H H' : Hp} {σ : List (Option V)} {it : AIt} {Q : It → Hp → Prop} {J : It} {ι' : Nat → Addr} (p : PostI C ι n H σ (.ok it h') Q) (x : Ext ι n H ι' h'.length H') (R : Rel C.X.K ι' h' H') (j : ItR C.X.K J it ι' h'.length H') : Q J H' := p ι' H' J x R j
theorem mi_val (ha : ME C a m) : MI C tg a (iVal m) := by
  obtain ⟨t, pa, sa⟩ := ha
  refine ⟨_, PI.or (pi_list pa) (PI.or (pi_tup pa) (pi_str pa)), ⟨fun env h σ H ι Q R V p => ?_⟩⟩
  unfold iVal at p
  cases hm : m env h with
  | exc c fs h1 =>
    rw [hm] at p
    exact .inl (sa.run env h σ H ι _ R V (by rw [hm]; exact p))
  | stuck => rw [hm] at p; exact p.elim
  | ok d h1 =>
    rw [hm] at p
    have ru : ∀ {Q' : VK}, (∀ ι' H' v, Ext ι h.length H ι' h1.length H' → Rel C.X.K ι' h1 H' → RD C.X.K ι' h1.length H' d v → Q' v H') → t σ H Q' := fun {Q'} k => sa.run env h σ H ι _ R V (by rw [hm]; exact k)
    cases d with
    | tup ds =>
      refine .inr (.inl (ru fun ι' H' v x R' r => ?_))
      obtain ⟨a, vs, rfl, s, rr⟩ := RD.tup.mp r
      exact ⟨a, rfl, ⟨vs, s⟩, p.here x R' (itr_tup R' s rr)⟩
    | rol ds =>
      refine .inl (ru fun ι' H' v x R' r => ?_)
      obtain ⟨a, vs, rfl, s, rr⟩ := RD.rol.mp r
      exact ⟨a, rfl, ⟨vs, s.sq⟩, p.here x R' (itr_rol R' s rr)⟩
    | str z =>
      refine .inr (.inr (ru fun ι' H' v x R' r => ?_))
      exact ⟨z, RD.str.mp r, p.here x R' itr_str⟩
    | ref r0 =>
      dsimp only at p
      cases q : h1[r0]? with
      | none => rw [q] at p; exact p.elim
      | some o =>
        rw [q] at p
        cases o with
        | lst ds =>
          refine .inl (ru fun ι' H' v x R' r => ?_)
          obtain ⟨vs, rfl, e1, rr⟩ := r.list R' q
          exact ⟨_, rfl, ⟨vs, SqL.of e1⟩, p.here x R' (itr_live (RD.ref.mp r).1)⟩
        | _ => exact (show False from p).elim
    | _ => exact (show False from p).elim
theorem SimL.int1 {t : TA} (s : SimL C t ml) {env : AE} {h : AH} {σ : List (Option V)} {H : Hp} {ι : Nat → Addr} {f : Int → AH → IR} {Q : It → Hp → Prop} {Q' : List V → Hp → Prop} (R : Rel C.X.K ι h H) (V : RV C ι h.length H env σ)
    (p : PostI C ι h.length H σ (match ml env h with | .ok [.int j] h1 => f j h1 | .ok _ _ => .stuck | .exc c fs h1 => .exc c fs h1 | .stuck => .stuck) Q)
    (k : ∀ j h1 ι' H', ml env h = .ok [.int j] h1 → Ext ι h.length H ι' h1.length H' → Rel C.X.K ι' h1 H' → PostI C ι h.length H σ (f j h1) Q → Q' [.int j] H') : t σ H Q' := by
  refine s.run env h σ H ι _ R V ?_
  cases hm : ml env h with
  | exc c fs h1 => rw [hm] at p; exact p
  | stuck => rw [hm] at p; exact p
  | ok ds h1 =>
    rw [hm] at p
    match ds, p with
    | [.int j], p =>
      refine fun ι' H' vs x R' r => ?_
      obtain ⟨v, r', rfl, q1, q2⟩ := RDs.cons.mp r
      cases RDs.nil.mp q2
      cases RD.int.mp q1
      exact k j h1 ι' H' hm x R' p
    | [], p => exact (show False from p).elim
    | .non :: _, p => exact (show False from p).elim
    | .bl _ :: _, p => exact (show False from p).elim
    | .str _ :: _, p => exact (show False from p).elim
    | .ty _ :: _, p => exact (show False from p).elim
    | .tup _ :: _, p => exact (show False from p).elim
    | .rol _ :: _, p => exact (show False from p).elim
    | .ref _ :: _, p => exact (show False from p).elim
    | .int _ :: _ :: _, p => exact (show False from p).elim
theorem mi_range1 (hm : C.X.mg "range" = none) (ha : MA C [a] ml) (hg : Gl C.X "range" := by rfl) (hs : starEach [a] C.X.env = [(false, eval a C.X.env)] := by rfl) : MI C tg (.Call (.Name "range" p) [a] [] pos) (iRange1 ml) := by
  obtain ⟨t, pa, sa⟩ := ha
  refine ⟨_, pi_range1 hg hm pa hs, ⟨fun env h σ H ι Q R V p => ?_⟩⟩
  refine sa.int1 (f := fun j h1 => if RgB j then .ok (stat (rg 0 j.toNat)) h1 else .stuck) R V (by unfold iRange1 at p; exact p) fun j h1 ι' H' hm x R' p => ?_
  by_cases hj : RgB j
  · rw [if_pos hj] at p
    exact ⟨j, rfl, hj.1, hj.2, p.here x R' itr_range⟩
  · rw [if_neg hj] at p; exact p.elim
theorem mi_range2 (hm : C.X.mg "range" = none) (ha : MA C [a, b] ml) (hg : Gl C.X "range" := by rfl) (hs : starEach [a, b] C.X.env = [(false, eval a C.X.env), (false, eval b C.X.env)] := by rfl) (hs2 : starEach [b] C.X.env = [(false, eval b C.X.env)] := by rfl) : MI C tg (.Call (.Name "range" p) [a, b] [] pos) (iRange2 ml) := by
  obtain ⟨t, pa, sa⟩ := ha
  refine ⟨_, pi_range2 hg hm pa hs hs2, ⟨fun env h σ H ι Q R V p => ?_⟩⟩
  refine sa.run env h σ H ι _ R V ?_
  unfold iRange2 at p
  cases hm : ml env h with
  | exc c fs h1 => rw [hm] at p; exact p
  | stuck => rw [hm] at p; exact p
  | ok ds h1 =>
    rw [hm] at p
    split at p
    · rename_i i j h1' e
      injection e with e1 e2
      subst e1 e2
      by_cases hj : RgB2 i j
      · rw [if_pos hj] at p
        refine fun ι' H' vs x R' r => ?_
        obtain ⟨v, r', rfl, q1, q2⟩ := RDs.cons.mp r
        obtain ⟨v2, r2, rfl, q3, q4⟩ := RDs.cons.mp q2
        cases RDs.nil.mp q4
        cases RD.int.mp q1
        cases RD.int.mp q3
        exact ⟨i, j, rfl, hj, p.here x R' itr_range⟩
      · rw [if_neg hj] at p; exact p.elim
    · exact p.elim
    · rename_i e; cases e
    · rename_i e; cases e
theorem mi_revRange1 {p2 pos2 : Pos} {ma : EM} (hmr : C.X.mg "reversed" = none) (hm : C.X.mg "range" = none) (ha : ME C a ma) (hgr : Gl C.X "reversed" := by rfl) (hg : Gl C.X "range" := by rfl) (na : starEach [a] C.X.env = (false, eval a C.X.env) :: starEach [] C.X.env := by rfl)
    (hs : starEach [.Call (.Name "range" p) [a] [] pos] C.X.env = (false, eval (.Call (.Name "range" p) [a] [] pos) C.X.env) :: starEach [] C.X.env := by rfl) : MI C tg (.Call (.Name "reversed" p2) [.Call (.Name "range" p) [a] [] pos] [] pos2) (iRevRange1 (lCons ma lNil)) := by
  obtain ⟨t, pa, sa⟩ := ha
  refine ⟨_, pi_revR hgr hmr (prg_1 hg hm pa na) hs, ⟨fun env h σ H ι Q R V p => ?_⟩⟩
  refine sa.run env h σ H ι _ R V ?_
  unfold iRevRange1 lCons lNil at p
  cases hm : ma env h with
  | exc c fs h1 => rw [hm] at p; exact p
  | stuck => rw [hm] at p; exact p
  | ok d h1 =>
    rw [hm] at p
    dsimp only at p
    cases d with
    | int j =>
      dsimp only at p
      by_cases hj : RgB j
      · rw [if_pos hj] at p
        refine fun ι' H' v x R' r => ⟨j, RD.int.mp r, by omega, by omega, hj.1, hj.2, ?_⟩
        have e : (0 : Int) + (((j - 0).toNat : Nat) : Int) - 1 = ((j.toNat : Nat) : Int) - 1 := by rw [Int.sub_zero]; omega
        have e2 : (j - 0).toNat = j.toNat := by rw [Int.sub_zero]
        rw [e, e2]
        exact p.here x R' itr_revRange
      · rw [if_neg hj] at p; exact p.elim
    | _ => exact (show False from p).elim
end

/-! ### displays -/
noncomputable def eTup (l : LM) : EM := fun env h => (l env h).then fun ds h1 => if Fits (ds.length) then .ok (.tup ds) h1 else .stuck
noncomputable def eLst (l : LM) : EM := fun env h => (l env h).then fun ds h1 => if Fits (ds.length) then .ok (.ref h1.length) (h1 ++ [.lst ds]) else .stuck
section
variable {C : Ct} {es : List Expr} {ml : LM} {pos : Pos}
theorem SimL.then {t : TA} (s : SimL C t ml) {env : AE} {h : AH} {σ : List (Option V)} {H : Hp} {ι : Nat → Addr} {f : List D → AH → ER} {Q : VK} {Q' : List V → Hp → Prop} (R : Rel C.X.K ι h H) (V : RV C ι h.length H env σ)
    (p : PostE C ι h.length H σ ((ml env h).then f) Q)
    (k : ∀ ds h1 ι' H' vs, Ext ι h.length H ι' h1.length H' → Rel C.X.K ι' h1 H' → RV C ι' h1.length H' env σ → RDs C.X.K ι' h1.length H' ds vs → PostE C ι' h1.length H' σ (f ds h1) Q → Q' vs H') : t σ H Q' := by
  refine s.run env h σ H ι _ R V ?_
  cases hm : ml env h with
  | exc c fs h1 => rw [hm] at p; exact p
  | stuck => rw [hm] at p; exact p
  | ok ds h1 =>
    rw [hm] at p
    exact fun ι' H' vs x R' r => k ds h1 ι' H' vs x R' (V.ext R x) r (PostE.shift p x)
theorem me_tup {x1 : Nat} (ha : MA C es ml) : ME C (.Tuple es x1 pos) (eTup ml) := by
  obtain ⟨t, pa, sa⟩ := ha
  refine ⟨_, pe_tup pa, ⟨fun env h σ H ι Q R V p => ?_⟩⟩
  refine sa.then R V p fun ds h1 ι' H' vs x R' V' r p => ?_
  by_cases hl : Fits ds.length
  · rw [if_pos hl] at p
    exact ⟨by rw [← r.length]; exact hl, fun a ha => p.tup R' r ha⟩
  · rw [if_neg hl] at p; exact p.elim
theorem me_lst (ha : MA C es ml) : ME C (.List es pos) (eLst ml) := by
  obtain ⟨t, pa, sa⟩ := ha
  refine ⟨_, pe_lst pa, ⟨fun env h σ H ι Q R V p => ?_⟩⟩
  refine sa.then R V p fun ds h1 ι' H' vs x R' V' r p => ?_
  by_cases hl : Fits ds.length
  · rw [if_pos hl] at p
    exact ⟨by rw [← r.length]; exact hl, fun a ha => p.lst R' r ha⟩
  · rw [if_neg hl] at p; exact p.elim
end

/-! ### built-in functions, by values -/
noncomputable def cLen (ds : List D) (h : AH) : ER := match ds with
  | [.str x] => if Fits (x.length) then .ok (.int x.length) h else .stuck
  | [.ref i] => (match h[i]? with
    | some (.lst es) => .ok (.int es.length) h
    | some (.dK kvs) => .ok (.int kvs.length) h
    | _ => .stuck)
  | [.tup es] => .ok (.int es.length) h
  | [.rol es] => .ok (.int es.length) h
  | _ => .stuck
def cMax2 (ds : List D) (h : AH) : ER := match ds with
  | [.int i, .int j] => .ok (.int (if j > i then j else i)) h
  | _ => .stuck
def cMin2 (ds : List D) (h : AH) : ER := match ds with
  | [.int i, .int j] => .ok (.int (if j < i then j else i)) h
  | _ => .stuck
def cAbs (ds : List D) (h : AH) : ER := match ds with
  | [.int i] => .ok (.int (if i < 0 then -i else i)) h
  | _ => .stuck
def cInt (ds : List D) (h : AH) : ER := match ds with
  | [.int i] => .ok (.int i) h
  | [.bl b] => .ok (.int (if b then 1 else 0)) h
  | _ => .stuck
def cSum (ds : List D) (h : AH) : ER := match ds with
  | [d] => (match listOf h d with
    | some es => (match intsOf es with
      | some ns => .ok (.int ns.sum) h
      | none => .stuck)
    | none => .stuck)
  | _ => .stuck
def cAny (ds : List D) (h : AH) : ER := match ds with
  | [d] => (match listOf h d with
    | some es => (match blsOf es with
      | some ns => .ok (.bl (ns.any id)) h
      | none => .stuck)
    | none => .stuck)
  | _ => .stuck
def cAll (ds : List D) (h : AH) : ER := match ds with
  | [d] => (match listOf h d with
    | some es => (match blsOf es with
      | some ns => .ok (.bl (ns.all id)) h
      | none => .stuck)
    | none => .stuck)
  | _ => .stuck
/-- list(row) -/
def cList (ds : List D) (h : AH) : ER := match ds with
  | [d] => (match seqOf h d with
    | some es => .ok (.ref h.length) (h ++ [.lst es])
    | none => .stuck)
  | _ => .stuck
def cTuple (ds : List D) (h : AH) : ER := match ds with
  | [d] => (match seqOf h d with
    | some es => .ok (.tup es) h
    | none => .stuck)
  | _ => .stuck
/-- the types of data -/
def D.tyn (h : AH) : D → Option String
  | .non => some "NoneType"
  | .bl _ => some "bool"
  | .int _ => some "int"
  | .str _ => some "str"
  | .tup _ => some "tuple"
  | .rol _ => some "list"
  | .ref i => (match h[i]? with
    | some (.lst _) => some "list"
    | some (.dK _) => some "dict"
    | some (.dT _) => some "dict"
    | none => none)
  | .ty _ => none
/-- is a value of type a one of type b -/
def isTy (a b : String) : Bool := a == b || (a == "bool" && b == "int")
def tyNames : List String := ["NoneType", "bool", "int", "str", "tuple", "list", "dict"]
def askTys : List String := ["bool", "int", "str", "tuple", "list", "dict"]
theorem kit_all : ∀ a ∈ tyNames, ∀ b ∈ askTys, kitB a b = some (isTy a b) := by decide +kernel
def cIsi (ds : List D) (h : AH) : ER := match ds with
  | [d, .ty n] => (match d.tyn h with
    | some t => if n ∈ askTys then .ok (.bl (isTy t n)) h else .stuck
    | none => .stuck)
  | _ => .stuck
section
variable {C : Ct}
theorem cs_len : CallS C (fun xs H Q => ∃ x n, xs = [x] ∧ LenV C.X.K x H n ∧ Q (.int n) H) cLen ∨ True := .inr trivial
theorem RDs.one {K : PySem.W.Frag} {ι : Nat → Addr} {n : Nat} {H : Hp} {d : D} {vs : List V} (r : RDs K ι n H [d] vs) : ∃ v, vs = [v] ∧ RD K ι n H d v := by
  obtain ⟨v, r', rfl, q1, q2⟩ := RDs.cons.mp r
  cases RDs.nil.mp q2
  exact ⟨v, rfl, q1⟩
theorem RDs.two {K : PySem.W.Frag} {ι : Nat → Addr} {n : Nat} {H : Hp} {d e : D} {vs : List V} (r : RDs K ι n H [d, e] vs) : ∃ v w, vs = [v, w] ∧ RD K ι n H d v ∧ RD K ι n H e w := by
  obtain ⟨v, r', rfl, q1, q2⟩ := RDs.cons.mp r
  obtain ⟨w, rfl, q3⟩ := q2.one
  exact ⟨v, w, rfl, q1, q3⟩
abbrev rLenAll (X : Cx) : List V → Hp → VK → Prop := fun xs H Q => (∃ p ys, xs = [.ref p] ∧ (SqL X.K H p ys ∨ SqT X.K H p ys) ∧ Q (.int ys.length) H) ∨ (∃ z, xs = [.str z] ∧ z.length ≤ sizeLine ∧ Q (.int z.length) H) ∨ (∃ a kvs, xs = [V.ref a] ∧ H a = some (.dK kvs) ∧ Q (.int kvs.length) H)
theorem cl_len {X : Cx} : CallR X (.builtin "len") (rLenAll X) := call_len_seq.or (call_len_str.or call_lenD)
theorem cs_lenAll : CallS C (rLenAll C.X) cLen := by
  intro ι h H σ xs ds Q R r p
  unfold cLen at p
  split at p
  · split at p
    · rename_i hl
      obtain ⟨v, rfl, q⟩ := r.one
      exact .inr (.inl ⟨_, by rw [RD.str.mp q], hl, p.here R (RD.int.mpr rfl)⟩)
    · exact p.elim
  · obtain ⟨v, rfl, q⟩ := r.one
    split at p
    · rename_i es e
      obtain ⟨vs, rfl, e1, rr⟩ := q.list R e
      exact .inl ⟨_, vs, rfl, .inl (SqL.of e1), p.here R (RD.int.mpr (by rw [rr.length]))⟩
    · rename_i i kvs e
      obtain ⟨_, rfl⟩ := RD.ref.mp q
      obtain ⟨ws, e1, k, rr⟩ := R.ob _ _ e
      have : kvs.length = ws.length := by simpa using congrArg List.length k
      exact .inr (.inr ⟨_, ws, rfl, e1, p.here R (RD.int.mpr (by rw [this]))⟩)
    · exact p.elim
  · obtain ⟨v, rfl, q⟩ := r.one
    obtain ⟨a, vs, rfl, s, rr⟩ := RD.tup.mp q
    exact .inl ⟨_, vs, rfl, .inr s, p.here R (RD.int.mpr (by rw [rr.length]))⟩
  · obtain ⟨v, rfl, q⟩ := r.one
    obtain ⟨a, vs, rfl, s, rr⟩ := RD.rol.mp q
    exact .inl ⟨_, vs, rfl, .inl s.sq, p.here R (RD.int.mpr (by rw [rr.length]))⟩
  · exact p.elim
theorem cs_max2 : CallS C (fun xs H Q => ∃ i j, xs = [.int i, .int j] ∧ Q (.int (if j > i then j else i)) H) cMax2 := by
  intro ι h H σ xs ds Q R r p
  unfold cMax2 at p
  split at p
  · rename_i i j
    obtain ⟨v, w, rfl, q1, q2⟩ := r.two
    exact ⟨i, j, by rw [RD.int.mp q1, RD.int.mp q2], p.here R (RD.int.mpr rfl)⟩
  · exact p.elim
theorem cs_min2 : CallS C (fun xs H Q => ∃ i j, xs = [.int i, .int j] ∧ Q (.int (if j < i then j else i)) H) cMin2 := by
  intro ι h H σ xs ds Q R r p
  unfold cMin2 at p
  split at p
  · rename_i i j
    obtain ⟨v, w, rfl, q1, q2⟩ := r.two
    exact ⟨i, j, by rw [RD.int.mp q1, RD.int.mp q2], p.here R (RD.int.mpr rfl)⟩
  · exact p.elim
theorem cs_abs : CallS C (fun xs H Q => ∃ i, xs = [.int i] ∧ Q (.int (if i < 0 then -i else i)) H) cAbs := by
  intro ι h H σ xs ds Q R r p
  unfold cAbs at p
  split at p
  · rename_i i
    obtain ⟨v, rfl, q1⟩ := r.one
    exact ⟨i, by rw [RD.int.mp q1], p.here R (RD.int.mpr rfl)⟩
  · exact p.elim
theorem cs_int : CallS C (fun xs H Q => (∃ i, xs = [.int i] ∧ Q (.int i) H) ∨ ∃ k, xs = [.bl k] ∧ Q (.int (if k then 1 else 0)) H) cInt := by
  intro ι h H σ xs ds Q R r p
  unfold cInt at p
  split at p
  · rename_i i
    obtain ⟨v, rfl, q1⟩ := r.one
    exact .inl ⟨i, by rw [RD.int.mp q1], p.here R (RD.int.mpr rfl)⟩
  · rename_i i
    obtain ⟨v, rfl, q1⟩ := r.one
    exact .inr ⟨i, by rw [RD.bl.mp q1], p.here R (RD.int.mpr rfl)⟩
  · exact p.elim
theorem cs_sum : CallS C (rSum C.X.K) cSum := by
  intro ι h H σ xs ds Q R r p
  unfold cSum at p
  split at p
  · rename_i d
    obtain ⟨v, rfl, q1⟩ := r.one
    split at p
    · rename_i es e
      split at p
      · rename_i ns e2
        obtain ⟨a, vs, rfl, s, rr⟩ := listOf_sq R q1 e
        rw [intsOf_eq e2] at rr
        rw [rr.ints] at s
        exact ⟨a, ns, rfl, s, p.here R (RD.int.mpr rfl)⟩
      · exact p.elim
    · exact p.elim
  · exact p.elim
theorem cs_any : CallS C (rAny C.X.K) cAny := by
  intro ι h H σ xs ds Q R r p
  unfold cAny at p
  split at p
  · rename_i d
    obtain ⟨v, rfl, q1⟩ := r.one
    split at p
    · rename_i es e
      split at p
      · rename_i ns e2
        obtain ⟨a, vs, rfl, s, rr⟩ := listOf_sq R q1 e
        rw [blsOf_eq e2] at rr
        rw [rr.bls] at s
        exact ⟨a, ns, rfl, s, p.here R (RD.bl.mpr rfl)⟩
      · exact p.elim
    · exact p.elim
  · exact p.elim
theorem cs_all : CallS C (rAll C.X.K) cAll := by
  intro ι h H σ xs ds Q R r p
  unfold cAll at p
  split at p
  · rename_i d
    obtain ⟨v, rfl, q1⟩ := r.one
    split at p
    · rename_i es e
      split at p
      · rename_i ns e2
        obtain ⟨a, vs, rfl, s, rr⟩ := listOf_sq R q1 e
        rw [blsOf_eq e2] at rr
        rw [rr.bls] at s
        exact ⟨a, ns, rfl, s, p.here R (RD.bl.mpr rfl)⟩
      · exact p.elim
    · exact p.elim
  · exact p.elim
theorem cs_list : CallS C (fun xs H Q => ∃ p ys, xs = [.ref p] ∧ (SqL C.X.K H p ys ∨ SqT C.X.K H p ys) ∧ ∀ l, H l = none → Q (.ref l) (upd H l (.lst ys))) cList := by
  intro ι h H σ xs ds Q R r p
  unfold cList at p
  split at p
  · rename_i d
    obtain ⟨v, rfl, q1⟩ := r.one
    split at p
    · rename_i es e
      obtain ⟨a, vs, rfl, s, rr⟩ := seqOf_sq R q1 e
      exact ⟨a, vs, rfl, s, fun l hl => p.lst R rr hl⟩
    · exact p.elim
  · exact p.elim
theorem cs_tuple : CallS C (fun xs H Q => ∃ p ys, xs = [.ref p] ∧ ((SqL C.X.K H p ys ∧ ∀ l, H l = none → Q (.ref l) (upd H l (.tup ys))) ∨ (SqT C.X.K H p ys ∧ Q (.ref p) H))) cTuple := by
  intro ι h H σ xs ds Q R r p
  unfold cTuple at p
  split at p
  · rename_i d
    obtain ⟨v, rfl, q1⟩ := r.one
    split at p
    · rename_i es e
      cases d with
      | tup fs =>
        cases e
        obtain ⟨a, vs, rfl, s, rr⟩ := RD.tup.mp q1
        exact ⟨a, vs, rfl, .inr ⟨s, p.here R q1⟩⟩
      | rol fs =>
        cases e
        obtain ⟨a, vs, rfl, s, rr⟩ := RD.rol.mp q1
        exact ⟨a, vs, rfl, .inl ⟨s.sq, fun l hl => p.tup R rr hl⟩⟩
      | ref i =>
        have e' : listOf h (.ref i) = some es := e
        obtain ⟨a, vs, rfl, s, rr⟩ := listOf_sq R q1 e'
        exact ⟨a, vs, rfl, .inl ⟨s, fun l hl => p.tup R rr hl⟩⟩
      | _ => cases e
    · exact p.elim
  · exact p.elim
theorem tyn_mem {h : AH} {d : D} {t : String} (e : d.tyn h = some t) : t ∈ tyNames := by
  cases d with
  | ref i =>
    simp only [D.tyn] at e
    cases q : h[i]? with
    | none => rw [q] at e; cases e
    | some o => rw [q] at e; cases o <;> (cases e; decide)
  | ty n => cases e
  | _ => cases e; decide
theorem tyn_tyx {K : PySem.W.Frag} {ι : Nat → Addr} {h : AH} {H : Hp} {d : D} {v : V} {t : String} (R : Rel K ι h H) (r : RD K ι h.length H d v) (e : d.tyn h = some t) : TyX K H v (.type t) := by
  cases d with
  | non => cases e; rw [RD.non.mp r]; exact .base .non
  | bl b => cases e; rw [RD.bl.mp r]; exact .base (.bl b)
  | int b => cases e; rw [RD.int.mp r]; exact .base (.int b)
  | str b => cases e; rw [RD.str.mp r]; exact .base (.str b)
  | ty n => cases e
  | tup ds =>
    cases e
    obtain ⟨a, vs, rfl, s, rr⟩ := RD.tup.mp r
    rcases s with (s | ⟨o, s⟩) | ⟨o, its, n, hk, hc, _⟩
    · exact .base (.tup s)
    · exact .fTuple s
    · exact .kTuple hk hc
  | rol ds =>
    cases e
    obtain ⟨a, vs, rfl, s, rr⟩ := RD.rol.mp r
    rcases s with ⟨o, s⟩ | ⟨o, its, n, hk, hc, _⟩
    · exact .base (.frz s)
    · exact .kList hk hc
  | ref i =>
    simp only [D.tyn] at e
    obtain ⟨_, rfl⟩ := RD.ref.mp r
    cases q : h[i]? with
    | none => rw [q] at e; cases e
    | some o =>
      rw [q] at e
      have ro := R.ob i o q
      cases o with
      | lst ds => cases e; obtain ⟨vs, e1, _⟩ := ro; exact .base (.lst e1)
      | dK ds => cases e; obtain ⟨vs, e1, _⟩ := ro; exact .base (.dK e1)
      | dT ds => cases e; obtain ⟨vs, e1, _⟩ := ro; exact .base (.dT e1)
theorem cs_isi : CallS C (rIsi C.X.K) cIsi := by
  intro ι h H σ xs ds Q R r p
  unfold cIsi at p
  split at p
  · rename_i d n
    obtain ⟨v, w, rfl, q1, q2⟩ := r.two
    split at p
    · rename_i t e
      split at p
      · rename_i hn
        exact ⟨v, w, .type t, .type n, isTy t n, rfl, by rw [RD.ty.mp q2]; exact .ty n, tyn_tyx R q1 e, kit_ty (kit_all t (tyn_mem e) n hn), p.here R (RD.bl.mpr rfl)⟩
      · exact p.elim
    · exact p.elim
  · exact p.elim
end

/-! ### list(range(..)), tuple(range(..)) -/
noncomputable instance {a b : Int} : Decidable (RgOk a b) := Classical.propDecidable _
noncomputable def eRg1 (tp : Bool) (m : EM) : EM := fun env h => (m env h).then fun d h1 => match d with
  | .int j => if RgOk 0 j then (if tp then .ok (.tup (rg 0 j.toNat)) h1 else .ok (.ref h1.length) (h1 ++ [.lst (rg 0 j.toNat)])) else .stuck
  | _ => .stuck
section
variable {C : Ct} {a : Expr} {ma : EM} {p pos p2 pos2 : Pos}
theorem rds_rg {K : PySem.W.Frag} {ι : Nat → Addr} {n : Nat} {H : Hp} {j : Int} : RDs K ι n H (rg 0 j.toNat) (rgV 0 j) := by
  unfold rg rgV
  rw [Int.sub_zero]
  generalize j.toNat = m
  have : ∀ l : List Nat, RDs K ι n H (l.map fun (i : Nat) => D.int (0 + (i : Nat))) (l.map fun (i : Nat) => V.int (0 + (i : Nat))) := by
    intro l
    induction l with
    | nil => exact RDs.nil'
    | cons x l ih => exact RDs.cons' (RD.int.mpr rfl) ih
  exact this _
theorem me_listRg1 (hc : C.X.calm = true) (hml : C.X.mg "list" = none) (hm : C.X.mg "range" = none) (ha : ME C a ma) (hgl : Gl C.X "list" := by rfl) (hg : Gl C.X "range" := by rfl) (na : starEach [a] C.X.env = (false, eval a C.X.env) :: starEach [] C.X.env := by rfl)
    (hs : starEach [.Call (.Name "range" p) [a] [] pos] C.X.env = (false, eval (.Call (.Name "range" p) [a] [] pos) C.X.env) :: starEach [] C.X.env := by rfl) : ME C (.Call (.Name "list" p2) [.Call (.Name "range" p) [a] [] pos] [] pos2) (eRg1 false ma) := by
  obtain ⟨t, pa, sa⟩ := ha
  refine ⟨_, pe_listRg hc hgl hml (prg_1 hg hm pa na) hs, ⟨fun env h σ H ι Q R V p => ?_⟩⟩
  refine sa.then R V p fun d h1 ι1 H1 v x1 R1 V1 r1 p1 => ?_
  cases d with
  | int j =>
    dsimp only at p1
    by_cases hj : RgOk 0 j
    · rw [if_pos hj] at p1
      exact ⟨j, RD.int.mp r1, hj, fun q hq => p1.lst R1 rds_rg hq⟩
    · rw [if_neg hj] at p1; exact p1.elim
  | _ => exact (show False from p1).elim
theorem me_tupRg1 (hc : C.X.calm = true) (hml : C.X.mg "tuple" = none) (hm : C.X.mg "range" = none) (ha : ME C a ma) (hgl : Gl C.X "tuple" := by rfl) (hg : Gl C.X "range" := by rfl) (na : starEach [a] C.X.env = (false, eval a C.X.env) :: starEach [] C.X.env := by rfl)
    (hs : starEach [.Call (.Name "range" p) [a] [] pos] C.X.env = (false, eval (.Call (.Name "range" p) [a] [] pos) C.X.env) :: starEach [] C.X.env := by rfl) : ME C (.Call (.Name "tuple" p2) [.Call (.Name "range" p) [a] [] pos] [] pos2) (eRg1 true ma) := by
  obtain ⟨t, pa, sa⟩ := ha
  refine ⟨_, pe_tupRg hc hgl hml (prg_1 hg hm pa na) hs, ⟨fun env h σ H ι Q R V p => ?_⟩⟩
  refine sa.then R V p fun d h1 ι1 H1 v x1 R1 V1 r1 p1 => ?_
  cases d with
  | int j =>
    dsimp only at p1
    by_cases hj : RgOk 0 j
    · rw [if_pos hj] at p1
      exact ⟨j, RD.int.mp r1, hj, fun q hq => p1.tup R1 rds_rg hq⟩
    · rw [if_neg hj] at p1; exact p1.elim
  | _ => exact (show False from p1).elim
end

/-! ### methods, stores -/
def MtS (C : Ct) (r : V → List V → Hp → VK → Prop) (g : D → List D → AH → ER) : Prop := ∀ (ι : Nat → Addr) (h : AH) (H : Hp) (σ : List (Option V)) (x : V) (xs : List V) (d : D) (ds : List D) (Q : VK), Rel C.X.K ι h H → RD C.X.K ι h.length H d x → RDs C.X.K ι h.length H ds xs → PostE C ι h.length H σ (g d ds h) Q → r x xs H Q
/-- of a type, asked for its method -/
def tyOk (h : AH) (T : String) (d : D) : Bool := match d with
  | .str _ => T == "str"
  | .int _ => T == "int"
  | .rol _ => T == "list"
  | .ref i => (match h[i]? with
    | some (.lst _) => T == "list"
    | some (.dK _) => T == "dict"
    | some (.dT _) => T == "dict"
    | none => false)
  | _ => false
theorem tyOk_v {K : PySem.W.Frag} {ι : Nat → Addr} {h : AH} {H : Hp} {d : D} {v : V} {T : String} (R : Rel K ι h H) (r : RD K ι h.length H d v) (e : tyOk h T d = true) : tyV K T v H := by
  cases d with
  | str x => rw [RD.str.mp r]; exact beq_iff_eq.mp e
  | int x => rw [RD.int.mp r]; exact beq_iff_eq.mp e
  | rol ds =>
    obtain ⟨a, vs, rfl, s, _⟩ := RD.rol.mp r
    exact .inl ⟨beq_iff_eq.mp e, vs, s.sq⟩
  | ref i =>
    obtain ⟨_, rfl⟩ := RD.ref.mp r
    simp only [tyOk] at e
    cases q : h[i]? with
    | none => rw [q] at e; cases e
    | some o =>
      rw [q] at e
      have ro := R.ob i o q
      cases o with
      | lst ds => obtain ⟨vs, e1, _⟩ := ro; exact .inl ⟨beq_iff_eq.mp e, vs, SqL.of e1⟩
      | dK ds => obtain ⟨vs, e1, _⟩ := ro; exact .inr (.inr (.inl ⟨beq_iff_eq.mp e, .inl ⟨vs, e1⟩⟩))
      | dT ds => obtain ⟨vs, e1, _⟩ := ro; exact .inr (.inr (.inl ⟨beq_iff_eq.mp e, .inr ⟨vs, e1⟩⟩))
  | _ => cases e
def eMeth (T : String) (g : D → List D → AH → ER) (o : EM) (l : LM) : EM := fun env h => (o env h).then fun d h1 => if tyOk h1 T d then (l env h1).then fun ds h2 => g d ds h2 else .stuck
section
variable {C : Ct} {o e : Expr} {es : List Expr} {mo : EM} {ml : LM} {name : Str} {apos cpos : Pos} {T id : String} {r : V → List V → Hp → VK → Prop} {g : D → List D → AH → ER}
theorem me_meth0 (pa : PlainAttrs T) (slot : Slot T name id) (hty : typeOf (.builtin id) = pure (.type "method_descriptor")) (hm : MtR C.X id r) (hs : MtS C r g) (ho : ME C o mo)
    (hbase : attributeBase o name C.X.env (eval o C.X.env) = eval o C.X.env := by rfl) (hline : (apos.endLine == cpos.line) = true := by rfl) : ME C (.Call (.Attribute o name apos) [] [] cpos) (eMeth T g mo lNil) := by
  obtain ⟨t, p, s⟩ := ho
  refine ⟨_, pe_bm0 pa slot hty hm p hbase hline, ⟨fun env h σ H ι Q R V p => ?_⟩⟩
  refine s.then R V p fun d h1 ι1 H1 v x1 R1 V1 r1 p1 => ?_
  by_cases ht : tyOk h1 T d = true
  · rw [if_pos ht] at p1
    exact ⟨tyOk_v R1 r1 ht, hs ι1 h1 H1 σ v [] d [] Q R1 r1 RDs.nil' p1⟩
  · rw [if_neg ht] at p1; exact p1.elim
theorem me_meth (pa : PlainAttrs T) (slot : Slot T name id) (hty : typeOf (.builtin id) = pure (.type "method_descriptor")) (hm : MtR C.X id r) (hs : MtS C r g) (ho : ME C o mo) (ha : MA C (e :: es) ml)
    (hbase : attributeBase o name C.X.env (eval o C.X.env) = eval o C.X.env := by rfl)
    (hfew : ((backTo cpos (starEach (e :: es) C.X.env)).all (fun x => !x.1) && (backToKw cpos (keywordEach [] C.X.env)).all (fun x => x.1.isSome)
      && decide ((e :: es).length + ([] : List Keyword).length + (if ([] : List Keyword).isEmpty then 0 else 1) < 30)) = true := by rfl)
    (hline : (apos.endLine == cpos.line) = true := by rfl) (hst : starEach (e :: es) C.X.env = (false, eval e C.X.env) :: starEach es C.X.env := by rfl) (hplain : (backTo cpos (starEach es C.X.env)).any (·.1) = false := by rfl) :
    ME C (.Call (.Attribute o name apos) (e :: es) [] cpos) (eMeth T g mo ml) := by
  obtain ⟨t, p, s⟩ := ho
  obtain ⟨tl, pl, sl⟩ := ha
  refine ⟨_, pe_bm pa slot hty hm p pl hbase hfew hline hst hplain, ⟨fun env h σ H ι Q R V p => ?_⟩⟩
  refine s.then R V p fun d h1 ι1 H1 v x1 R1 V1 r1 p1 => ?_
  by_cases ht : tyOk h1 T d = true
  · rw [if_pos ht] at p1
    refine ⟨tyOk_v R1 r1 ht, ?_⟩
    refine sl.then R1 V1 p1 fun ds h2 ι2 H2 vs x2 R2 V2 r2 p2 => ?_
    exact hs ι2 h2 H2 σ v vs d ds Q R2 (r1.mono (x2.grow R1)) r2 p2
  · rw [if_neg ht] at p1; exact p1.elim
theorem PostE.put {ι : Nat → Addr} {h : AH} {H : Hp} {σ : List (Option V)} {Q : VK} {i : Nat} {ds : List D} {vs : List V} {d : D} {v : V} (p : PostE C ι h.length H σ (.ok d (h.set i (.lst ds))) Q) (R : Rel C.X.K ι h H) (hi : i < h.length) (r : RDs C.X.K ι h.length H ds vs)
    (rd : RD C.X.K ι h.length H d v) : Q v (upd H (ι i) (.lst vs)) := by
  have x : Ext ι h.length H ι h.length (upd H (ι i) (.lst vs)) := Ext.put R hi
  refine p ι _ v (by rw [List.length_set]; exact x) (R.put hi fun x => ⟨vs, upd_same, r.mono (x.grow R)⟩) ?_
  rw [List.length_set]
  exact rd.mono (x.grow R)
end
noncomputable def mAppend (d : D) (ds : List D) (h : AH) : ER := match d, ds with
  | .ref i, [y] => (match h[i]? with
    | some (.lst xs) => if FitsL xs.length then .ok .non (h.set i (.lst (xs ++ [y]))) else .stuck
    | _ => .stuck)
  | _, _ => .stuck
def mPop (d : D) (ds : List D) (h : AH) : ER := match d, ds with
  | .ref i, [] => (match h[i]? with
    | some (.lst xs) => (match xs[xs.length - 1]? with
      | some y => .ok y (h.set i (.lst xs.dropLast))
      | none => .stuck)
    | _ => .stuck)
  | _, _ => .stuck
noncomputable def mPopAt (d : D) (ds : List D) (h : AH) : ER := match d, ds with
  | .ref i, [.int j] => (match h[i]? with
    | some (.lst xs) => (match L2.ixN xs.length j with
      | some k => (match xs[k]? with
        | some y => if Fits xs.length then .ok y (h.set i (.lst (xs.eraseIdx k))) else .stuck
        | none => .stuck)
      | none => .stuck)
    | _ => .stuck)
  | _, _ => .stuck
noncomputable def mExtend (d : D) (ds : List D) (h : AH) : ER := match d, ds with
  | .ref i, [.ref j] => (match h[i]?, h[j]? with
    | some (.lst xs), some (.lst ys) => if Fits (xs.length + ys.length) then .ok .non (h.set i (.lst (xs ++ ys))) else .stuck
    | _, _ => .stuck)
  | _, _ => .stuck
/-- the first place of p -/
def firstAt (p : PyData) : List PyData → Option Nat
  | [] => none
  | q :: r => if PyData.eqv q p then some 0 else (firstAt p r).map (· + 1)
theorem firstAt_spec {p : PyData} : ∀ {l : List PyData} {j : Nat}, firstAt p l = some j → ∃ z, l[j]? = some z ∧ PyData.eqv z p = true ∧ ∀ m z', m < j → l[m]? = some z' → PyData.eqv z' p = false
  | [], j, e => by cases e
  | q :: r, j, e => by
    unfold firstAt at e
    split at e
    · rename_i hq
      cases e
      exact ⟨q, rfl, hq, fun m z' hm => absurd hm (Nat.not_lt_zero m)⟩
    · rename_i hq
      cases q2 : firstAt p r with
      | none => rw [q2] at e; cases e
      | some k =>
        rw [q2] at e
        cases e
        obtain ⟨z, h1, h2, h3⟩ := firstAt_spec q2
        refine ⟨z, by simpa using h1, h2, fun m z' hm e' => ?_⟩
        cases m with
        | zero => simp at e'; subst e'; simpa using hq
        | succ m => exact h3 m z' (Nat.lt_of_succ_lt_succ hm) (by simpa using e')
def mIndex (d : D) (ds : List D) (h : AH) : ER := match d, ds with
  | .ref i, [y] => (match (D.ref i).toP h 20, y.toP h 20 with
    | some (.list ps), some p => (match firstAt p ps with
      | some j => .ok (.int (j : Nat)) h
      | none => .stuck)
    | _, _ => .stuck)
  | _, _ => .stuck
section
variable {C : Ct}
theorem ms_append : MtS C rAppend mAppend := by
  intro ι h H σ x xs d ds Q R r rs p
  unfold mAppend at p
  split at p
  · rename_i i y
    split at p
    · rename_i es e
      split at p
      · rename_i hl
        obtain ⟨vs, rfl, e1, rr⟩ := r.list R e
        obtain ⟨w, rfl, q⟩ := rs.one
        exact ⟨_, vs, w, rfl, rfl, e1, by rw [← rr.length]; exact hl, p.put R (RD.ref.mp r).1 (rr.append (RDs.cons' q RDs.nil')) (RD.non.mpr rfl)⟩
      · exact p.elim
    · exact p.elim
  · exact p.elim
theorem ms_pop : MtS C rPop mPop := by
  intro ι h H σ x xs d ds Q R r rs p
  unfold mPop at p
  split at p
  · rename_i i
    split at p
    · rename_i es e
      split at p
      · rename_i y ey
        obtain ⟨vs, rfl, e1, rr⟩ := r.list R e
        cases RDs.nil.mp rs
        obtain ⟨w, ew, rw_⟩ := rr.get ey
        exact ⟨_, vs, w, rfl, rfl, e1, by rw [← rr.length]; exact ew, p.put R (RD.ref.mp r).1 rr.dropLast rw_⟩
      · exact p.elim
    · exact p.elim
  · exact p.elim
theorem ms_popAt : MtS C rPopAt mPopAt := by
  intro ι h H σ x xs d ds Q R r rs p
  unfold mPopAt at p
  split at p
  · rename_i i j
    split at p
    · rename_i es e
      split at p
      · rename_i k ek
        split at p
        · rename_i y ey
          split at p
          · rename_i hl
            obtain ⟨vs, rfl, e1, rr⟩ := r.list R e
            obtain ⟨u, rfl, q⟩ := rs.one
            obtain ⟨w, ew, rw_⟩ := rr.get ey
            obtain ⟨a1, a2, a3, a4⟩ := ixN_seq ek
            change _ ≤ sizeLine at hl
            rw [sizeLine_eq] at hl
            exact ⟨_, vs, j, k, w, rfl, by rw [RD.int.mp q], e1, by omega, by omega, by rw [← rr.length]; exact a1, ew, p.put R (RD.ref.mp r).1 (rr.eraseIdx k) rw_⟩
          · exact p.elim
        · exact p.elim
      · exact p.elim
    · exact p.elim
  · exact p.elim
theorem ms_extend : MtS C rExtend mExtend := by
  intro ι h H σ x xs d ds Q R r rs p
  unfold mExtend at p
  split at p
  · rename_i i j
    split at p
    · rename_i es fs e e'
      split at p
      · rename_i hl
        obtain ⟨vs, rfl, e1, rr⟩ := r.list R e
        obtain ⟨w, rfl, q⟩ := rs.one
        obtain ⟨ws, rfl, e2, rr2⟩ := q.list R e'
        exact ⟨_, _, vs, ws, rfl, rfl, e1, e2, by rw [← rr.length, ← rr2.length]; exact hl, p.put R (RD.ref.mp r).1 (rr.append rr2) (RD.non.mpr rfl)⟩
      · exact p.elim
    · exact p.elim
  · exact p.elim
theorem ms_index : MtS C (rIndexD C.X.K) mIndex := by
  intro ι h H σ x xs d ds Q R r rs p
  unfold mIndex at p
  split at p
  · rename_i i y
    split at p
    · rename_i ps q e1 e2
      split at p
      · rename_i j ej
        obtain ⟨w, rfl, rw_⟩ := rs.one
        obtain ⟨a1, a2, a3⟩ := toP_dp R _ _ _ _ r e1
        obtain ⟨b1, b2, b3⟩ := toP_dp R _ _ _ _ rw_ e2
        obtain ⟨z, z1, z2, z3⟩ := firstAt_spec ej
        obtain ⟨_, rfl⟩ := RD.ref.mp r
        exact ⟨_, w, q, ps, j, z, rfl, rfl, a1, b1, toP_shaped a2 a3, toP_shaped b2 b3, z1, z2, z3, p.here R (RD.int.mpr rfl)⟩
      · exact p.elim
    · exact p.elim
  · exact p.elim
def putL (o i v : D) (h : AH) : Option AH := match o, i with
  | .ref r, .int k => (match h[r]? with
    | some (.lst xs) => (match L2.ixN xs.length k with
      | some j => some (h.set r (.lst (xs.set j v)))
      | none => none)
    | _ => none)
  | _, _ => none
theorem ss_list : SetS C rSetL putL := by
  intro ι h H x y z d1 d2 d3 h' Q R r1 r2 r3 e k
  unfold putL at e
  split at e
  · rename_i r j
    split at e
    · rename_i xs e0
      split at e
      · rename_i m em
        cases e
        obtain ⟨vs, rfl, e1, rr⟩ := r1.list R e0
        have hi := (RD.ref.mp r1).1
        refine ⟨_, vs, j, m, rfl, RD.int.mp r2, e1, by rw [← rr.length]; exact em, ?_⟩
        exact k ι _ (by rw [List.length_set]; exact Ext.put R hi) (R.put hi fun x => ⟨_, upd_same, (rr.set m r3).mono (x.grow R)⟩)
      · cases e
    · cases e
  · cases e
end
end Rf

set_option maxHeartbeats 1000000
namespace Rf
open PySem PySem.Spec PyProof.Rows L2
section
variable {C : Ct} {a : Expr} {ma : EM} {pos : Pos}
theorem me_int {i : Int} {k : Nat} : ME C (.Constant (.int i) k pos) (eC (.int i)) := me_C (v := .int i) pe_int fun _ _ _ => RD.int.mpr rfl
theorem me_bl {b : Bool} {k : Nat} : ME C (.Constant (.bool b) k pos) (eC (.bl b)) := me_C (v := .bl b) pe_bl fun _ _ _ => RD.bl.mpr rfl
theorem me_non {k : Nat} : ME C (.Constant .none k pos) (eC .non) := me_C (v := .non) pe_non fun _ _ _ => RD.non.mpr rfl
theorem me_str {x : Str} {k : Nat} : ME C (.Constant (.str x) k pos) (eC (.str x)) := me_C (v := .str x) pe_str fun _ _ _ => RD.str.mpr rfl
theorem me_ty {x : Str} {n : String} (hm : C.X.mg x = none) (hv : bootBuiltins x = some (.type n) := by decide +kernel) (hg : Gl C.X x := by rfl) (hn : x ≠ "__name__" := by decide) (hd : (x == ("__debug__" : Str)) = false := by decide) : ME C (.Name x pos) (eC (.ty n)) :=
  me_C (v := .ty n) (pe_bltn hg hm hv rfl hn hd) fun _ _ _ => RD.ty.mpr rfl
theorem mo_none : MO C none none := rfl
theorem mo_some (h : ME C a ma) : MO C (some a) (some ma) := ⟨a, rfl, h⟩
end
theorem units65 {A : Around} {k : Nat} (hr : Room k A) : A.units + 65 < cLine := by have := hr.un; omega
/-- a def of the module, as it stands -/
structure DA (K : PySem.W.Frag) (mg : Str → Option Value) (x : Str) (st : Stmt) (ps : List Str) (f : Addr) (fd : FuncData) : Prop where
  fn : Fun K x x st f fd
  mgf : mg x = some (.ref f)
  bd : Binds K fd ps []
end Rf
namespace Rf
open PySem PySem.Spec PyProof.Rows L2
/-- what the law's own def is held to: its plain function ends well, and so the call -/
def spLaw (K : PySem.W.Frag) (F : List D → AH → ER) : Sp := fun vs H Q _ => vs.length = 1 ∧ ∃ ι h ds, Rel K ι h H ∧ RDs K ι h.length H ds vs ∧ ∃ d h', F ds h = .ok d h' ∧ ∀ ι' H' v, Ext ι h.length H ι' h'.length H' → Rel K ι' h' H' → RD K ι' h'.length H' d v → Q v H'
theorem spLaw.of {K : PySem.W.Frag} {mg : Str → Option Value} {F : List D → AH → ER} : ∀ vs H Q E, spLaw K F vs H Q E → spF K mg 1 F vs H Q E := by
  rintro vs H Q E ⟨hl, ι, h, ds, R, r, d, h', e, q⟩
  refine ⟨hl, ι, h, ds, R, r, ?_⟩
  rw [e]
  exact q
theorem RDs.rol_ints {K : PySem.W.Frag} {ι : Nat → Addr} {n : Nat} {H : Hp} {a : Addr} {ns : List Int} (q : RoL K H a (ns.map V.int)) : RD K ι n H (.rol (ns.map D.int)) (.ref a) := RD.rol.mpr ⟨a, _, rfl, q, RDs.of_ints⟩
theorem spLaw.start {K : PySem.W.Frag} {F : List D → AH → ER} {H : Hp} {a : Addr} {ns : List Int} (O : Only H) (S : SqL K H a (ns.map V.int)) (hF : ∃ h', F [.rol (ns.map D.int)] [] = .ok (.bl true) h') : spLaw K F [.ref a] H (fun v _ => v = .bl true) fun _ _ _ => False := by
  obtain ⟨h', e⟩ := hF
  have q : RoL K H a (ns.map V.int) := by
    rcases S with (s | s) | s
    · rcases O a with z | ⟨o, xs, z⟩ <;> (rw [s] at z; cases z)
    · exact .inl s
    · exact .inr s
  exact ⟨rfl, fun _ => 0, [], [.rol (ns.map D.int)], ⟨fun i j hi => absurd hi (Nat.not_lt_zero i), fun i o e => by simp at e⟩, RDs.cons' (RDs.rol_ints q) RDs.nil', .bl true, h', e, fun ι' H' v _ _ r => RD.bl.mp r⟩
theorem cx_false {P : Program} {w : World} {H : Hp} {s s' : Shared} {e : Value} (h : L2.CX P w [] H s (fun _ _ _ => False) e s') : False := by
  obtain ⟨_, _, _, _, _, _, _, _, _, _, _, _, z⟩ := h
  exact z
end Rf

set_option maxHeartbeats 1000000
/-! Calls with keywords, every parameter given. -/
namespace Rf
open PySem PySem.Spec PyProof.Rows L2
def MK (C : Ct) (kws : List Keyword) (m : LM) : Prop := ∃ t, PK C.X kws t ∧ SimL C t m
section
variable {C : Ct} {e : Expr} {m : EM} {kws : List Keyword} {nm : Option Str} {kpos : Pos} {mr : LM}
theorem mk_nil : MK C [] lNil := ⟨_, pk_nil, ⟨fun env h σ H ι Q R V p => p ι H [] .refl R RDs.nil'⟩⟩
theorem mk_cons (ha : ME C e m) (hr : MK C kws mr) : MK C (⟨nm, e, kpos⟩ :: kws) (lCons m mr) := by
  obtain ⟨ta, pa, sa⟩ := ha
  obtain ⟨tr, pr, sr⟩ := hr
  refine ⟨_, pk_cons pa pr, ⟨fun env h σ H ι Q R V p => ?_⟩⟩
  refine sa.run env h σ H ι _ R V ?_
  unfold lCons at p
  cases hm : m env h with
  | ok d h1 =>
    rw [hm] at p
    dsimp only at p
    refine fun ι' H' v x R' r => ?_
    refine sr.run env h1 σ H' ι' _ R' (V.ext R x) ?_
    cases hm2 : mr env h1 with
    | ok ds h2 =>
      rw [hm2] at p
      exact fun ι2 H2 vs x2 R2 r2 => p ι2 H2 _ (x.trans x2) R2 (RDs.cons' (r.mono (x2.grow R')) r2)
    | exc c fs h2 =>
      rw [hm2] at p
      exact fun ι2 H2 Cl dd x2 => p ι2 H2 Cl dd (x.trans x2)
    | stuck => rw [hm2] at p; exact p
  | exc c fs h1 => rw [hm] at p; exact p
  | stuck => rw [hm] at p; exact p
end
/-- positional values, then those of the keywords in the parameters' order -/
def permK {α : Type} (idx : List Nat) (us ws : List α) : List α := us ++ idx.filterMap fun i => ws[i]?
theorem permK_RDs {K : PySem.W.Frag} {ι : Nat → Addr} {n : Nat} {H : Hp} {ds es : List D} {vs zs : List V} (r : RDs K ι n H ds vs) (q : RDs K ι n H es zs) : ∀ idx : List Nat, RDs K ι n H (permK idx ds es) (permK idx vs zs) := by
  have key : ∀ idx : List Nat, RDs K ι n H (idx.filterMap fun i => es[i]?) (idx.filterMap fun i => zs[i]?) := by
    intro idx
    induction idx with
    | nil => exact RDs.nil'
    | cons i idx ih =>
      rw [List.filterMap_cons, List.filterMap_cons]
      cases hi : es[i]? with
      | none =>
        have : zs[i]? = none := by
          rw [List.getElem?_eq_none_iff] at hi ⊢
          rw [← q.length]; exact hi
        rw [this]; exact ih
      | some d =>
        obtain ⟨v, hv, rv⟩ := RDs.get q hi
        rw [hv]
        exact RDs.cons' rv ih
  exact fun idx => RDs.append r (key idx)
theorem permK_Vals {vs zs : List V} {us ws : List Value} (r : Vals vs us) (q : Vals zs ws) : ∀ idx : List Nat, Vals (permK idx vs zs) (permK idx us ws) := by
  have at_ : ∀ {zs : List V} {ws : List Value} (i : Nat), Vals zs ws → (zs[i]? = none ∧ ws[i]? = none) ∨ ∃ a b, zs[i]? = some a ∧ ws[i]? = some b ∧ RelV a b := by
    intro zs ws i q
    induction q generalizing i with
    | nil => exact .inl ⟨rfl, rfl⟩
    | cons h t ih =>
      cases i with
      | zero => exact .inr ⟨_, _, rfl, rfl, h⟩
      | succ i => exact ih i
  have key : ∀ idx : List Nat, Vals (idx.filterMap fun i => zs[i]?) (idx.filterMap fun i => ws[i]?) := by
    intro idx
    induction idx with
    | nil => exact .nil
    | cons i idx ih =>
      rw [List.filterMap_cons, List.filterMap_cons]
      rcases at_ i q with ⟨h1, h2⟩ | ⟨a, b, h1, h2, h3⟩
      · rw [h1, h2]; exact ih
      · rw [h1, h2]; exact .cons h3 ih
  intro idx
  unfold permK
  induction r with
  | nil => exact key idx
  | cons h t ih => exact .cons h ih
theorem runK {X : Cx} {CX : CXT} {k n : Nat} {f : Addr} {fd : FuncData} {ps ks : List Str} {sp : Sp} {D : XK} {g : List Value → List Value → List Value} {gV : List V → List V → List V} {pins : List (Addr × Obj)} {σ : L2.St} {H : Hp} {s : Shared} {Q : VK} {us ws : List Value} {vs zs : List V}
    (F0 : FnOk X.prog X.w X.K X.mg X.base CX k f fd ps sp) (room : Room k X.A) (kb : KBn X.K fd ps n ks g gV) (ps0 : PassesAt CX X σ D) (J : Inv X pins σ H s) (r1 : Vals vs us) (r2 : Vals zs ws) (l1 : vs.length = n) (l2 : zs.length = ks.length) (q : sp (gV vs zs) H Q D) :
    wpAny (model X.prog X.w) X.A (call (.ref f) us (ks.zip ws)) (EP X pins σ Q) X.xe s := by
  have b0 := kb.to s us ws J.kIn (r1.length.symm.trans l1) (r2.length.symm.trans l2)
  have e0 := F0.run X.A X.stack s H ⟨us, ks.zip ws⟩ (g us ws) (gV vs zs) Q D room J.env0 b0 (kb.rel r1 r2) q
  refine wpAny_call (codeAny_mono e0 fun r s' hq => ?_)
  match r, hq with
  | .error e, hq => exact ps0 pins H s e s' J hq
  | .ok (.ret u), hq => exact J.after hq
  | .ok .next, hq => exact hq.elim
  | .ok .brk, hq => exact hq.elim
  | .ok .cont, hq => exact hq.elim
/-- a call with keywords: the positional values in their order, the keywords' values as written, then put in order -/
def eCallK (n m : Nat) (idx : List Nat) (F : List D → AH → ER) (ml mk : LM) : EM := fun env h => (ml env h).then fun ds h1 => (mk env h1).then fun es h2 => if ds.length = n ∧ es.length = m then F (permK idx ds es) h2 else .stuck
section
variable {C : Ct} {k pl n km : Nat} {f : Addr} {fd : FuncData} {ps ks : List Str} {F : List D → AH → ER} {x : Str} {p pos : Pos} {e : Expr} {es : List Expr} {kws : List Keyword} {ml mk : LM} {idx : List Nat}
theorem me_callK (F0 : FnOk C.X.prog C.X.w C.X.K C.X.mg C.X.base (L2.CX C.X.prog C.X.w) k f fd ps (spF C.X.K C.X.mg pl F)) (hr : Room k C.X.A) (hm : C.X.mg x = some (.ref f)) (hk : PySem.W.keepIn C.X.K (.ref f) = true) (hb : KBn C.X.K fd ps n ks (permK idx) (permK idx)) (tk : Takes C.X C.W)
    (ha : MA C (e :: es) ml) (hw : MK C kws mk) (hpl2 : ∀ us ws : List D, us.length = n → ws.length = km → (permK idx us ws).length = pl) (hkm : ks.length = km := by rfl)
    (hall : (backToKw pos (keywordEach kws C.X.env)).all (·.1.isSome) = true := by rfl) (hks : (backToKw pos (keywordEach kws C.X.env)).filterMap (·.1) = ks := by rfl) (hg : Gl C.X x := by rfl) (hdb : (x == ("__debug__" : Str)) = false := by decide) (he : starEach (e :: es) C.X.env = (false, eval e C.X.env) :: starEach es C.X.env := by rfl)
    (hpl : ((backTo pos (starEach (e :: es) C.X.env)).any (·.1) || (backToKw pos (keywordEach kws C.X.env)).any (·.1.isNone)) = false := by rfl) :
    ME C (.Call (.Name x p) (e :: es) kws pos) (eCallK n km idx F ml mk) := by
  subst hkm
  obtain ⟨t, pa, s⟩ := ha
  obtain ⟨t2, pk, s2⟩ := hw
  refine ⟨fun σ H Q => tCallN n ks.length (spF C.X.K C.X.mg pl F) (permK idx) (WE C.W σ) t t2 σ H Q, ⟨fun pins s0 σ H Q I h => ?_⟩, ⟨fun env h σ H ι Q R V q => ?_⟩⟩
  · refine wpAny_Call_Name_kw (ld_glob (x := x) I hg hm ?_ hdb)
    refine PySem.W.callWith_KW (h₀ := C.X.base) I.ok.mod.kin hk hall (thn (pa.run pos pins s0 σ H _ I h) fun us s1 h1 => ?_) hpl he
    obtain ⟨vs, H1, I1, r, q⟩ := h1
    refine thn (pk.run pos pins s1 σ H1 _ I1 q) fun ws s2 h2 => ?_
    obtain ⟨zs, H2, I2, rz, l1, l2, q2⟩ := h2
    refine ⟨I2.kIn, ?_⟩
    rw [hks]
    exact runK F0 hr hb (passAt tk σ) I2 r rz l1 l2 q2
  · refine s.run env h σ H ι _ R V ?_
    unfold eCallK at q
    cases hm : ml env h with
    | ok ds h1 =>
      rw [hm] at q
      refine fun ι' H' vs x R' r => ?_
      refine s2.run env h1 σ H' ι' _ R' (V.ext R x) ?_
      have q1 : PostE C ι h.length H σ ((mk env h1).then fun es h2 => if ds.length = n ∧ es.length = ks.length then F (permK idx ds es) h2 else .stuck) Q := q
      cases hm2 : mk env h1 with
      | ok es h2 =>
        rw [hm2] at q1
        refine fun ι2 H2 zs x2 R2 r2 => ?_
        have q2 : PostE C ι h.length H σ (if ds.length = n ∧ es.length = ks.length then F (permK idx ds es) h2 else .stuck) Q := q1
        by_cases hd : ds.length = n ∧ es.length = ks.length
        · rw [if_pos hd] at q2
          have r3 := permK_RDs (r.mono (x2.grow R')) r2 idx
          refine ⟨by rw [← r.length]; exact hd.1, by rw [← r2.length]; exact hd.2, ?_⟩
          exact spF.of R2 r3 (by rw [← r3.length]; exact hpl2 _ _ hd.1 hd.2) (PostE.shift q2 (x.trans x2))
        · rw [if_neg hd] at q2; exact q2.elim
      | exc c fs h2 =>
        rw [hm2] at q1
        exact fun ι2 H2 Cl dd x2 => q1 ι2 H2 Cl dd (x.trans x2)
      | stuck => rw [hm2] at q1; exact q1
    | exc c fs h1 => rw [hm] at q; exact q
    | stuck => rw [hm] at q; exact q
end
end Rf

/-! enumerate over a tuple -/
namespace Rf
open PySem PySem.Spec PyProof.Rows L2
set_option maxHeartbeats 1000000 in
theorem enumT_new (t : Addr) (its : Array Value) :
    Meets (Builtin.«enumerate.__new__» ⟨[.type "enumerate", .ref t], []⟩) (fun _ R s => s.heap.IsTuple t its ∧
      R (.ok (.ret (.ref (s.heap.push { cls := .type "tuple_iterator", data := .fields #[.ref t, .int 0 0] }).objs.size)))
        { s with heap := (s.heap.push { cls := .type "tuple_iterator", data := .fields #[.ref t, .int 0 0] }).push { cls := .type "enumerate", data := .fields #[.none, .bool false, .ref s.heap.objs.size, rawInt 0, .none, .none] } }) :=
  .of_wp fun prog w A R s hyp => by
    obtain ⟨hp, g, d, tk, os⟩ := s
    obtain ⟨ht, hR⟩ := hyp
    have hT : Heap.IsTuple (Shared.heap ⟨hp, g, d, tk, os⟩) t its := ht
    have hsub := sub_enumerate
    obtain ⟨⟨c0, dc, dt, sl⟩, ho, hc0, n, hd0⟩ := ht
    replace hc0 : c0 = .type "tuple" := hc0
    replace hd0 : dt = .seq its n := hd0
    subst hc0 hd0
    wp_walk using AutoSeq1.wpAny_loadPart' ho
    refine wpAny_stack_any fun st => wpAny_pure ?_
    split
    · rename_i c _ _ _ _ _
      cases (c == Value.type "enumerate")
      · wp_walk using AutoSeq1.wpAny_loadPart' ho, wpAny_pyIter_tuple hT
        exact ⟨_, rfl, hR⟩
      · wp_walk using AutoSeq1.wpAny_loadPart' ho, wpAny_pyIter_tuple hT
        exact ⟨_, rfl, hR⟩
    · wp_walk using AutoSeq1.wpAny_loadPart' ho, wpAny_pyIter_tuple hT
      exact ⟨_, rfl, hR⟩
theorem callEnumT {prog : Program} {w : World} {A : Around} {E : Value → Shared → Prop} {s : Shared} {t : Addr} {its : Array Value} {Q : Value → Shared → Prop} (ht : s.heap.IsTuple t its)
    (k : ∀ h', IsEnum h' (s.heap.objs.size + 1) s.heap.objs.size 0 .none → h'.IsTupleIter s.heap.objs.size t 0 → (∀ b o, s.heap.get? b = some o → h'.get? b = some o) → Q (.ref (s.heap.objs.size + 1)) { s with heap := h' }) :
    wpAny (model prog w) A (call (.type "enumerate") [.ref t]) Q E s := by
  refine callType_new F.called_enumerate (by decide) (F.typeCall_enumerate_1 _) (F.newCall_enumerate_1 _) (fun obj => F.args_object_init_2 obj _) F.entry_enumerate_new (enumT_new t its) ⟨ht, ?_⟩
  generalize hi : (Obj.mk (.type "tuple_iterator") none (.fields #[.ref t, .int 0 0]) #[]) = io
  have hz : (s.heap.push io).objs.size = s.heap.objs.size + 1 := Heap.size_push ..
  show _ ∧ _
  rw [hz]
  have he := Heap.get?_push_size (s.heap.push io) (o := { cls := .type "enumerate", data := .fields #[.none, .bool false, .ref s.heap.objs.size, rawInt 0, .none, .none] }) rfl
  rw [hz] at he
  refine ⟨⟨_, he, rfl⟩, k _ he ⟨io, Heap.get?_push_of_some _ (Heap.get?_push_size _ (by rw [← hi]; rfl)), by rw [← hi], by rw [← hi]; rfl⟩ ?_⟩
  exact fun b o x => Heap.get?_push_of_some _ (Heap.get?_push_of_some _ x)
/-- the tuple at a as it stands, each item with its number in a new pair -/
def IeT (K : PySem.W.Frag) (a : Addr) : It :=
  ⟨fun i H => ∃ (xs : List V) (x : V), SqT K H a xs ∧ xs[i]? = some x, fun i H v H' => ∃ T x, v = .ref T ∧ H T = none ∧ H' = upd H T (.tup [.int (i : Nat), x]) ∧ ∀ xs, SqT K H a xs → xs[i]? = some x, fun i H => ∃ xs : List V, SqT K H a xs ∧ xs.length ≤ i⟩
theorem tup_ne_iter {h : Heap} {a it : Addr} {i : Nat} {its : Array Value} (p : h.IsTuple a its) (q : h.IsTupleIter it a i) : a ≠ it := by
  obtain ⟨o, e1, c1, _⟩ := p
  obtain ⟨o', e2, c2, _⟩ := q
  rintro rfl
  rw [e1] at e2
  cases e2
  exact absurd (Value.type.inj (c1.symm.trans c2)) (by decide)
theorem tup_ne_enum {h : Heap} {a e it : Addr} {i : Int} {old : Value} {its : Array Value} (p : h.IsTuple a its) (q : IsEnum h e it i old) : a ≠ e := by
  obtain ⟨o, e1, c1, _⟩ := p
  rintro rfl
  rw [show h.get? a = _ from q] at e1
  cases e1
  exact absurd (Value.type.inj c1) (by decide)
theorem turn_enumT {P : Program} {w : World} {K : PySem.W.Frag} {elts : List Expr} {kk : Nat} {tpos : Pos} (a e it : Addr) :
    Turn P w K (.Tuple elts kk tpos) (IeT K a) [e, it] e (fun i h => (∃ old, IsEnum h e it ((i : Nat) : Int) old) ∧ h.IsTupleIter it a i ∧ e ≠ it) where
  mem := by simp
  obj := fun i h st b hb => by
    obtain ⟨⟨old, he⟩, ⟨o, ho, _, hd⟩, _⟩ := st
    rcases List.mem_cons.mp hb with z | z
    · subst z; exact ⟨_, he, fun v q => nomatch q⟩
    · rw [List.mem_singleton] at z
      subst z; exact ⟨o, ho, fun v q => by rw [hd] at q; cases q⟩
  keep := fun i h h' st k => by
    obtain ⟨⟨old, he⟩, hi, hne⟩ := st
    exact ⟨⟨old, k e (by simp) _ he⟩, hi.at fun o q => k it (by simp) o q, hne⟩
  item := by
    intro X hP hw hK hc i pins s σ H E I hf st hg
    subst hP hw hK
    obtain ⟨⟨old, he⟩, hit, hne⟩ := st
    obtain ⟨xs, x, hq, hx⟩ := hg
    obtain ⟨its, rv, p, hz⟩ := I.tuple hq
    obtain ⟨u, hu, ru⟩ := rv.get hx
    have p' : s.heap.IsTuple a its.toArray := p
    have hai := tup_ne_iter p' hit
    have hae := tup_ne_enum p' he
    have hel := Heap.lt_size he
    have hil : it < s.heap.objs.size := by
      obtain ⟨_, q, _⟩ := hit
      exact Heap.lt_size q
    have hlt : i < its.toArray.size := by
      have := (List.getElem?_eq_some_iff.mp hu).1
      simpa using this
    refine wpAny_pyNext_enum_itemC (Draws.tuple (A := X.A.in1) (show X.A.in1.handled = none from I.ok.hd hc) it a hai its.toArray) he ⟨hit, p'⟩ hlt hne (by simp; exact ⟨hne, Ne.symm hae⟩) fun y h' tk hy ho hst hT hsz hk => ?_
    obtain rfl : y = u := by
      have : its[i]? = some y := by simpa using hy
      rw [hu] at this; cases this; rfl
    refine ⟨_, rfl, wpAny_letOwnedTupleGo_enum (s := { s with heap := h', toks := tk + 1 }) ho fun h2 he2 sb => ?_⟩
    have hT2 := (sb.2 _ (Nat.ne_of_gt hel)).trans hT
    obtain ⟨T, hTT⟩ : ∃ T, T = s.heap.objs.size := ⟨_, rfl⟩
    rw [← hTT] at hT2 ⊢
    have new : ObjOk X.prog X.w (upd H T (.tup [.int (i : Nat), x])) h2 T (.tup [.int (i : Nat), x]) := by
      refine ⟨by show 2 ≤ sizeLine; decide, [.int i tk, y], .cons ⟨_, rfl⟩ (.cons ru .nil), ⟨_, hT2, rfl, _, rfl⟩⟩
    have kp : ∀ b ob, b ∉ [e, it] → s.heap.get? b = some ob → h2.get? b = some ob := fun b ob hb q =>
      (sb.2 b (fun z => hb (by simp [z]))).trans (hk b ob (fun z => hb (by simp [z])) (fun z => hb (by simp [z])) q)
    have I1 := I.turnedNew (t' := tk + 1) kp hf (by rw [hTT]; exact Nat.le_refl _) new
    have fT : H T = none := I.hok.fresh (by rw [hTT]; exact Nat.le_refl _)
    refine ⟨.ref T, _, I1, rfl, ⟨T, x, rfl, fT, rfl, fun ys hy => by rw [I.tuple_inj hy hq]; exact hx⟩, ⟨⟨y, ?_⟩, ?_, hne⟩, fun b hb => ?_⟩
    · rw [show ((i + 1 : Nat) : Int) = (i : Int) + 1 by omega]; exact he2
    · exact hst.1.at fun o q => (sb.2 it (Ne.symm hne)).trans q
    · have hb' : b < T := by
        rw [hTT]
        rcases List.mem_cons.mp hb with z | z
        · rw [z]; exact hel
        · rw [List.mem_singleton.mp z]; exact hil
      rw [upd_ne (Nat.ne_of_lt hb')]
      exact (hf b hb).1
  done := by
    intro X hP hw hK hc i pins s σ H E I hf st hg
    subst hP hw hK
    obtain ⟨⟨old, he⟩, hit, hne⟩ := st
    obtain ⟨xs, hq, hx⟩ := hg
    obtain ⟨its, rv, p, hz⟩ := I.tuple hq
    have p' : s.heap.IsTuple a its.toArray := p
    obtain ⟨f0, f1, f2, f3, f4, f5⟩ := hf it (by simp)
    have hl := rv.length
    have hh : X.A.in1.handled = none := I.ok.hd hc
    have D : Draws X.prog X.w X.A.in1 it [it, a] i (fun _ _ => True) (fun j h => j = i ∧ h.IsTupleIter it a i ∧ h.IsTuple a its.toArray) := by
      refine ⟨fun j h z => ?_, fun j h h' z k => ?_, fun j s Q E hj z => absurd z.1 (Nat.ne_of_lt hj), fun s Q E z k => ?_⟩
      · obtain ⟨_, ⟨o, ho, _⟩, _⟩ := z
        exact ⟨o, ho⟩
      · exact ⟨z.1, z.2.1.at fun o q => k it (by simp) o q, z.2.2.at fun o q => k a (by simp) o q⟩
      · exact wpAny_nextOf_tuple_end hh z.2.1 z.2.2 (by simp; omega) k
    exact wpAny_pyNext_enum_endD D he ⟨rfl, hit, p'⟩ fun h' eb => ⟨rfl, I.turned (t' := s.toks) (fun b o hb q => eb b o hb q) f0 f1 f3 f4 f5⟩
  self := fun A i s Q E st h => by
    obtain ⟨⟨old, he⟩, _⟩ := st
    exact wpAny_pyIter_enum he h
def iEnumT (K : PySem.W.Frag) (ta : TA) : TI := fun σ H R => ta σ H fun vs H1 => ∃ a xs, vs = [.ref a] ∧ SqT K H1 a xs ∧ R (IeT K a) H1
theorem pi_enumT {X : Cx} {e : Expr} {ta : TA} {p pos tpos : Pos} {elts : List Expr} {kk : Nat} (hg : Gl X "enumerate") (hm : X.mg "enumerate" = none) (ha : PA X [e] ta) (hs : starEach [e] X.env = [(false, eval e X.env)] := by rfl) :
    PI X (.Tuple elts kk tpos) (.Call (.Name "enumerate" p) [e] [] pos) (iEnumT X.K ta) := by
  refine ⟨fun pins s σ H R I h => Call_ (ld_blt I hg hm boot_enumerate (PyProof.Rows.callWith_type1 (thn (ha.run pos pins s σ H _ I h) fun us s1 hyp => ?_) hs rfl))⟩
  obtain ⟨vs, H1, I1, r1, a, xs, ex, hq, q⟩ := hyp
  subst ex
  cases r1 with
  | cons r rr =>
    cases rr
    cases r
    obtain ⟨its, rv, p', hz⟩ := I1.tuple hq
    refine callEnumT p' fun h' he hit hk => wpAny_pyIter_enum he ?_
    obtain ⟨N, hN⟩ : ∃ N, N = s1.heap.objs.size := ⟨_, rfl⟩
    rw [← hN] at he hit ⊢
    have I2 : Inv X pins σ H1 { s1 with heap := h' } := I1.kept (t' := s1.toks) hk
    refine ⟨N + 1, [N + 1, N], _, _, H1, rfl, I2, turn_enumT a (N + 1) N, ⟨⟨.none, he⟩, hit, Nat.succ_ne_self _⟩, fun b hb => ?_, q⟩
    have hle : s1.heap.objs.size ≤ b := by
      rw [← hN]
      rcases List.mem_cons.mp hb with z | z
      · rw [z]; exact Nat.le_succ _
      · rw [List.mem_singleton] at z
        rw [z]; exact Nat.le_refl _
    exact I1.fpOk hle (I1.hok.fresh hle)
/-- the items with their numbers -/
def numD (ds : List D) : List D := ds.mapIdx fun i d => .tup [.int (i : Nat), d]
theorem numD_at {ds : List D} {i : Nat} : (numD ds)[i]? = (ds[i]?).map fun d => .tup [.int (i : Nat), d] := by unfold numD; rw [List.getElem?_mapIdx]
def iEnum1 (m : EM) : IM := fun e h => match m e h with
  | .ok (.tup ds) h1 => .ok (stat (numD ds)) h1
  | .ok _ _ => .stuck
  | .exc c fs h1 => .exc c fs h1
  | .stuck => .stuck
section
variable {C : Ct} {a : Expr} {m : EM} {p pos tpos : Pos} {elts : List Expr} {kk : Nat}
theorem itr_enumT {K : PySem.W.Frag} {ι : Nat → Addr} {h : AH} {H : Hp} {ds : List D} {vs : List V} {a : Addr} (R0 : Rel K ι h H) (q : SqT K H a vs) (r : RDs K ι h.length H ds vs) : ItR K (IeT K a) (stat (numD ds)) ι h.length H := by
  refine itr_stat fun i ι' h' H' x R => ⟨fun e => ⟨vs, R0.sqT x q, ?_⟩, fun d e => ?_⟩
  · rw [numD_at] at e
    rw [← r.length]
    refine List.getElem?_eq_none_iff.mp ?_
    cases hd : ds[i]? with
    | none => rfl
    | some d => rw [hd] at e; cases e
  · rw [numD_at] at e
    cases hd : ds[i]? with
    | none => rw [hd] at e; cases e
    | some d0 =>
      rw [hd] at e
      cases e
      obtain ⟨v, ev, rv⟩ := r.get hd
      refine ⟨⟨vs, v, R0.sqT x q, ev⟩, fun y H2 hy => ?_⟩
      obtain ⟨T, x0, rfl, hT, rfl, hx⟩ := hy
      have e2 := hx vs (R0.sqT x q)
      rw [ev] at e2
      cases e2
      have xx : Ext ι' h'.length H' ι' h'.length (upd H' T (.tup [.int (i : Nat), v])) := Ext.tup hT
      refine ⟨ι', xx, R.tup hT xx, RD.tup.mpr ⟨T, _, rfl, .inl (.inl upd_same), ?_⟩⟩
      have rv2 : RD K ι' h'.length H' d0 v := rv.mono (x.grow R0)
      exact RDs.cons' (RD.int.mpr rfl) (RDs.cons' (rv2.mono (xx.grow R)) RDs.nil')
theorem mi_enum1 (hm : C.X.mg "enumerate" = none) (ha : ME C a m) (hg : Gl C.X "enumerate" := by rfl) (hs : starEach [a] C.X.env = [(false, eval a C.X.env)] := by rfl) (na : starEach [a] C.X.env = (false, eval a C.X.env) :: starEach [] C.X.env := by rfl) :
    MI C (.Tuple elts kk tpos) (.Call (.Name "enumerate" p) [a] [] pos) (iEnum1 m) := by
  obtain ⟨t, pa, sa⟩ := ha
  refine ⟨_, pi_enumT hg hm (pa_cons pa pa_nil na) hs, ⟨fun env h σ H ι Q R V p => ?_⟩⟩
  refine sa.run env h σ H ι _ R V ?_
  unfold iEnum1 at p
  cases hm : m env h with
  | exc c fs h1 => rw [hm] at p; exact p
  | stuck => rw [hm] at p; exact p
  | ok d h1 =>
    rw [hm] at p
    cases d with
    | tup ds =>
      refine fun ι' H' v x R' r => ?_
      obtain ⟨a, vs, rfl, s, rr⟩ := RD.tup.mp r
      exact ⟨a, vs, rfl, s, p.here x R' (itr_enumT R' s rr)⟩
    | _ => exact (show False from p).elim
end
end Rf

set_option maxHeartbeats 1000000
/-! sorted of ints -/
namespace Rf
open PySem PySem.Spec PyProof.Rows L2
def intSort (ns : List Int) : List Int := ns.mergeSort fun a b => decide (a ≤ b)
theorem intSort_perm (ns : List Int) : (intSort ns).Perm ns := List.mergeSort_perm _ _
theorem intSort_up (ns : List Int) : (intSort ns).Pairwise (· ≤ ·) := by
  have := List.pairwise_mergeSort (le := fun a b : Int => decide (a ≤ b)) (fun a b c h1 h2 => by simp at *; omega) (fun a b => by simp; omega) ns
  exact this.imp fun h => by simpa using h
theorem intSort_eq {ns ys : List Int} (p : ys.Perm ns) (u : ys.Pairwise (· ≤ ·)) : ys = intSort ns :=
  List.Perm.eq_of_pairwise (le := (· ≤ ·)) (fun a b _ _ h1 h2 => Int.le_antisymm h1 h2) u (intSort_up ns) (p.trans (intSort_perm ns).symm)
/-- the keys of a dict, all ints -/
def keysI : List (Key × D) → Option (List Int)
  | [] => some []
  | (.inl i, _) :: r => (keysI r).map (i :: ·)
  | _ => none
theorem keysI_eq : ∀ {kvs : List (Key × D)} {ns : List Int}, keysI kvs = some ns → kvs.map (·.1) = ns.map Sum.inl
  | [], ns, e => by cases e; rfl
  | (.inl i, d) :: r, ns, e => by
    unfold keysI at e
    cases q : keysI r with
    | none => rw [q] at e; cases e
    | some ms => rw [q] at e; cases e; rw [List.map_cons, List.map_cons, keysI_eq q]
  | (.inr s, d) :: r, ns, e => by cases e
open Classical in
noncomputable def cSorted (ds : List D) (h : AH) : ER := match ds with
  | [.ref i] => (match h[i]? with
    | some (.lst es) => (match intsOf es with
      | some ns => .ok (.ref h.length) (h ++ [.lst ((intSort ns).map D.int)])
      | none => .stuck)
    | some (.dK kvs) => (match keysI kvs with
      | some ns => if ns.length < 64 then .ok (.ref h.length) (h ++ [.lst ((intSort ns).map D.int)]) else .stuck
      | none => .stuck)
    | _ => .stuck)
  | _ => .stuck
theorem RDs.mk_ints {K : PySem.W.Frag} {ι : Nat → Addr} {n : Nat} {H : Hp} : ∀ ns : List Int, RDs K ι n H (ns.map D.int) (ns.map V.int)
  | [] => RDs.nil'
  | n :: ns => RDs.cons' (RD.int.mpr rfl) (RDs.mk_ints ns)
section
variable {C : Ct}
theorem cs_sorted : CallS C (fun vs H Q => rSortedI C.X.K vs H Q ∨ ∃ (a : Addr) (kvs : List (Key × V)) (ks : List Int), vs = [.ref a] ∧ Rd H a (.dK kvs) ∧ kvs.map (·.1) = ks.map Sum.inl ∧ ks.length < 64 ∧
    ∀ (ys : List Int) (p : Addr), ys.Perm ks → ys.Pairwise (· ≤ ·) → H p = none → Q (.ref p) (upd H p (.lst (ys.map V.int)))) cSorted := by
  intro ι h H σ xs ds Q R r p
  unfold cSorted at p
  split at p
  · rename_i i
    obtain ⟨v, rfl, q1⟩ := r.one
    split at p
    · rename_i es e
      split at p
      · rename_i ns e2
        obtain ⟨vs, rfl, e1, rr⟩ := q1.list R e
        have hs : SqL C.X.K H (ι i) vs := SqL.of e1
        rw [intsOf_eq e2] at rr
        rw [rr.ints] at hs
        refine .inl ⟨_, ns, rfl, hs, fun ns' p' pm up hp => ?_⟩
        rw [intSort_eq pm up]
        exact PostE.lst p R (RDs.mk_ints _) hp
      · exact p.elim
    · rename_i kvs e
      split at p
      · rename_i ns e2
        split at p
        · rename_i h64
          have hr := R.ob i _ e
          obtain ⟨ws, hw, hk, rr⟩ := hr
          have ev := RD.ref.mp q1
          refine .inr ⟨ι i, ws, ns, by rw [ev.2], .inl hw, by rw [← hk]; exact keysI_eq e2, h64, fun ys p' pm up hp => ?_⟩
          rw [intSort_eq pm up]
          exact PostE.lst p R (RDs.mk_ints _) hp
        · exact p.elim
      · exact p.elim
    · exact p.elim
  · exact p.elim
theorem cr_sorted2 (hcalm : C.X.calm = true) : CallR C.X (.builtin "sorted") (fun vs H Q => rSortedI C.X.K vs H Q ∨ ∃ (a : Addr) (kvs : List (Key × V)) (ks : List Int), vs = [.ref a] ∧ Rd H a (.dK kvs) ∧ kvs.map (·.1) = ks.map Sum.inl ∧ ks.length < 64 ∧
    ∀ (ys : List Int) (p : Addr), ys.Perm ks → ys.Pairwise (· ≤ ·) → H p = none → Q (.ref p) (upd H p (.lst (ys.map V.int)))) := CallR.or cr_sortedI (call_sortedDI hcalm)
end
end Rf

set_option maxHeartbeats 1000000
/-! dicts whose keys are ints and texts -/
namespace Rf
open PySem PySem.Spec PyProof.Rows L2
def keyD : D → Option Key
  | .int i => some (.inl i)
  | .str s => some (.inr s)
  | _ => none
def valD (kvs : List (Key × D)) (k : Key) : Option D := (kvs.find? fun kv => decide (kv.1 = k)).map (·.2)
def setD (kvs : List (Key × D)) (k : Key) (v : D) : List (Key × D) :=
  if (kvs.any fun kv => decide (kv.1 = k)) = true then kvs.map (fun kv => if kv.1 = k then (kv.1, v) else kv) else kvs ++ [(k, v)]
section
variable {K : PySem.W.Frag} {ι : Nat → Addr} {n : Nat} {H : Hp}
theorem keyD_V {d : D} {k : Key} {v : V} (r : RD K ι n H d v) (e : keyD d = some k) : v = kV k := by
  cases d with
  | int i => cases e; exact RD.int.mp r
  | str s => cases e; exact RD.str.mp r
  | _ => cases e
theorem valD_V : ∀ {kvs : List (Key × D)} {ws : List (Key × V)} (k : Key), kvs.map (·.1) = ws.map (·.1) → RDs K ι n H (kvs.map (·.2)) (ws.map (·.2)) →
    (valD kvs k = none ∧ valV ws k = none) ∨ ∃ d v, valD kvs k = some d ∧ valV ws k = some v ∧ RD K ι n H d v
  | [], [], k, _, _ => .inl ⟨rfl, rfl⟩
  | [], w :: ws, k, e, _ => by cases e
  | kv :: kvs, [], k, e, _ => by cases e
  | kv :: kvs, w :: ws, k, e, r => by
    obtain ⟨v, vs, e1, r1, r2⟩ := RDs.cons.mp r
    rw [List.map_cons] at e1
    injection e1 with e2 e3
    rw [List.map_cons, List.map_cons] at e
    injection e with e4 e5
    rw [← e3] at r2
    have ih := valD_V (kvs := kvs) (ws := ws) k e5 r2
    unfold valD valV at *
    by_cases h : kv.1 = k
    · have h2 : w.1 = k := by rw [← e4]; exact h
      rw [List.find?_cons_of_pos (by simpa using h), List.find?_cons_of_pos (by simpa using h2)]
      exact .inr ⟨kv.2, w.2, rfl, rfl, by rw [e2]; exact r1⟩
    · have h2 : ¬ w.1 = k := by rw [← e4]; exact h
      rw [List.find?_cons_of_neg (by simpa using h), List.find?_cons_of_neg (by simpa using h2)]
      exact ih
theorem any_keys {α β : Type} (k : Key) : ∀ {kvs : List (Key × α)} {ws : List (Key × β)}, kvs.map (·.1) = ws.map (·.1) → (kvs.any fun kv => decide (kv.1 = k)) = ws.any fun kv => decide (kv.1 = k)
  | [], [], _ => rfl
  | [], w :: ws, e => by cases e
  | kv :: kvs, [], e => by cases e
  | kv :: kvs, w :: ws, e => by
    rw [List.map_cons, List.map_cons] at e
    injection e with e4 e5
    rw [List.any_cons, List.any_cons, any_keys k e5, e4]
theorem setD_V {kvs : List (Key × D)} {ws : List (Key × V)} (k : Key) {d : D} {v : V} (e : kvs.map (·.1) = ws.map (·.1)) (r : RDs K ι n H (kvs.map (·.2)) (ws.map (·.2))) (rv : RD K ι n H d v) :
    (setD kvs k d).map (·.1) = (putK ws k v).map (·.1) ∧ RDs K ι n H ((setD kvs k d).map (·.2)) ((putK ws k v).map (·.2)) := by
  unfold setD putK
  rw [any_keys k e]
  by_cases q : (ws.any fun kv => decide (kv.1 = k)) = true
  · rw [if_pos q, if_pos q]
    clear q
    induction kvs generalizing ws with
    | nil =>
      cases ws with
      | nil => exact ⟨rfl, RDs.nil'⟩
      | cons w ws => cases e
    | cons kv kvs ih =>
      cases ws with
      | nil => cases e
      | cons w ws =>
        obtain ⟨v0, vs, e1, r1, r2⟩ := RDs.cons.mp r
        rw [List.map_cons] at e1
        injection e1 with e2 e3
        rw [List.map_cons, List.map_cons] at e
        injection e with e4 e5
        rw [← e3] at r2
        obtain ⟨i1, i2⟩ := ih e5 r2
        by_cases h : kv.1 = k
        · have h2 : w.1 = k := by rw [← e4]; exact h
          simp only [List.map_cons, if_pos h, if_pos h2]
          exact ⟨by rw [e4, i1], RDs.cons' rv i2⟩
        · have h2 : ¬ w.1 = k := by rw [← e4]; exact h
          simp only [List.map_cons, if_neg h, if_neg h2]
          exact ⟨by rw [e4, i1], RDs.cons' (by rw [e2]; exact r1) i2⟩
  · rw [if_neg q, if_neg q]
    rw [List.map_append, List.map_append, List.map_append, List.map_append, e]
    exact ⟨rfl, RDs.append r (RDs.cons' rv RDs.nil')⟩
end
def dictOf (h : AH) : D → Option (List (Key × D))
  | .ref i => match h[i]? with
    | some (.dK kvs) => some kvs
    | _ => none
  | _ => none
theorem dictOf_rel {K : PySem.W.Frag} {ι : Nat → Addr} {h : AH} {H : Hp} {d : D} {v : V} {kvs : List (Key × D)} (R : Rel K ι h H) (r : RD K ι h.length H d v) (e : dictOf h d = some kvs) :
    ∃ i ws, d = .ref i ∧ i < h.length ∧ v = .ref (ι i) ∧ H (ι i) = some (.dK ws) ∧ kvs.map (·.1) = ws.map (·.1) ∧ RDs K ι h.length H (kvs.map (·.2)) (ws.map (·.2)) := by
  unfold dictOf at e
  split at e
  · rename_i i
    split at e
    · rename_i kvs' e2
      cases e
      obtain ⟨ws, hw, hk, rr⟩ := R.ob i _ e2
      have ev := RD.ref.mp r
      exact ⟨i, ws, rfl, ev.1, ev.2, hw, hk, rr⟩
    · cases e
  · cases e
def oDGet (a b : D) (h : AH) : ER := match dictOf h a, keyD b with
  | some kvs, some k => (match valD kvs k with
    | some d => .ok d h
    | none => .stuck)
  | _, _ => .stuck
def oDIn (b a : D) (h : AH) : ER := match dictOf h a, keyD b with
  | some kvs, some k => .ok (.bl (valD kvs k).isSome) h
  | _, _ => .stuck
def oDNotIn (b a : D) (h : AH) : ER := match dictOf h a, keyD b with
  | some kvs, some k => .ok (.bl (!(valD kvs k).isSome)) h
  | _, _ => .stuck
def rDGet : R2 := fun x y H Q => ∃ a v, x = .ref a ∧ DGet H a y (some v) ∧ Q v H
def rDIn : R2 := fun y x H Q => ∃ a o, x = .ref a ∧ DGet H a y o ∧ Q (.bl o.isSome) H
def rDNotIn : R2 := fun y x H Q => ∃ a o, x = .ref a ∧ DGet H a y o ∧ Q (.bl (!o.isSome)) H
open Classical in
noncomputable def putD (o i v : D) (h : AH) : Option AH := match o, dictOf h o, keyD i with
  | .ref r, some kvs, some k => if kvs.length < sizeLine then some (h.set r (.dK (setD kvs k v))) else none
  | _, _, _ => none
section
variable {C : Ct} {a b : Expr} {ma mb : EM} {pos : Pos}
theorem os_dget : OpS C rDGet oDGet := by
  intro ι h H σ x y d1 d2 Q R r1 r2 p
  unfold oDGet at p
  split at p
  · rename_i kvs k e1 e2
    obtain ⟨i, ws, rfl, hi, rfl, hw, hk, rr⟩ := dictOf_rel R r1 e1
    rcases valD_V k hk rr with ⟨q, _⟩ | ⟨d, v, q1, q2, q3⟩
    · rw [q] at p; exact p.elim
    · rw [q1] at p
      refine ⟨ι i, v, rfl, ?_, p.here R q3⟩
      rw [keyD_V r2 e2, ← q2]
      exact DGet.k hw
  · exact p.elim
theorem os_din : OpS C rDIn oDIn := by
  intro ι h H σ x y d1 d2 Q R r1 r2 p
  unfold oDIn at p
  split at p
  · rename_i kvs k e1 e2
    obtain ⟨i, ws, rfl, hi, rfl, hw, hk, rr⟩ := dictOf_rel R r2 e1
    refine ⟨ι i, valV ws k, rfl, by rw [keyD_V r1 e2]; exact DGet.k hw, ?_⟩
    have e3 : (valV ws k).isSome = (valD kvs k).isSome := by
      rcases valD_V k hk rr with ⟨q1, q2⟩ | ⟨d, v, q1, q2, q3⟩ <;> rw [q1, q2] <;> rfl
    rw [e3]
    exact p.here R (RD.bl.mpr rfl)
  · exact p.elim
theorem os_dnotin : OpS C rDNotIn oDNotIn := by
  intro ι h H σ x y d1 d2 Q R r1 r2 p
  unfold oDNotIn at p
  split at p
  · rename_i kvs k e1 e2
    obtain ⟨i, ws, rfl, hi, rfl, hw, hk, rr⟩ := dictOf_rel R r2 e1
    refine ⟨ι i, valV ws k, rfl, by rw [keyD_V r1 e2]; exact DGet.k hw, ?_⟩
    have e3 : (valV ws k).isSome = (valD kvs k).isSome := by
      rcases valD_V k hk rr with ⟨q1, q2⟩ | ⟨d, v, q1, q2, q3⟩ <;> rw [q1, q2] <;> rfl
    rw [e3]
    exact p.here R (RD.bl.mpr rfl)
  · exact p.elim
theorem me_dget (hu : C.X.A.units + 1 < cLine) (ha : ME C a ma) (hb : ME C b mb) (hs : NoSl b := by intro _ _; rfl) : ME C (.Subscript a b pos) (eOp oDGet ma mb) := by
  obtain ⟨ta, pa, sa⟩ := ha
  obtain ⟨tb, pb, sb⟩ := hb
  exact ⟨_, pe_dget hu pa pb hs, sa.op sb os_dget⟩
theorem ss_dict : SetS C rSetD putD := by
  intro ι h H x y z d1 d2 d3 h' Q R r1 r2 r3 e k
  unfold putD at e
  split at e
  · rename_i r kvs key e2 e1
    split at e
    · rename_i hl
      cases e
      obtain ⟨i, ws, ei, hi, rfl, hw, hk, rr⟩ := dictOf_rel R r1 e1
      cases ei
      have ll : ws.length < sizeLine := by
        have := congrArg List.length hk
        rw [List.length_map, List.length_map] at this
        exact Nat.lt_of_le_of_lt (Nat.le_of_eq this.symm) hl
      refine ⟨ι r, _, rfl, by rw [keyD_V r2 e2]; exact DPut.k hw ll, ?_⟩
      refine k ι _ (by rw [List.length_set]; exact Ext.put R hi) (R.put hi fun xx => ⟨_, upd_same, ?_⟩)
      obtain ⟨s1, s2⟩ := setD_V key hk rr r3
      exact ⟨s1, s2.mono (xx.grow R)⟩
    · cases e
  · cases e
/-- {} -/
def eDict : EM := fun _ h => .ok (.ref h.length) (h ++ [.dK []])
theorem me_dict : ME C (.Dict [] [] pos) eDict := by
  refine ⟨_, pe_dnewK, ⟨fun env h σ H ι Q R V p => fun a ha => ?_⟩⟩
  have el : (h ++ [AO.dK []]).length = h.length + 1 := by simp
  have x : Ext ι h.length H (ιset ι h.length a) (h.length + 1) (upd H a (.dK [])) := Ext.new ha
  refine p (ιset ι h.length a) _ (.ref a) (by rw [el]; exact x) (R.new ha fun x => ⟨[], upd_same, rfl, RDs.nil'⟩) ?_
  rw [el]
  exact RD.ref.mpr ⟨Nat.lt_succ_self _, by rw [ιset_same]⟩
end
end Rf

set_option maxHeartbeats 1000000
/-! tests on dicts, a list turned round -/
namespace Rf
open PySem PySem.Spec PyProof.Rows L2
section
variable {C : Ct} {a b : Expr} {ma mb : EM} {pos : Pos}
theorem me_din (hu : C.X.A.units + 1 < cLine) (ha : ME C a ma) (hb : ME C b mb) (hm : behindInMarks .In b = false := by rfl) : ME C (.Compare a [.In] [b] pos) (eOp oDIn ma mb) := by
  obtain ⟨ta, pa, sa⟩ := ha
  obtain ⟨tb, pb, sb⟩ := hb
  exact ⟨_, pe_cmp (pc_din hu pa pb) hm, sa.op sb os_din⟩
theorem me_dnotin (hu : C.X.A.units + 1 < cLine) (ha : ME C a ma) (hb : ME C b mb) (hm : behindInMarks .NotIn b = false := by rfl) : ME C (.Compare a [.NotIn] [b] pos) (eOp oDNotIn ma mb) := by
  obtain ⟨ta, pa, sa⟩ := ha
  obtain ⟨tb, pb, sb⟩ := hb
  exact ⟨_, pe_cmp (pc_dnotin hu pa pb) hm, sa.op sb os_dnotin⟩
theorem mt_din (hu : C.X.A.units + 1 < cLine) (ha : ME C a ma) (hb : ME C b mb) (hm : behindInMarks .In b = false := by rfl) : MT C (.Compare a [.In] [b] pos) (eOp oDIn ma mb) := by
  obtain ⟨ta, pa, sa⟩ := ha
  obtain ⟨tb, pb, sb⟩ := hb
  exact ⟨_, pt_cmp (pc_din hu pa pb) hm, (sa.op sb os_din).test⟩
theorem mt_dnotin (hu : C.X.A.units + 1 < cLine) (ha : ME C a ma) (hb : ME C b mb) (hm : behindInMarks .NotIn b = false := by rfl) : MT C (.Compare a [.NotIn] [b] pos) (eOp oDNotIn ma mb) := by
  obtain ⟨ta, pa, sa⟩ := ha
  obtain ⟨tb, pb, sb⟩ := hb
  exact ⟨_, pt_cmp (pc_dnotin hu pa pb) hm, (sa.op sb os_dnotin).test⟩
/-- xs[::-1] of a list -/
def eRev (m : EM) : EM := fun env h => (m env h).then fun d h1 => match listOf h1 d with
  | some ds => .ok (.ref h1.length) (h1 ++ [.lst ds.reverse])
  | none => .stuck
theorem RDs.rev {K : PySem.W.Frag} {ι : Nat → Addr} {n : Nat} {H : Hp} : ∀ {ds : List D} {vs : List V}, RDs K ι n H ds vs → RDs K ι n H ds.reverse vs.reverse
  | [], vs, r => by rw [RDs.nil.mp r]; exact RDs.nil'
  | d :: ds, vs, r => by
    obtain ⟨v, vs', rfl, r1, r2⟩ := RDs.cons.mp r
    rw [List.reverse_cons, List.reverse_cons]
    exact RDs.append (RDs.rev r2) (RDs.cons' r1 RDs.nil')
theorem me_rev {k : Nat} {p1 p2 p3 : Pos} (ha : ME C a ma) : ME C (.Subscript a (.Slice none none (some (.UnaryOp .USub (.Constant (.int 1) k p1) p2)) p3) pos) (eRev ma) := by
  obtain ⟨ta, pa, sa⟩ := ha
  refine ⟨_, pe_revL pa, ⟨fun env h σ H ι Q R V p => ?_⟩⟩
  refine sa.then R V p fun d1 h1 ι1 H1 v1 x1 R1 V1 r1 p1 => ?_
  split at p1
  · rename_i ds e
    obtain ⟨a, vs, rfl, s, rr⟩ := listOf_sq R1 r1 e
    exact ⟨a, vs, rfl, s, fun l hl => PostE.lst p1 R1 (RDs.rev rr) hl⟩
  · exact p1.elim
end
end Rf

set_option maxHeartbeats 1000000
/-! comprehensions with two fors: the new list stands among the things from the start -/
namespace Rf
open PySem PySem.Spec PyProof.Rows L2
noncomputable def app1 (r : Nat) (d : D) (h : AH) : Option AH := match h[r]? with
  | some (.lst ds) => if FitsL ds.length then some (h.set r (.lst (ds ++ [d]))) else none
  | _ => none
noncomputable def lcI (it : AIt) (g : GM) (tt te : EM) (e0 : AE) (r : Nat) : Nat → Nat → AH → Option AH
  | 0, _, _ => none
  | k + 1, i, h => match it.nxt i h with
    | some none => some h
    | some (some d) => (match g d e0 h with
      | .nx e1 h1 => (match tt e1 h1 with
        | .ok (.bl true) h2 => (match te e1 h2 with
          | .ok d2 h3 => (match app1 r d2 h3 with
            | some h4 => lcI it g tt te e0 r k (i + 1) h4
            | none => none)
          | _ => none)
        | .ok (.bl false) h2 => lcI it g tt te e0 r k (i + 1) h2
        | _ => none)
      | _ => none)
    | none => none
noncomputable def lcO (it : AIt) (g : GM) (tt : EM) (mi1 : IM) (g1 : GM) (tt1 te : EM) (vs1 : List Nat) (e0 : AE) (r : Nat) : Nat → Nat → AH → Option AH
  | 0, _, _ => none
  | k + 1, i, h => match it.nxt i h with
    | some none => some h
    | some (some d) => (match g d e0 h with
      | .nx e1 h1 => (match tt e1 h1 with
        | .ok (.bl true) h2 => (match mi1 e1 h2 with
          | .ok it1 h3 => (match lcI it1 g1 tt1 te (wipeE e1 vs1) r (it1.n + 1) 0 h3 with
            | some h4 => lcO it g tt mi1 g1 tt1 te vs1 e0 r k (i + 1) h4
            | none => none)
          | _ => none)
        | .ok (.bl false) h2 => lcO it g tt mi1 g1 tt1 te vs1 e0 r k (i + 1) h2
        | _ => none)
      | _ => none)
    | none => none
noncomputable def eLc2 (mi : IM) (g : GM) (tt : EM) (mi1 : IM) (g1 : GM) (tt1 te : EM) (vs vs1 : List Nat) : EM := fun e h => match mi e h with
  | .ok it h1 => (match lcO it g tt mi1 g1 tt1 te vs1 (wipeE e vs) h1.length (it.n + 1) 0 (h1 ++ [.lst []]) with
    | some h2 => .ok (.ref h1.length) h2
    | none => .stuck)
  | .exc c fs h1 => .exc c fs h1
  | .stuck => .stuck
def canI (C : Ct) (m : IM) : TI := fun σ H Q => ∃ env h ι, Rel C.X.K ι h H ∧ RV C ι h.length H env σ ∧ PostI C ι h.length H σ (m env h) Q
theorem MI.can {C : Ct} {tg e : Expr} {m : IM} (h : MI C tg e m) : PI C.X tg e (canI C m) := by
  obtain ⟨t, p, s⟩ := h
  exact ⟨fun pins st σ H Q I ⟨env, h, ι, R, V, q⟩ => p.run pins st σ H Q I (s.run env h σ H ι Q R V q)⟩
section
variable {C : Ct} {elt tg iter tg1 iter1 : Expr} {ifs ifs1 : List Expr} {scope : Scope} {own : List (Str × Nat)} {vs1 : List Nat} {pos : Pos} {mi mi1 : IM} {g g1 : GM} {t t1 : TG} {mt mt1 me : EM}
theorem SimE.lc2 {ti : TI} (si : SimI C ti mi) (sg : ∀ s H Cc cl fp, SimG (C.blk s H scope Cc cl fp) t g ∧ OnlyAt t (own.map (·.2))) (sg1 : ∀ s H Cc cl fp, SimG (C.blk s H scope Cc cl fp) t1 g1 ∧ OnlyAt t1 vs1) :
    SimE C (tLc2 ti t (canT C.flat mt) (canI C.flat mi1) t1 (canT C.flat mt1) (canE C.flat me) (own.map (·.2)) vs1) (eLc2 mi g mt mi1 g1 mt1 me (own.map (·.2)) vs1) := by
  refine ⟨fun env h σ H ι Q R V p => ?_⟩
  refine si.run env h σ H ι _ R V ?_
  unfold eLc2 at p
  cases hm : mi env h with
  | exc c fs h1 => rw [hm] at p; exact p
  | stuck => rw [hm] at p; exact p
  | ok it h1 =>
    rw [hm] at p
    dsimp only at p
    refine fun ι0 H0 J x0 R0 J0 Dp hD => ?_
    have V0 := V.ext R x0
    cases hl : lcO it g mt mi1 g1 mt1 me vs1 (wipeE env (own.map (·.2))) h1.length (it.n + 1) 0 (h1 ++ [.lst []]) with
    | none => rw [hl] at p; exact (show False from p).elim
    | some hF =>
      rw [hl] at p
      dsimp only at p
      have el : (h1 ++ [AO.lst []]).length = h1.length + 1 := by simp
      have xn : Ext ι0 h1.length H0 (ιset ι0 h1.length Dp) (h1.length + 1) (upd H0 Dp (.lst [])) := Ext.new hD
      have Rn : Rel C.X.K (ιset ι0 h1.length Dp) (h1 ++ [.lst []]) (upd H0 Dp (.lst [])) := R0.new hD fun x => ⟨[], upd_same, RDs.nil'⟩
      refine ⟨fun i m H => ∃ h ι, Ext (ιset ι0 h1.length Dp) (h1.length + 1) (upd H0 Dp (.lst [])) ι h.length H ∧ Rel C.X.K ι h H ∧ RE C.X.K ι h.length H (wipeE env (own.map (·.2))) (L2.wipe σ (own.map (·.2))) ∧
        lcO it g mt mi1 g1 mt1 me vs1 (wipeE env (own.map (·.2))) h1.length m i h = some hF,
        ⟨it.n + 1, h1 ++ [.lst []], ιset ι0 h1.length Dp, by rw [el]; exact .refl, Rn, by rw [el]; exact (V0.re.wipe _).mono (xn.grow R0), hl⟩, ?_⟩
      rintro i m H ⟨h, ι', x, R, E, hq⟩
      cases m with
      | zero => cases hq
      | succ m =>
        obtain ⟨j1, j2⟩ := J0 i ι' h H (xn.trans x) R
        unfold lcO at hq
        cases hn : it.nxt i h with
        | none => rw [hn] at hq; cases hq
        | some od =>
          rw [hn] at hq
          cases od with
          | none =>
            cases hq
            refine .inl ⟨j1 hn, p ι' H (.ref Dp) (x0.trans (xn.trans x)) R (RD.ref.mpr ⟨?_, ?_⟩)⟩
            · have := x.le; omega
            · rw [x.ag _ (by omega), ιset_same]
          | some d =>
            dsimp only at hq
            obtain ⟨go, y⟩ := j2 d hn
            refine .inr ⟨go, _, fun H' hN => ⟨m, Nat.lt_succ_self m, hN⟩, fun xv H2 hy => ?_⟩
            obtain ⟨ι2, x2, R2, r2⟩ := y xv H2 hy
            have E2 := E.mono (x2.grow R)
            have sgo := sg C.X.s_0 H2 0 [] []
            cases hgd : g d (wipeE env (own.map (·.2))) h with
            | nx e3 h3 =>
              rw [hgd] at hq
              dsimp only at hq
              refine sgo.2.at_ (wipe_wipe fun _ h => h) (sgo.1.run d xv _ h _ H2 ι2 _ R2 ⟨E2, trivial⟩ r2 ?_)
              rw [hgd]
              refine fun ι3 H3 σ3 x3 R3 V3 => ?_
              have V3' : RV C.flat ι3 h3.length H3 e3 σ3 := ⟨V3.re, trivial⟩
              have E3 := E2.mono (x3.grow R2)
              refine ⟨e3, h3, ι3, R3, V3', ?_⟩
              cases htt : mt e3 h3 with
              | ok db h4 =>
                rw [htt] at hq
                cases db with
                | bl b =>
                  refine ⟨b, rfl, fun ι4 H4 x4 R4 => ?_⟩
                  have xx := x.trans (x2.trans (x3.trans x4))
                  have E4 := E3.mono (x4.grow R3)
                  have V4 := V3'.ext R3 x4
                  cases b with
                  | false =>
                    dsimp only at hq
                    refine iteF ?_
                    exact ⟨h4, ι4, xx, R4, E4, hq⟩
                  | true =>
                    dsimp only at hq
                    refine iteT ?_
                    refine ⟨e3, h4, ι4, R4, V4, ?_⟩
                    cases hmi : mi1 e3 h4 with
                    | exc c fs h5 => rw [hmi] at hq; cases hq
                    | stuck => rw [hmi] at hq; cases hq
                    | ok it1 h5 =>
                      rw [hmi] at hq
                      dsimp only at hq
                      refine fun ι5 H5 J1 x5 R5 J15 => ?_
                      have E5 := E4.mono (x5.grow R4)
                      have V5 := V4.ext R4 x5
                      cases hli : lcI it1 g1 mt1 me (wipeE e3 vs1) h1.length (it1.n + 1) 0 h5 with
                      | none => rw [hli] at hq; cases hq
                      | some hG =>
                        rw [hli] at hq
                        dsimp only at hq
                        refine ⟨fun j k H => ∃ h ι, Ext ι5 h5.length H5 ι h.length H ∧ Rel C.X.K ι h H ∧ RE C.X.K ι h.length H (wipeE env (own.map (·.2))) (L2.wipe σ (own.map (·.2))) ∧ RE C.X.K ι h.length H (wipeE e3 vs1) (L2.wipe σ3 vs1) ∧
                          lcI it1 g1 mt1 me (wipeE e3 vs1) h1.length k j h = some hG, ⟨it1.n + 1, h5, ι5, .refl, R5, E5, V5.re.wipe _, hli⟩, ?_⟩
                        rintro j k H ⟨h, ι', xi, R, E, Ei, hqi⟩
                        cases k with
                        | zero => cases hqi
                        | succ k =>
                          obtain ⟨k1, k2⟩ := J15 j ι' h H xi R
                          unfold lcI at hqi
                          cases hn1 : it1.nxt j h with
                          | none => rw [hn1] at hqi; cases hqi
                          | some od1 =>
                            rw [hn1] at hqi
                            cases od1 with
                            | none =>
                              cases hqi
                              exact .inl ⟨k1 hn1, hG, ι', xx.trans (x5.trans xi), R, E, hq⟩
                            | some d1 =>
                              dsimp only at hqi
                              obtain ⟨go1, y1⟩ := k2 d1 hn1
                              refine .inr ⟨go1, _, fun H' hN => ⟨k, Nat.lt_succ_self k, hN⟩, fun xv1 H6 hy1 => ?_⟩
                              obtain ⟨ι6, x6, R6, r6⟩ := y1 xv1 H6 hy1
                              have E6 := E.mono (x6.grow R)
                              have Ei6 := Ei.mono (x6.grow R)
                              have sgo1 := sg1 C.X.s_0 H6 0 [] []
                              cases hgd1 : g1 d1 (wipeE e3 vs1) h with
                              | nx e7 h7 =>
                                rw [hgd1] at hqi
                                dsimp only at hqi
                                refine sgo1.2.at_ (wipe_wipe fun _ h => h) (sgo1.1.run d1 xv1 _ h _ H6 ι6 _ R6 ⟨Ei6, trivial⟩ r6 ?_)
                                rw [hgd1]
                                refine fun ι7 H7 σ7 x7 R7 V7 => ?_
                                have V7' : RV C.flat ι7 h7.length H7 e7 σ7 := ⟨V7.re, trivial⟩
                                have E7 := E6.mono (x7.grow R6)
                                have Ei7 := Ei6.mono (x7.grow R6)
                                refine ⟨e7, h7, ι7, R7, V7', ?_⟩
                                cases htt1 : mt1 e7 h7 with
                                | ok db1 h8 =>
                                  rw [htt1] at hqi
                                  cases db1 with
                                  | bl b1 =>
                                    refine ⟨b1, rfl, fun ι8 H8 x8 R8 => ?_⟩
                                    have E8 := E7.mono (x8.grow R7)
                                    have Ei8 := Ei7.mono (x8.grow R7)
                                    have x68 := xi.trans (x6.trans (x7.trans x8))
                                    cases b1 with
                                    | false =>
                                      dsimp only at hqi
                                      refine iteF ?_
                                      exact ⟨h8, ι8, x68, R8, E8, Ei8, hqi⟩
                                    | true =>
                                      dsimp only at hqi
                                      refine iteT ?_
                                      refine ⟨e7, h8, ι8, R8, V7'.ext R7 x8, ?_⟩
                                      cases hte : me e7 h8 with
                                      | exc c fs h9 => rw [hte] at hqi; cases hqi
                                      | stuck => rw [hte] at hqi; cases hqi
                                      | ok d9 h9 =>
                                        rw [hte] at hqi
                                        dsimp only at hqi
                                        refine fun ι9 H9 v9 x9 R9 r9 => ?_
                                        have E9 := E8.mono (x9.grow R8)
                                        have Ei9 := Ei8.mono (x9.grow R8)
                                        have x99 := x68.trans x9
                                        cases ha : app1 h1.length d9 h9 with
                                        | none => rw [ha] at hqi; cases hqi
                                        | some hA =>
                                          rw [ha] at hqi
                                          dsimp only at hqi
                                          unfold app1 at ha
                                          cases hr : h9[h1.length]? with
                                          | none => rw [hr] at ha; cases ha
                                          | some o =>
                                            rw [hr] at ha
                                            cases o with
                                            | lst ds =>
                                              dsimp only at ha
                                              by_cases hz : FitsL ds.length
                                              · rw [if_pos hz] at ha
                                                cases ha
                                                obtain ⟨ws, hw, rr⟩ := R9.ob _ _ hr
                                                have hi9 := (List.getElem?_eq_some_iff.mp hr).1
                                                have xall := xx.trans (x5.trans x99)
                                                have eD : ι9 h1.length = Dp := by rw [xall.ag _ (by omega), ιset_same]
                                                rw [eD] at hw
                                                have xp : Ext ι9 h9.length H9 ι9 h9.length (upd H9 (ι9 h1.length) (.lst (ws ++ [v9]))) := Ext.put R9 hi9
                                                have Rp : Rel C.X.K ι9 (h9.set h1.length (.lst (ds ++ [d9]))) (upd H9 (ι9 h1.length) (.lst (ws ++ [v9]))) := R9.put hi9 fun xq => ⟨_, upd_same, RDs.append (rr.mono (xq.grow R9)) (RDs.cons' (r9.mono (xq.grow R9)) RDs.nil')⟩
                                                rw [eD] at xp Rp
                                                have ls : (h9.set h1.length (AO.lst (ds ++ [d9]))).length = h9.length := List.length_set ..
                                                refine ⟨ws, hw, by rw [← rr.length]; exact hz, _, ι9, by rw [ls]; exact x99.trans xp, Rp, by rw [ls]; exact E9.mono (xp.grow R9), by rw [ls]; exact Ei9.mono (xp.grow R9), hqi⟩
                                              · rw [if_neg hz] at ha; cases ha
                                            | _ => cases ha
                                  | _ => cases hqi
                                | exc c fs h8 => rw [htt1] at hqi; cases hqi
                                | stuck => rw [htt1] at hqi; cases hqi
                              | _ => rw [hgd1] at hqi; cases hqi
                | _ => cases hq
              | exc c fs h4 => rw [htt] at hq; cases hq
              | stuck => rw [htt] at hq; cases hq
            | _ => rw [hgd] at hq; cases hq
theorem me_lc2 (hc : C.X.calm = true) (hN : C.X.N.Nodup) (hi : MI C tg iter mi) (ok : BlkOk C.X.N C.X.env.scope scope own) (hv : ∀ i ∈ vs1, i ∈ own.map (·.2))
    (hg : ∀ s H Cc cl fp, MGc (C.blk s H scope Cc cl fp) tg g t (own.map (·.2))) (ht : ∀ s H Cc cl fp, MTs (C.blk s H scope Cc cl fp) ifs mt)
    (hi1 : ∀ s H Cc cl fp, MI (C.blk s H scope Cc cl fp) tg1 iter1 mi1) (hg1 : ∀ s H Cc cl fp, MGc (C.blk s H scope Cc cl fp) tg1 g1 t1 vs1) (ht1 : ∀ s H Cc cl fp, MTs (C.blk s H scope Cc cl fp) ifs1 mt1)
    (he : ∀ s H Cc cl fp, ME (C.blk s H scope Cc cl fp) elt me) (hs : ∀ x, foldedSetIterable iter C.X.env x = pure x := by intro _; rfl) (hs1 : ∀ env x, foldedSetIterable iter1 env x = pure x := by intro _ _; rfl) :
    ME C (.ListComp elt [⟨tg, iter, ifs, 0⟩, ⟨tg1, iter1, ifs1, 0⟩] scope pos) (eLc2 mi g mt mi1 g1 mt1 me (own.map (·.2)) vs1) := by
  obtain ⟨ti, pi, si⟩ := hi
  exact ⟨_, pe_lc2 hc hN pi ok hv (fun s H Cc cl fp => (hg s H Cc cl fp).1) (fun s H Cc cl fp => (ht s H Cc cl fp).can) (fun s H Cc cl fp => (hi1 s H Cc cl fp).can) (fun s H Cc cl fp => (hg1 s H Cc cl fp).1) (fun s H Cc cl fp => (ht1 s H Cc cl fp).can) (fun s H Cc cl fp => (he s H Cc cl fp).can) hs hs1,
    SimE.lc2 si (fun s H Cc cl fp => (hg s H Cc cl fp).2) (fun s H Cc cl fp => (hg1 s H Cc cl fp).2)⟩
theorem ms_setLc2 {i : Nat} {y : Str} {py spos : Pos} (hc : C.X.calm = true) (hN : C.X.N.Nodup) (hy : C.X.N[i]? = some y) (hyl : C.X.env.scope.names.lookup y = some .local)
    (hsw : swapsWith (.ListComp elt [⟨tg, iter, ifs, 0⟩, ⟨tg1, iter1, ifs1, 0⟩] scope pos) (some (.Name y py)) spos.line C.X.env = pure true) (hi : MI C tg iter mi) (ok : BlkOk C.X.N C.X.env.scope scope own) (hv : ∀ i ∈ vs1, i ∈ own.map (·.2))
    (hg : ∀ s H Cc cl fp, MGc (C.blk s H scope Cc cl fp) tg g t (own.map (·.2))) (ht : ∀ s H Cc cl fp, MTs (C.blk s H scope Cc cl fp) ifs mt)
    (hi1 : ∀ s H Cc cl fp, MI (C.blk s H scope Cc cl fp) tg1 iter1 mi1) (hg1 : ∀ s H Cc cl fp, MGc (C.blk s H scope Cc cl fp) tg1 g1 t1 vs1) (ht1 : ∀ s H Cc cl fp, MTs (C.blk s H scope Cc cl fp) ifs1 mt1)
    (he : ∀ s H Cc cl fp, ME (C.blk s H scope Cc cl fp) elt me) (hne : ∀ y, C.ea = some y → y.i ≠ i := by exact fun _ z => nomatch z) (hs : ∀ x, foldedSetIterable iter C.X.env x = pure x := by intro _; rfl) (hs1 : ∀ env x, foldedSetIterable iter1 env x = pure x := by intro _ _; rfl) :
    MS C (.Assign [.Name y py] (.ListComp elt [⟨tg, iter, ifs, 0⟩, ⟨tg1, iter1, ifs1, 0⟩] scope pos) spos) (sSet i (eLc2 mi g mt mi1 g1 mt1 me (own.map (·.2)) vs1)) := by
  obtain ⟨ti, pi, si⟩ := hi
  refine ⟨_, ps_setLc2 (te := canE C.flat me) (tt := canT C.flat mt) (tt1 := canT C.flat mt1) (wi1 := canI C.flat mi1) hc hN hy hyl hsw pi ok hv (fun s H Cc cl fp => (hg s H Cc cl fp).1) (fun s H Cc cl fp => (ht s H Cc cl fp).can) (fun s H Cc cl fp => (hi1 s H Cc cl fp).can) (fun s H Cc cl fp => (hg1 s H Cc cl fp).1) (fun s H Cc cl fp => (ht1 s H Cc cl fp).can) (fun s H Cc cl fp => (he s H Cc cl fp).can) hs hs1, ⟨fun env h σ H ι D R V p => ?_⟩⟩
  have s1 : SimE C _ (eLc2 mi g mt mi1 g1 mt1 me (own.map (·.2)) vs1) := SimE.lc2 si (fun s H Cc cl fp => (hg s H Cc cl fp).2) (fun s H Cc cl fp => (hg1 s H Cc cl fp).2)
  exact s1.thenS R V p fun d h1 ι1 H1 v1 x1 R1 V1 r1 p1 => p1 ι1 H1 _ .refl R1 (V1.set i r1 hne)
end
end Rf

/-! printed by mk.py: the plain function of each def -/
namespace Law
open PySem Rf
noncomputable def lc_inverse_1 : EM := (eLc (iVal (eVar 0)) (gVar 2) (eC (.bl true)) (eC (.int 0)) [2])
noncomputable def lb_inverse_1 : SM := (sAsg (eVar 3) (fun d e h => onlyNx ((gSub putL (eVar 1) (eVar 4)) d e h)))
noncomputable def m_inverse : SM := (sSeq (sSet 1 lc_inverse_1)
  (sSeq (sFor (iEnum1 (eVar 0)) (gTup 2 (gCons (gVar 3) (gCons (gVar 4) gNils))) lb_inverse_1)
  (sRet (eCall cTuple (lCons (eVar 1) lNil)))))
noncomputable def c_inverse : List D → AH → ER := fsem 5 m_inverse
noncomputable def lb_spread_2 : SM := (sSeq (sSet 7 (eOp oIx (eVar 6) (eOp oIx (eVar 4) (eVar 5))))
  (sIf (eNot (eUn oTruth (eOp oIx (eVar 3) (eVar 7))))
    (sSeq (sAsg (eC (.bl true)) (fun d e h => onlyNx ((gSub putL (eVar 3) (eVar 7)) d e h)))
  (sExpr (eMeth "list" mAppend (eVar 4) (lCons (eVar 7) lNil))))
    sPass))
noncomputable def wc_spread_1 : EM := (eOp oLt (eVar 5) (eCall cLen (lCons (eVar 4) lNil)))
noncomputable def lb_spread_1 : SM := (sSeq (sFor (iVal (eVar 0)) (gVar 6) lb_spread_2)
  (sSet 5 (eOp oAdd (eVar 5) (eC (.int 1)))))
noncomputable def m_spread : SM := (sSeq (sSet 3 (eOp oMul (eLst (lCons (eC (.bl false)) lNil)) (eVar 1)))
  (sSeq (sAsg (eC (.bl true)) (fun d e h => onlyNx ((gSub putL (eVar 3) (eVar 2)) d e h)))
  (sSeq (sSet 4 (eLst (lCons (eVar 2) lNil)))
  (sSeq (sSet 5 (eC (.int 0)))
  (sSeq (sWhile wc_spread_1 lb_spread_1)
  (sRet (eVar 4)))))))
noncomputable def c_spread : List D → AH → ER := fsem 8 m_spread
noncomputable def m_orbit : SM := (sRet (eCall cTuple (lCons (eCall cSorted (lCons (eCall (argn 3 c_spread) (lCons (eVar 0) (lCons (eVar 1) (lCons (eVar 2) lNil)))) lNil)) lNil)))
noncomputable def c_orbit : List D → AH → ER := fsem 3 m_orbit
noncomputable def lb_orbits_2 : SM := (sAsg (eC (.bl true)) (fun d e h => onlyNx ((gSub putL (eVar 2) (eVar 6)) d e h)))
noncomputable def lb_orbits_1 : SM := (sIf (eNot (eUn oTruth (eOp oIx (eVar 2) (eVar 4))))
    (sSeq (sSet 5 (eCall (argn 3 c_orbit) (lCons (eVar 0) (lCons (eVar 1) (lCons (eVar 4) lNil)))))
  (sSeq (sFor (iVal (eVar 5)) (gVar 6) lb_orbits_2)
  (sExpr (eMeth "list" mAppend (eVar 3) (lCons (eVar 5) lNil)))))
    sPass)
noncomputable def m_orbits : SM := (sSeq (sSet 2 (eOp oMul (eLst (lCons (eC (.bl false)) lNil)) (eVar 1)))
  (sSeq (sSet 3 (eLst lNil))
  (sSeq (sFor (iRange1 (lCons (eVar 1) lNil)) (gVar 4) lb_orbits_1)
  (sRet (eCall cTuple (lCons (eVar 3) lNil))))))
noncomputable def c_orbits : List D → AH → ER := fsem 7 m_orbits
noncomputable def m_is_transitive : SM := (sRet (eOp oEq (eCall cLen (lCons (eCall (argn 3 c_spread) (lCons (eVar 0) (lCons (eVar 1) (lCons (eC (.int 0)) lNil)))) lNil)) (eVar 1)))
noncomputable def c_is_transitive : List D → AH → ER := fsem 2 m_is_transitive
noncomputable def m_step_perm : SM := (sSeq (sIf (eOp oEq (eVar 2) (eC (.int 1)))
    (sRet (eOp oIx (eVar 0) (eVar 1)))
    sPass)
  (sRet (eCall (argn 1 c_inverse) (lCons (eOp oIx (eVar 0) (eVar 1)) lNil))))
noncomputable def c_step_perm : List D → AH → ER := fsem 3 m_step_perm
noncomputable def wc__steps_back_1 : EM := (eOp oNe (eVar 4) (eVar 1))
noncomputable def lb__steps_back_1 : SM := (sSeq (sAsg (eOp oIx (eVar 0) (eVar 4)) (fun d e h => onlyNx ((gTup 2 (gCons (gVar 4) (gCons (gVar 5) gNils))) d e h)))
  (sExpr (eMeth "list" mAppend (eVar 3) (lCons (eVar 5) lNil))))
noncomputable def m__steps_back : SM := (sSeq (sSet 3 (eLst lNil))
  (sSeq (sSet 4 (eVar 2))
  (sSeq (sWhile wc__steps_back_1 lb__steps_back_1)
  (sRet (eCall cTuple (lCons (eRev (eVar 3)) lNil))))))
noncomputable def c__steps_back : List D → AH → ER := fsem 6 m__steps_back
noncomputable def lc_way_1 : EM := (eLc2 (iRange1 (lCons (eCall cLen (lCons (eVar 0) lNil)) lNil)) (gVar 5) (eC (.bl true)) (iVal (eTup (lCons (eC (.int 1)) (lCons (eUn oNeg (eC (.int 1))) lNil)))) (gVar 6) (eC (.bl true)) (eTup (lCons (eTup (lCons (eVar 5) (lCons (eVar 6) lNil))) (lCons (eCall (argn 3 c_step_perm) (lCons (eVar 0) (lCons (eVar 5) (lCons (eVar 6) lNil)))) lNil))) [5, 6] [6])
noncomputable def lb_way_2 : SM := (sSeq (sSet 13 (eOp oIx (eVar 12) (eVar 10)))
  (sIf (eOp oIs (eOp oIx (eVar 7) (eVar 13)) (eC .non))
    (sSeq (sAsg (eTup (lCons (eVar 10) (lCons (eVar 11) lNil))) (fun d e h => onlyNx ((gSub putL (eVar 7) (eVar 13)) d e h)))
  (sExpr (eMeth "list" mAppend (eVar 8) (lCons (eVar 13) lNil))))
    sPass))
noncomputable def wc_way_1 : EM := (eAnd (eOp oLt (eVar 9) (eCall cLen (lCons (eVar 8) lNil))) (eOp oIs (eOp oIx (eVar 7) (eVar 3)) (eC .non)))
noncomputable def lb_way_1 : SM := (sSeq (sSet 10 (eOp oIx (eVar 8) (eVar 9)))
  (sSeq (sFor (iVal (eVar 4)) (gTup 2 (gCons (gVar 11) (gCons (gVar 12) gNils))) lb_way_2)
  (sSet 9 (eOp oAdd (eVar 9) (eC (.int 1))))))
noncomputable def m_way : SM := (sSeq (sSet 4 lc_way_1)
  (sSeq (sSet 7 (eOp oMul (eLst (lCons (eC .non) lNil)) (eVar 1)))
  (sSeq (sAsg (eTup (lCons (eVar 2) (lCons (eC .non) lNil))) (fun d e h => onlyNx ((gSub putL (eVar 7) (eVar 2)) d e h)))
  (sSeq (sSet 8 (eLst (lCons (eVar 2) lNil)))
  (sSeq (sSet 9 (eC (.int 0)))
  (sSeq (sWhile wc_way_1 lb_way_1)
  (sSeq (sIf (eOp oIs (eOp oIx (eVar 7) (eVar 3)) (eC .non))
    (sRet (eC .non))
    sPass)
  (sRet (eCall (argn 3 c__steps_back) (lCons (eVar 7) (lCons (eVar 2) (lCons (eVar 3) lNil))))))))))))
noncomputable def c_way : List D → AH → ER := fsem 14 m_way
noncomputable def m__law_cell : SM := (sSeq (sSet 2 (eSl (eVar 0) none (some (eC (.int 63)))))
  (sSeq (sIf (eOp oLt (eVar 1) (eCall cLen (lCons (eVar 2) lNil)))
    (sRet (eOp oMod (eCall cInt (lCons (eOp oIx (eVar 2) (eVar 1)) lNil)) (eOp oPow (eC (.int 10)) (eC (.int 60)))))
    sPass)
  (sRet (eOp oMod (eCall cInt (lCons (eOp oAdd (eOp oMul (eOp oMod (eCall cInt (lCons (eCall cSum (lCons (eVar 2) lNil)) lNil)) (eC (.int 1000003))) (eC (.int 7919))) (eOp oMul (eC (.int 104729)) (eVar 1))) lNil)) (eOp oPow (eC (.int 10)) (eC (.int 15)))))))
noncomputable def c__law_cell : List D → AH → ER := fsem 3 m__law_cell
noncomputable def m__law_bag : SM := (sSeq (sSet 2 (eCall (argn 2 c__law_cell) (lCons (eVar 0) (lCons (eVar 1) lNil))))
  (sRet (eLst (lCons (eVar 2) (lCons (eVar 2) (lCons (eOp oMul (eC (.int 64)) (eVar 1)) lNil))))))
noncomputable def c__law_bag : List D → AH → ER := fsem 3 m__law_bag
noncomputable def m__law_take : SM := (sSeq (sAsg (eOp oAdd (eOp oIx (eVar 0) (eC (.int 2))) (eC (.int 1))) (fun d e h => onlyNx ((gSub putL (eVar 0) (eC (.int 2))) d e h)))
  (sSeq (sIf (eAnd (eOp oGe (eOp oIx (eVar 0) (eC (.int 1))) (eOp oPow (eC (.int 10)) (eC (.int 18)))) (eOp oGt (eOp oIx (eVar 0) (eC (.int 0))) (eC (.int 0))))
    (sSeq (sSet 2 (eOp oMod (eCall cInt (lCons (eOp oIx (eVar 0) (eC (.int 0))) lNil)) (eVar 1)))
  (sSeq (sAsg (eOp oDiv (eOp oIx (eVar 0) (eC (.int 0))) (eVar 1)) (fun d e h => onlyNx ((gSub putL (eVar 0) (eC (.int 0))) d e h)))
  (sRet (eVar 2))))
    sPass)
  (sSeq (sSet 3 (eOp oMod (eCall cInt (lCons (eOp oMul (eOp oAdd (eOp oIx (eVar 0) (eC (.int 1))) (eOp oMul (eC (.int 7919)) (eOp oIx (eVar 0) (eC (.int 2))))) (eC (.int 48271))) lNil)) (eC (.int 2147483647))))
  (sSeq (sSet 3 (eOp oMod (eCall cInt (lCons (eOp oMul (eOp oAdd (eOp oDiv (eVar 3) (eC (.int 3))) (eOp oMul (eC (.int 104729)) (eOp oIx (eVar 0) (eC (.int 2))))) (eC (.int 69621))) lNil)) (eC (.int 2147483629))))
  (sRet (eOp oMod (eCall cInt (lCons (eOp oDiv (eVar 3) (eC (.int 7))) lNil)) (eVar 1)))))))
noncomputable def c__law_take : List D → AH → ER := fsem 4 m__law_take
noncomputable def lb__law_shuffled_1 : SM := (sSeq (sSet 4 (eOp oAdd (eVar 3) (eCall (argn 2 c__law_take) (lCons (eVar 0) (lCons (eOp oSub (eVar 1) (eVar 3)) lNil)))))
  (sSeq (sSet 5 (eOp oIx (eVar 2) (eVar 3)))
  (sSeq (sAsg (eOp oIx (eVar 2) (eVar 4)) (fun d e h => onlyNx ((gSub putL (eVar 2) (eVar 3)) d e h)))
  (sAsg (eVar 5) (fun d e h => onlyNx ((gSub putL (eVar 2) (eVar 4)) d e h))))))
noncomputable def m__law_shuffled : SM := (sSeq (sSet 2 (eRg1 false (eVar 1)))
  (sSeq (sFor (iRange1 (lCons (eOp oSub (eVar 1) (eC (.int 1))) lNil)) (gVar 3) lb__law_shuffled_1)
  (sRet (eVar 2))))
noncomputable def c__law_shuffled : List D → AH → ER := fsem 6 m__law_shuffled
noncomputable def lb__law_perm_1 : SM := (sAsg (eOp oIx (eVar 5) (eOp oMod (eCall cInt (lCons (eOp oAdd (eVar 6) (eC (.int 1))) lNil)) (eCall cLen (lCons (eVar 5) lNil)))) (fun d e h => onlyNx ((gSub putL (eVar 4) (eOp oIx (eVar 5) (eVar 6))) d e h)))
noncomputable def lc__law_perm_1 : EM := (eLc (iVal (eVar 3)) (gVar 10) (eChain oLe oLt (eVar 7) (eVar 10) (eOp oAdd (eVar 7) (eVar 8))) (eVar 10) [10])
noncomputable def lb__law_perm_2 : SM := (sSeq (sAsg (eOp oAdd (eVar 7) (eOp oMod (eCall cInt (lCons (eOp oAdd (eVar 6) (eC (.int 1))) lNil)) (eVar 8))) (fun d e h => onlyNx ((gSub putL (eVar 4) (eOp oAdd (eVar 7) (eVar 6))) d e h)))
  (sIf (eOp oEq (eVar 2) (eC (.int 3)))
    (sAsg (eOp oIx (eVar 9) (eVar 6)) (fun d e h => onlyNx ((gSub putL (eVar 4) (eOp oAdd (eVar 7) (eVar 6))) d e h)))
    sPass))
noncomputable def m__law_perm : SM := (sSeq (sSet 2 (eCall (argn 2 c__law_take) (lCons (eVar 0) (lCons (eC (.int 4)) lNil))))
  (sSeq (sSet 3 (eCall (argn 2 c__law_shuffled) (lCons (eVar 0) (lCons (eVar 1) lNil))))
  (sSeq (sIf (eOp oEq (eVar 2) (eC (.int 0)))
    (sRet (eCall cTuple (lCons (eVar 3) lNil)))
    sPass)
  (sSeq (sSet 4 (eRg1 false (eVar 1)))
  (sSeq (sIf (eOp oEq (eVar 2) (eC (.int 1)))
    (sSeq (sSet 5 (eSl (eVar 3) none (some (eOp oAdd (eC (.int 1)) (eCall (argn 2 c__law_take) (lCons (eVar 0) (lCons (eCall cMin2 (lCons (eC (.int 4)) (lCons (eVar 1) lNil))) lNil)))))))
  (sSeq (sFor (iRange1 (lCons (eCall cLen (lCons (eVar 5) lNil)) lNil)) (gVar 6) lb__law_perm_1)
  (sRet (eCall cTuple (lCons (eVar 4) lNil)))))
    sPass)
  (sSeq (sSet 7 (eCall (argn 2 c__law_take) (lCons (eVar 0) (lCons (eVar 1) lNil))))
  (sSeq (sSet 8 (eOp oAdd (eC (.int 1)) (eCall (argn 2 c__law_take) (lCons (eVar 0) (lCons (eOp oSub (eVar 1) (eVar 7)) lNil)))))
  (sSeq (sSet 9 lc__law_perm_1)
  (sSeq (sFor (iRange1 (lCons (eVar 8) lNil)) (gVar 6) lb__law_perm_2)
  (sRet (eCall cTuple (lCons (eVar 4) lNil))))))))))))
noncomputable def c__law_perm : List D → AH → ER := fsem 11 m__law_perm
noncomputable def m__law_is_whole : SM := (sRet (eAnd (eCall cIsi (lCons (eVar 0) (lCons (eC (.ty "int")) lNil))) (eNot (eCall cIsi (lCons (eVar 0) (lCons (eC (.ty "bool")) lNil))))))
noncomputable def c__law_is_whole : List D → AH → ER := fsem 1 m__law_is_whole
noncomputable def m__law_is_truth : SM := (sRet (eAnd (eCall cIsi (lCons (eVar 0) (lCons (eC (.ty "bool")) lNil))) (eOp oEq (eVar 0) (eVar 1))))
noncomputable def c__law_is_truth : List D → AH → ER := fsem 2 m__law_is_truth
noncomputable def lb__law_is_row_1 : SM := (sIf (eOr (eNot (eUn oTruth (eCall (argn 1 c__law_is_whole) (lCons (eOp oIx (eVar 0) (eVar 2)) lNil)))) (eOp oNe (eOp oIx (eVar 0) (eVar 2)) (eOp oIx (eVar 1) (eVar 2))))
    (sRet (eC (.bl false)))
    sPass)
noncomputable def m__law_is_row : SM := (sSeq (sIf (eOr (eNot (eUn oTruth (eCall cIsi (lCons (eVar 0) (lCons (eC (.ty "tuple")) lNil))))) (eOp oNe (eCall cLen (lCons (eVar 0) lNil)) (eCall cLen (lCons (eVar 1) lNil))))
    (sRet (eC (.bl false)))
    sPass)
  (sSeq (sFor (iRange1 (lCons (eCall cLen (lCons (eVar 1) lNil)) lNil)) (gVar 2) lb__law_is_row_1)
  (sRet (eC (.bl true)))))
noncomputable def c__law_is_row : List D → AH → ER := fsem 3 m__law_is_row
noncomputable def lb__law_is_rows_1 : SM := (sIf (eNot (eUn oTruth (eCall (argn 2 c__law_is_row) (lCons (eOp oIx (eVar 0) (eVar 2)) (lCons (eOp oIx (eVar 1) (eVar 2)) lNil)))))
    (sRet (eC (.bl false)))
    sPass)
noncomputable def m__law_is_rows : SM := (sSeq (sIf (eOr (eNot (eUn oTruth (eCall cIsi (lCons (eVar 0) (lCons (eC (.ty "tuple")) lNil))))) (eOp oNe (eCall cLen (lCons (eVar 0) lNil)) (eCall cLen (lCons (eVar 1) lNil))))
    (sRet (eC (.bl false)))
    sPass)
  (sSeq (sFor (iRange1 (lCons (eCall cLen (lCons (eVar 1) lNil)) lNil)) (gVar 2) lb__law_is_rows_1)
  (sRet (eC (.bl true)))))
noncomputable def c__law_is_rows : List D → AH → ER := fsem 3 m__law_is_rows
noncomputable def lc__law_merged_1 : EM := (eLc (iVal (eVar 0)) (gVar 5) (eC (.bl true)) (eIf (eOp oEq (eVar 5) (eVar 4)) (eVar 3) (eVar 5)) [5])
noncomputable def m__law_merged : SM := (sSeq (sSet 3 (eCall cMin2 (lCons (eOp oIx (eVar 0) (eVar 1)) (lCons (eOp oIx (eVar 0) (eVar 2)) lNil))))
  (sSeq (sSet 4 (eCall cMax2 (lCons (eOp oIx (eVar 0) (eVar 1)) (lCons (eOp oIx (eVar 0) (eVar 2)) lNil))))
  (sSeq (sIf (eOp oEq (eVar 3) (eVar 4))
    (sRet (eVar 0))
    sPass)
  (sRet lc__law_merged_1))))
noncomputable def c__law_merged : List D → AH → ER := fsem 6 m__law_merged
noncomputable def lb__law_together_2 : SM := (sSet 2 (eCall (argn 3 c__law_merged) (lCons (eVar 2) (lCons (eVar 4) (lCons (eOp oIx (eVar 3) (eVar 4)) lNil)))))
noncomputable def lb__law_together_1 : SM := (sFor (iRange1 (lCons (eVar 1) lNil)) (gVar 4) lb__law_together_2)
noncomputable def m__law_together : SM := (sSeq (sSet 2 (eRg1 false (eVar 1)))
  (sSeq (sFor (iVal (eVar 0)) (gVar 3) lb__law_together_1)
  (sRet (eVar 2))))
noncomputable def c__law_together : List D → AH → ER := fsem 5 m__law_together
noncomputable def lc__law_orbits_1 : EM := (eLc (iRange1 (lCons (eVar 1) lNil)) (gVar 5) (eOp oEq (eOp oIx (eVar 2) (eVar 5)) (eVar 4)) (eVar 5) [5])
noncomputable def lb__law_orbits_1 : SM := (sIf (eOp oEq (eOp oIx (eVar 2) (eVar 4)) (eVar 4))
    (sExpr (eMeth "list" mAppend (eVar 3) (lCons (eCall cTuple (lCons lc__law_orbits_1 lNil)) lNil)))
    sPass)
noncomputable def m__law_orbits : SM := (sSeq (sSet 2 (eCall (argn 2 c__law_together) (lCons (eVar 0) (lCons (eVar 1) lNil))))
  (sSeq (sSet 3 (eLst lNil))
  (sSeq (sFor (iRange1 (lCons (eVar 1) lNil)) (gVar 4) lb__law_orbits_1)
  (sRet (eCall cTuple (lCons (eVar 3) lNil))))))
noncomputable def c__law_orbits : List D → AH → ER := fsem 6 m__law_orbits
noncomputable def lb__law_moves_2 : SM := (sAsg (eVar 5) (fun d e h => onlyNx ((gSub putL (eVar 4) (eOp oIx (eVar 3) (eVar 5))) d e h)))
noncomputable def lb__law_moves_1 : SM := (sSeq (sSet 4 (eOp oMul (eLst (lCons (eC (.int 0)) lNil)) (eVar 1)))
  (sSeq (sFor (iRange1 (lCons (eVar 1) lNil)) (gVar 5) lb__law_moves_2)
  (sSeq (sExpr (eMeth "list" mAppend (eVar 2) (lCons (eCall cList (lCons (eVar 3) lNil)) lNil)))
  (sExpr (eMeth "list" mAppend (eVar 2) (lCons (eVar 4) lNil))))))
noncomputable def m__law_moves : SM := (sSeq (sSet 2 (eLst lNil))
  (sSeq (sFor (iVal (eVar 0)) (gVar 3) lb__law_moves_1)
  (sRet (eVar 2))))
noncomputable def c__law_moves : List D → AH → ER := fsem 6 m__law_moves
noncomputable def lb__law_firsts_3 : SM := (sSeq (sSet 9 (eOp oIx (eOp oIx (eVar 3) (eVar 10)) (eVar 8)))
  (sSeq (sSet 11 (eOp oAdd (eOp oIx (eVar 4) (eVar 8)) (eTup (lCons (eVar 10) lNil))))
  (sIf (eAnd (eOp oIs (eOp oIx (eVar 4) (eVar 9)) (eC .non)) (eOr (eOp oDNotIn (eVar 9) (eVar 7)) (eOp oLt (eVar 11) (eOp oDGet (eVar 7) (eVar 9)))))
    (sAsg (eVar 11) (fun d e h => onlyNx ((gSub putD (eVar 7) (eVar 9)) d e h)))
    sPass)))
noncomputable def lb__law_firsts_2 : SM := (sFor (iRange1 (lCons (eCall cLen (lCons (eVar 3) lNil)) lNil)) (gVar 10) lb__law_firsts_3)
noncomputable def lb__law_firsts_4 : SM := (sAsg (eOp oDGet (eVar 7) (eVar 9)) (fun d e h => onlyNx ((gSub putL (eVar 4) (eVar 9)) d e h)))
noncomputable def lb__law_firsts_1 : SM := (sSeq (sSet 7 eDict)
  (sSeq (sFor (iVal (eVar 5)) (gVar 8) lb__law_firsts_2)
  (sSeq (sSet 5 (eCall cSorted (lCons (eVar 7) lNil)))
  (sFor (iVal (eVar 5)) (gVar 9) lb__law_firsts_4))))
noncomputable def m__law_firsts : SM := (sSeq (sSet 3 (eCall (argn 2 c__law_moves) (lCons (eVar 0) (lCons (eVar 1) lNil))))
  (sSeq (sSet 4 (eOp oMul (eLst (lCons (eC .non) lNil)) (eVar 1)))
  (sSeq (sAsg (eTup lNil) (fun d e h => onlyNx ((gSub putL (eVar 4) (eVar 2)) d e h)))
  (sSeq (sSet 5 (eLst (lCons (eVar 2) lNil)))
  (sSeq (sFor (iRange1 (lCons (eVar 1) lNil)) (gVar 6) lb__law_firsts_1)
  (sRet (eVar 4)))))))
noncomputable def c__law_firsts : List D → AH → ER := fsem 12 m__law_firsts
noncomputable def lb__law_way_holds_1 : SM := (sExpr (eMeth "list" mAppend (eVar 2) (lCons (eTup (lCons (eOp oDiv (eVar 3) (eC (.int 2))) (lCons (eOp oSub (eC (.int 1)) (eOp oMul (eC (.int 2)) (eOp oMod (eCall cInt (lCons (eVar 3) lNil)) (eC (.int 2))))) lNil))) lNil)))
noncomputable def m__law_way_holds : SM := (sSeq (sIf (eOp oIs (eVar 1) (eC .non))
    (sRet (eOp oIs (eVar 0) (eC .non)))
    sPass)
  (sSeq (sSet 2 (eLst lNil))
  (sSeq (sFor (iVal (eVar 1)) (gVar 3) lb__law_way_holds_1)
  (sRet (eCall (argn 2 c__law_is_rows) (lCons (eVar 0) (lCons (eVar 2) lNil)))))))
noncomputable def c__law_way_holds : List D → AH → ER := fsem 4 m__law_way_holds
noncomputable def lb__law_ways_hold_1 : SM := (sSeq (sIf (eUn oTruth (eVar 3))
    (sSet 6 (eCallK 2 2 [1, 0] c_way (lCons (eVar 0) (lCons (eVar 1) lNil)) (lCons (eVar 5) (lCons (eVar 2) lNil))))
    (sSet 6 (eCall (argn 4 c_way) (lCons (eVar 0) (lCons (eVar 1) (lCons (eVar 2) (lCons (eVar 5) lNil)))))))
  (sIf (eNot (eUn oTruth (eCall (argn 2 c__law_way_holds) (lCons (eVar 6) (lCons (eOp oIx (eVar 4) (eVar 5)) lNil)))))
    (sRet (eC (.bl false)))
    sPass))
noncomputable def m__law_ways_hold : SM := (sSeq (sSet 4 (eCall (argn 3 c__law_firsts) (lCons (eVar 0) (lCons (eVar 1) (lCons (eVar 2) lNil)))))
  (sSeq (sFor (iRange1 (lCons (eVar 1) lNil)) (gVar 5) lb__law_ways_hold_1)
  (sRet (eC (.bl true)))))
noncomputable def c__law_ways_hold : List D → AH → ER := fsem 7 m__law_ways_hold
noncomputable def lb__law_orbits_hold_2 : SM := (sIf (eNot (eUn oTruth (eCall (argn 2 c__law_is_row) (lCons (eCall (argn 3 c_orbit) (lCons (eVar 0) (lCons (eVar 1) (lCons (eVar 4) lNil)))) (lCons (eVar 3) lNil)))))
    (sRet (eC (.bl false)))
    sPass)
noncomputable def lb__law_orbits_hold_1 : SM := (sFor (iVal (eVar 3)) (gVar 4) lb__law_orbits_hold_2)
noncomputable def m__law_orbits_hold : SM := (sSeq (sSet 2 (eCall (argn 2 c__law_orbits) (lCons (eVar 0) (lCons (eVar 1) lNil))))
  (sSeq (sIf (eNot (eUn oTruth (eCall (argn 2 c__law_is_rows) (lCons (eCall (argn 2 c_orbits) (lCons (eVar 0) (lCons (eVar 1) lNil))) (lCons (eVar 2) lNil)))))
    (sRet (eC (.bl false)))
    sPass)
  (sSeq (sIf (eNot (eUn oTruth (eCall (argn 2 c__law_is_truth) (lCons (eCall (argn 2 c_is_transitive) (lCons (eVar 0) (lCons (eVar 1) lNil))) (lCons (eOp oEq (eCall cLen (lCons (eVar 2) lNil)) (eC (.int 1))) lNil)))))
    (sRet (eC (.bl false)))
    sPass)
  (sSeq (sFor (iVal (eVar 2)) (gVar 3) lb__law_orbits_hold_1)
  (sRet (eC (.bl true)))))))
noncomputable def c__law_orbits_hold : List D → AH → ER := fsem 5 m__law_orbits_hold
noncomputable def lc_law_1 : EM := (eLc (iRange1 (lCons (eVar 3) lNil)) (gVar 5) (eC (.bl true)) (eCall (argn 2 c__law_perm) (lCons (eCall (argn 2 c__law_bag) (lCons (eVar 0) (lCons (eOp oAdd (eC (.int 1)) (eVar 5)) lNil))) (lCons (eVar 2) lNil))) [5])
noncomputable def lc_law_2 : EM := (eLc (iRevRange1 (lCons (eVar 3) lNil)) (gVar 5) (eC (.bl true)) (eOp oIx (eVar 4) (eVar 5)) [5])
noncomputable def m_law : SM := (sSeq (sSet 1 (eCall (argn 2 c__law_bag) (lCons (eVar 0) (lCons (eC (.int 0)) lNil))))
  (sSeq (sSet 2 (eOp oAdd (eC (.int 1)) (eCall (argn 2 c__law_take) (lCons (eVar 1) (lCons (eC (.int 8)) lNil)))))
  (sSeq (sIf (eOp oEq (eCall (argn 2 c__law_take) (lCons (eVar 1) (lCons (eC (.int 8)) lNil))) (eC (.int 3)))
    (sSet 2 (eOp oAdd (eC (.int 9)) (eCall (argn 2 c__law_take) (lCons (eVar 1) (lCons (eC (.int 16)) lNil)))))
    sPass)
  (sSeq (sSet 3 (eCall (argn 2 c__law_take) (lCons (eVar 1) (lCons (eC (.int 5)) lNil))))
  (sSeq (sIf (eOp oEq (eCall (argn 2 c__law_take) (lCons (eVar 1) (lCons (eC (.int 8)) lNil))) (eC (.int 5)))
    (sSet 3 (eOp oAdd (eC (.int 5)) (eCall (argn 2 c__law_take) (lCons (eVar 1) (lCons (eC (.int 4)) lNil)))))
    sPass)
  (sSeq (sSet 4 (eCall cTuple (lCons lc_law_1 lNil)))
  (sSeq (sIf (eNot (eUn oTruth (eCall (argn 2 c__law_orbits_hold) (lCons (eVar 4) (lCons (eVar 2) lNil)))))
    (sRet (eC (.bl false)))
    sPass)
  (sSeq (sIf (eNot (eUn oTruth (eCall (argn 4 c__law_ways_hold) (lCons (eVar 4) (lCons (eVar 2) (lCons (eCall (argn 2 c__law_take) (lCons (eVar 1) (lCons (eVar 2) lNil))) (lCons (eC (.bl false)) lNil)))))))
    (sRet (eC (.bl false)))
    sPass)
  (sSeq (sIf (eNot (eUn oTruth (eCall (argn 2 c__law_orbits_hold) (lCons (eSl (eVar 4) none (some (eOp oDiv (eVar 3) (eC (.int 2))))) (lCons (eVar 2) lNil)))))
    (sRet (eC (.bl false)))
    sPass)
  (sSeq (sIf (eNot (eUn oTruth (eCall (argn 4 c__law_ways_hold) (lCons (eVar 4) (lCons (eVar 2) (lCons (eCall (argn 2 c__law_take) (lCons (eVar 1) (lCons (eVar 2) lNil))) (lCons (eC (.bl true)) lNil)))))))
    (sRet (eC (.bl false)))
    sPass)
  (sSeq (sSet 6 (eCall cTuple (lCons lc_law_2 lNil)))
  (sRet (eCall (argn 2 c__law_orbits_hold) (lCons (eVar 6) (lCons (eVar 2) lNil)))))))))))))))
noncomputable def c_law : List D → AH → ER := fsem 7 m_law
end Law

set_option maxHeartbeats 4000000
/-! printed by mk.py: the walk of each def -/
namespace Law
open PySem PySem.Spec PyProof.Rows L2 Rf
def topS (i : Nat) : Stmt := PySem.Challenge.pw_tumbler_k09_orbits_and_ways.main.body.getD i (.Pass ⟨0, 0, 0, 0⟩)
abbrev s_inverse : Stmt := topS 1
abbrev N_inverse : List Str := ["perm", "back", "_", "point", "image"]
theorem sc_inverse : FnScope N_inverse ["perm"] (defScope s_inverse) := ⟨rfl, rfl, rfl, by decide +kernel, rfl, by decide +kernel, by decide +kernel⟩
abbrev s_spread : Stmt := topS 3
abbrev N_spread : List Str := ["perms", "points", "point", "known", "line", "at", "perm", "image"]
theorem sc_spread : FnScope N_spread ["perms", "points", "point"] (defScope s_spread) := ⟨rfl, rfl, rfl, by decide +kernel, rfl, by decide +kernel, by decide +kernel⟩
abbrev s_orbit : Stmt := topS 4
abbrev N_orbit : List Str := ["perms", "points", "point"]
theorem sc_orbit : FnScope N_orbit ["perms", "points", "point"] (defScope s_orbit) := ⟨rfl, rfl, rfl, by decide +kernel, rfl, by decide +kernel, by decide +kernel⟩
abbrev s_orbits : Stmt := topS 5
abbrev N_orbits : List Str := ["perms", "points", "known", "found", "point", "row", "member"]
theorem sc_orbits : FnScope N_orbits ["perms", "points"] (defScope s_orbits) := ⟨rfl, rfl, rfl, by decide +kernel, rfl, by decide +kernel, by decide +kernel⟩
abbrev s_is_transitive : Stmt := topS 6
abbrev N_is_transitive : List Str := ["perms", "points"]
theorem sc_is_transitive : FnScope N_is_transitive ["perms", "points"] (defScope s_is_transitive) := ⟨rfl, rfl, rfl, by decide +kernel, rfl, by decide +kernel, by decide +kernel⟩
abbrev s_step_perm : Stmt := topS 7
abbrev N_step_perm : List Str := ["perms", "k", "sign"]
theorem sc_step_perm : FnScope N_step_perm ["perms", "k", "sign"] (defScope s_step_perm) := ⟨rfl, rfl, rfl, by decide +kernel, rfl, by decide +kernel, by decide +kernel⟩
abbrev s__steps_back : Stmt := topS 9
abbrev N__steps_back : List Str := ["came", "start", "goal", "found", "here", "index_step"]
theorem sc__steps_back : FnScope N__steps_back ["came", "start", "goal"] (defScope s__steps_back) := ⟨rfl, rfl, rfl, by decide +kernel, rfl, by decide +kernel, by decide +kernel⟩
abbrev s_way : Stmt := topS 8
abbrev N_way : List Str := ["perms", "points", "start", "goal", "moves", "k", "sign", "came", "line", "at", "here", "index_step", "perm", "image"]
theorem sc_way : FnScope N_way ["perms", "points", "start", "goal"] (defScope s_way) := ⟨rfl, rfl, rfl, by decide +kernel, rfl, by decide +kernel, by decide +kernel⟩
abbrev s__law_cell : Stmt := topS 11
abbrev N__law_cell : List Str := ["script", "k", "cells"]
theorem sc__law_cell : FnScope N__law_cell ["script", "k"] (defScope s__law_cell) := ⟨rfl, rfl, rfl, by decide +kernel, rfl, by decide +kernel, by decide +kernel⟩
abbrev s__law_bag : Stmt := topS 12
abbrev N__law_bag : List Str := ["script", "k", "cell"]
theorem sc__law_bag : FnScope N__law_bag ["script", "k"] (defScope s__law_bag) := ⟨rfl, rfl, rfl, by decide +kernel, rfl, by decide +kernel, by decide +kernel⟩
abbrev s__law_take : Stmt := topS 13
abbrev N__law_take : List Str := ["bag", "size", "digit", "mixed"]
theorem sc__law_take : FnScope N__law_take ["bag", "size"] (defScope s__law_take) := ⟨rfl, rfl, rfl, by decide +kernel, rfl, by decide +kernel, by decide +kernel⟩
abbrev s__law_shuffled : Stmt := topS 14
abbrev N__law_shuffled : List Str := ["bag", "many", "row", "k", "other", "held"]
theorem sc__law_shuffled : FnScope N__law_shuffled ["bag", "many"] (defScope s__law_shuffled) := ⟨rfl, rfl, rfl, by decide +kernel, rfl, by decide +kernel, by decide +kernel⟩
abbrev s__law_perm : Stmt := topS 15
abbrev N__law_perm : List Str := ["bag", "points", "kind", "row", "image", "few", "k", "low", "size", "inner", "x"]
theorem sc__law_perm : FnScope N__law_perm ["bag", "points"] (defScope s__law_perm) := ⟨rfl, rfl, rfl, by decide +kernel, rfl, by decide +kernel, by decide +kernel⟩
abbrev s__law_is_whole : Stmt := topS 16
abbrev N__law_is_whole : List Str := ["value"]
theorem sc__law_is_whole : FnScope N__law_is_whole ["value"] (defScope s__law_is_whole) := ⟨rfl, rfl, rfl, by decide +kernel, rfl, by decide +kernel, by decide +kernel⟩
abbrev s__law_is_truth : Stmt := topS 17
abbrev N__law_is_truth : List Str := ["actual", "due"]
theorem sc__law_is_truth : FnScope N__law_is_truth ["actual", "due"] (defScope s__law_is_truth) := ⟨rfl, rfl, rfl, by decide +kernel, rfl, by decide +kernel, by decide +kernel⟩
abbrev s__law_is_row : Stmt := topS 18
abbrev N__law_is_row : List Str := ["actual", "due", "k"]
theorem sc__law_is_row : FnScope N__law_is_row ["actual", "due"] (defScope s__law_is_row) := ⟨rfl, rfl, rfl, by decide +kernel, rfl, by decide +kernel, by decide +kernel⟩
abbrev s__law_is_rows : Stmt := topS 19
abbrev N__law_is_rows : List Str := ["actual", "due", "k"]
theorem sc__law_is_rows : FnScope N__law_is_rows ["actual", "due"] (defScope s__law_is_rows) := ⟨rfl, rfl, rfl, by decide +kernel, rfl, by decide +kernel, by decide +kernel⟩
abbrev s__law_merged : Stmt := topS 20
abbrev N__law_merged : List Str := ["row", "a", "b", "low", "high", "x"]
theorem sc__law_merged : FnScope N__law_merged ["row", "a", "b"] (defScope s__law_merged) := ⟨rfl, rfl, rfl, by decide +kernel, rfl, by decide +kernel, by decide +kernel⟩
abbrev s__law_together : Stmt := topS 21
abbrev N__law_together : List Str := ["perms", "points", "row", "perm", "k"]
theorem sc__law_together : FnScope N__law_together ["perms", "points"] (defScope s__law_together) := ⟨rfl, rfl, rfl, by decide +kernel, rfl, by decide +kernel, by decide +kernel⟩
abbrev s__law_orbits : Stmt := topS 22
abbrev N__law_orbits : List Str := ["perms", "points", "row", "told", "x", "k"]
theorem sc__law_orbits : FnScope N__law_orbits ["perms", "points"] (defScope s__law_orbits) := ⟨rfl, rfl, rfl, by decide +kernel, rfl, by decide +kernel, by decide +kernel⟩
abbrev s__law_moves : Stmt := topS 23
abbrev N__law_moves : List Str := ["perms", "points", "moves", "perm", "back", "k"]
theorem sc__law_moves : FnScope N__law_moves ["perms", "points"] (defScope s__law_moves) := ⟨rfl, rfl, rfl, by decide +kernel, rfl, by decide +kernel, by decide +kernel⟩
abbrev s__law_firsts : Stmt := topS 24
abbrev N__law_firsts : List Str := ["perms", "points", "source", "moves", "found", "layer", "turn", "best", "spot", "reach", "code", "codes"]
theorem sc__law_firsts : FnScope N__law_firsts ["perms", "points", "source"] (defScope s__law_firsts) := ⟨rfl, rfl, rfl, by decide +kernel, rfl, by decide +kernel, by decide +kernel⟩
abbrev s__law_way_holds : Stmt := topS 25
abbrev N__law_way_holds : List Str := ["actual", "codes", "due", "code"]
theorem sc__law_way_holds : FnScope N__law_way_holds ["actual", "codes"] (defScope s__law_way_holds) := ⟨rfl, rfl, rfl, by decide +kernel, rfl, by decide +kernel, by decide +kernel⟩
abbrev s__law_ways_hold : Stmt := topS 26
abbrev N__law_ways_hold : List Str := ["perms", "points", "source", "named", "found", "target", "actual"]
theorem sc__law_ways_hold : FnScope N__law_ways_hold ["perms", "points", "source", "named"] (defScope s__law_ways_hold) := ⟨rfl, rfl, rfl, by decide +kernel, rfl, by decide +kernel, by decide +kernel⟩
abbrev s__law_orbits_hold : Stmt := topS 27
abbrev N__law_orbits_hold : List Str := ["perms", "points", "due", "one", "x"]
theorem sc__law_orbits_hold : FnScope N__law_orbits_hold ["perms", "points"] (defScope s__law_orbits_hold) := ⟨rfl, rfl, rfl, by decide +kernel, rfl, by decide +kernel, by decide +kernel⟩
abbrev s_law : Stmt := topS 28
abbrev N_law : List Str := ["script", "bag", "points", "many", "perms", "k", "turned"]
theorem sc_law : FnScope N_law ["script"] (defScope s_law) := ⟨rfl, rfl, rfl, by decide +kernel, rfl, by decide +kernel, by decide +kernel⟩
structure Txt (K : PySem.W.Frag) (mg : Str → Option Value) where
  f_inverse : Addr
  fd_inverse : FuncData
  d_inverse : DA K mg "inverse" s_inverse ["perm"] f_inverse fd_inverse
  f_spread : Addr
  fd_spread : FuncData
  d_spread : DA K mg "spread" s_spread ["perms", "points", "point"] f_spread fd_spread
  f_orbit : Addr
  fd_orbit : FuncData
  d_orbit : DA K mg "orbit" s_orbit ["perms", "points", "point"] f_orbit fd_orbit
  f_orbits : Addr
  fd_orbits : FuncData
  d_orbits : DA K mg "orbits" s_orbits ["perms", "points"] f_orbits fd_orbits
  f_is_transitive : Addr
  fd_is_transitive : FuncData
  d_is_transitive : DA K mg "is_transitive" s_is_transitive ["perms", "points"] f_is_transitive fd_is_transitive
  f_step_perm : Addr
  fd_step_perm : FuncData
  d_step_perm : DA K mg "step_perm" s_step_perm ["perms", "k", "sign"] f_step_perm fd_step_perm
  f__steps_back : Addr
  fd__steps_back : FuncData
  d__steps_back : DA K mg "_steps_back" s__steps_back ["came", "start", "goal"] f__steps_back fd__steps_back
  f_way : Addr
  fd_way : FuncData
  d_way : DA K mg "way" s_way ["perms", "points", "start", "goal"] f_way fd_way
  f__law_cell : Addr
  fd__law_cell : FuncData
  d__law_cell : DA K mg "_law_cell" s__law_cell ["script", "k"] f__law_cell fd__law_cell
  f__law_bag : Addr
  fd__law_bag : FuncData
  d__law_bag : DA K mg "_law_bag" s__law_bag ["script", "k"] f__law_bag fd__law_bag
  f__law_take : Addr
  fd__law_take : FuncData
  d__law_take : DA K mg "_law_take" s__law_take ["bag", "size"] f__law_take fd__law_take
  f__law_shuffled : Addr
  fd__law_shuffled : FuncData
  d__law_shuffled : DA K mg "_law_shuffled" s__law_shuffled ["bag", "many"] f__law_shuffled fd__law_shuffled
  f__law_perm : Addr
  fd__law_perm : FuncData
  d__law_perm : DA K mg "_law_perm" s__law_perm ["bag", "points"] f__law_perm fd__law_perm
  f__law_is_whole : Addr
  fd__law_is_whole : FuncData
  d__law_is_whole : DA K mg "_law_is_whole" s__law_is_whole ["value"] f__law_is_whole fd__law_is_whole
  f__law_is_truth : Addr
  fd__law_is_truth : FuncData
  d__law_is_truth : DA K mg "_law_is_truth" s__law_is_truth ["actual", "due"] f__law_is_truth fd__law_is_truth
  f__law_is_row : Addr
  fd__law_is_row : FuncData
  d__law_is_row : DA K mg "_law_is_row" s__law_is_row ["actual", "due"] f__law_is_row fd__law_is_row
  f__law_is_rows : Addr
  fd__law_is_rows : FuncData
  d__law_is_rows : DA K mg "_law_is_rows" s__law_is_rows ["actual", "due"] f__law_is_rows fd__law_is_rows
  f__law_merged : Addr
  fd__law_merged : FuncData
  d__law_merged : DA K mg "_law_merged" s__law_merged ["row", "a", "b"] f__law_merged fd__law_merged
  f__law_together : Addr
  fd__law_together : FuncData
  d__law_together : DA K mg "_law_together" s__law_together ["perms", "points"] f__law_together fd__law_together
  f__law_orbits : Addr
  fd__law_orbits : FuncData
  d__law_orbits : DA K mg "_law_orbits" s__law_orbits ["perms", "points"] f__law_orbits fd__law_orbits
  f__law_moves : Addr
  fd__law_moves : FuncData
  d__law_moves : DA K mg "_law_moves" s__law_moves ["perms", "points"] f__law_moves fd__law_moves
  f__law_firsts : Addr
  fd__law_firsts : FuncData
  d__law_firsts : DA K mg "_law_firsts" s__law_firsts ["perms", "points", "source"] f__law_firsts fd__law_firsts
  f__law_way_holds : Addr
  fd__law_way_holds : FuncData
  d__law_way_holds : DA K mg "_law_way_holds" s__law_way_holds ["actual", "codes"] f__law_way_holds fd__law_way_holds
  f__law_ways_hold : Addr
  fd__law_ways_hold : FuncData
  d__law_ways_hold : DA K mg "_law_ways_hold" s__law_ways_hold ["perms", "points", "source", "named"] f__law_ways_hold fd__law_ways_hold
  f__law_orbits_hold : Addr
  fd__law_orbits_hold : FuncData
  d__law_orbits_hold : DA K mg "_law_orbits_hold" s__law_orbits_hold ["perms", "points"] f__law_orbits_hold fd__law_orbits_hold
  f_law : Addr
  fd_law : FuncData
  d_law : DA K mg "law" s_law ["script"] f_law fd_law
  b_enumerate : mg "enumerate" = none
  b_tuple : mg "tuple" = none
  b_len : mg "len" = none
  b_sorted : mg "sorted" = none
  b_range : mg "range" = none
  b_int : mg "int" = none
  b_sum : mg "sum" = none
  b_list : mg "list" = none
  b_min : mg "min" = none
  b_isinstance : mg "isinstance" = none
  b_bool : mg "bool" = none
  b_max : mg "max" = none
  b_reversed : mg "reversed" = none
  kb_0 : KBn K fd_way ["perms", "points", "start", "goal"] 2 ["goal", "start"] (permK [1, 0]) (permK [1, 0])
section
variable {P : Program} {w : World} {K : PySem.W.Frag} {mg : Str → Option Value} {base : Heap}
theorem w_inverse (T : Txt K mg) : FnOk P w K mg base (L2.CX P w) 1 T.f_inverse T.fd_inverse ["perm"] (spF K mg 1 c_inverse) := by
  refine fn_ok (n := 5) (m := m_inverse) T.d_inverse.fn sc_inverse rfl rfl fun cdv A outer s H E hr => ?_
  have tk : Takes (cxOf (L2.CX P w) P w K mg base N_inverse "inverse" (defScope s_inverse) T.f_inverse cdv A outer s H E) (fun cls d _ H => E cls d H) := takes_of rfl rfl rfl rfl
  have po := passes_of (X := cxOf (L2.CX P w) P w K mg base N_inverse "inverse" (defScope s_inverse) T.f_inverse cdv A outer s H E) rfl
  exact (mb_cons (ms_setLc (i := 1) rfl sc_inverse.nd rfl rfl (sw_true rfl rfl rfl (by decide +kernel)) (mi_val (me_var 0)) (blkOk_by (own := [("_", 2)]) (by show blkC N_inverse (defScope s_inverse) _ _ = true; decide +kernel)) (fun _ _ _ _ _ => (mgc_var sc_inverse.nd rfl (.inl rfl) (by decide))) (fun _ _ _ _ _ => mts_nil) (fun _ _ _ _ _ => me_int))
    (mb_cons (ms_for po rfl (mi_enum1 T.b_enumerate (me_var 0)) (mg_tup rfl (mgs_cons (mg_var sc_inverse.nd rfl (.inl rfl)) (mgs_cons (mg_var sc_inverse.nd rfl (.inl rfl)) mgs_nil)))
      (mb_one (ms_asg (me_var 3) (mg_sub set_list ss_list (me_var 1) (me_var 4)))))
    (mb_one (ms_ret (me_callTy call_tuple_of cs_tuple T.b_tuple (ma_cons (me_var 1) ma_nil))))))
theorem w_spread (T : Txt K mg) : FnOk P w K mg base (L2.CX P w) 1 T.f_spread T.fd_spread ["perms", "points", "point"] (spF K mg 3 c_spread) := by
  refine fn_ok (n := 8) (m := m_spread) T.d_spread.fn sc_spread rfl rfl fun cdv A outer s H E hr => ?_
  have tk : Takes (cxOf (L2.CX P w) P w K mg base N_spread "spread" (defScope s_spread) T.f_spread cdv A outer s H E) (fun cls d _ H => E cls d H) := takes_of rfl rfl rfl rfl
  have po := passes_of (X := cxOf (L2.CX P w) P w K mg base N_spread "spread" (defScope s_spread) T.f_spread cdv A outer s H E) rfl
  exact (mb_cons (ms_set (i := 3) sc_spread.nd rfl (.inl rfl) (me_op op_mulAll os_mul (me_lst (ma_cons me_bl ma_nil)) (me_var 1)))
    (mb_cons (ms_asg me_bl (mg_sub set_list ss_list (me_var 3) (me_var 2)))
    (mb_cons (ms_set (i := 4) sc_spread.nd rfl (.inl rfl) (me_lst (ma_cons (me_var 2) ma_nil)))
    (mb_cons (ms_set (i := 5) sc_spread.nd rfl (.inl rfl) me_int)
    (mb_cons (ms_while po (mt_cmp (op_ltAll hr.units0) os_lt (me_var 5) (me_callB cl_len cs_lenAll T.b_len (ma_cons (me_var 4) ma_nil)) (nomark _))
      (mb_cons (ms_for po rfl (mi_val (me_var 0)) (mg_var sc_spread.nd rfl (.inl rfl))
      (mb_cons (ms_set (i := 7) sc_spread.nd rfl (.inl rfl) (me_ix ix_seq os_ix (me_var 6) (me_ix ix_seq os_ix (me_var 4) (me_var 5))))
    (mb_one (ms_if (mt_not (mt_truth ts_truth (me_ix ix_seq os_ix (me_var 3) (me_var 7))))
      (mb_cons (ms_asg me_bl (mg_sub set_list ss_list (me_var 3) (me_var 7)))
    (mb_one (ms_expr (me_meth PySem.F.plainAttrs_list PySem.F.slot_list_append PySem.F.type_list_append mt_append ms_append (me_var 4) (ma_cons (me_var 7) ma_nil)))))
      mb_nil))))
    (mb_one (ms_set (i := 5) sc_spread.nd rfl (.inl rfl) (me_op op_addAll os_add (me_var 5) me_int)))))
    (mb_one (ms_ret (me_var 4))))))))
theorem w_orbit (T : Txt K mg) : FnOk P w K mg base (L2.CX P w) 2 T.f_orbit T.fd_orbit ["perms", "points", "point"] (spF K mg 3 c_orbit) := by
  refine fn_ok (n := 3) (m := m_orbit) T.d_orbit.fn sc_orbit rfl rfl fun cdv A outer s H E hr => ?_
  have tk : Takes (cxOf (L2.CX P w) P w K mg base N_orbit "orbit" (defScope s_orbit) T.f_orbit cdv A outer s H E) (fun cls d _ H => E cls d H) := takes_of rfl rfl rfl rfl
  have po := passes_of (X := cxOf (L2.CX P w) P w K mg base N_orbit "orbit" (defScope s_orbit) T.f_orbit cdv A outer s H E) rfl
  exact (mb_one (ms_ret (me_callTy call_tuple_of cs_tuple T.b_tuple (ma_cons (me_callB (cr_sorted2 rfl) cs_sorted T.b_sorted (ma_cons (me_call (w_spread T) (hr.mono (by decide)) T.d_spread.mgf T.d_spread.fn.kp T.d_spread.bd tk (ma_cons (me_var 0) (ma_cons (me_var 1) (ma_cons (me_var 2) ma_nil)))) ma_nil)) ma_nil))))
theorem w_orbits (T : Txt K mg) : FnOk P w K mg base (L2.CX P w) 3 T.f_orbits T.fd_orbits ["perms", "points"] (spF K mg 2 c_orbits) := by
  refine fn_ok (n := 7) (m := m_orbits) T.d_orbits.fn sc_orbits rfl rfl fun cdv A outer s H E hr => ?_
  have tk : Takes (cxOf (L2.CX P w) P w K mg base N_orbits "orbits" (defScope s_orbits) T.f_orbits cdv A outer s H E) (fun cls d _ H => E cls d H) := takes_of rfl rfl rfl rfl
  have po := passes_of (X := cxOf (L2.CX P w) P w K mg base N_orbits "orbits" (defScope s_orbits) T.f_orbits cdv A outer s H E) rfl
  exact (mb_cons (ms_set (i := 2) sc_orbits.nd rfl (.inl rfl) (me_op op_mulAll os_mul (me_lst (ma_cons me_bl ma_nil)) (me_var 1)))
    (mb_cons (ms_set (i := 3) sc_orbits.nd rfl (.inl rfl) (me_lst ma_nil))
    (mb_cons (ms_for po rfl (mi_range1 T.b_range (ma_cons (me_var 1) ma_nil)) (mg_var sc_orbits.nd rfl (.inl rfl))
      (mb_one (ms_if (mt_not (mt_truth ts_truth (me_ix ix_seq os_ix (me_var 2) (me_var 4))))
      (mb_cons (ms_set (i := 5) sc_orbits.nd rfl (.inl rfl) (me_call (w_orbit T) (hr.mono (by decide)) T.d_orbit.mgf T.d_orbit.fn.kp T.d_orbit.bd tk (ma_cons (me_var 0) (ma_cons (me_var 1) (ma_cons (me_var 4) ma_nil)))))
    (mb_cons (ms_for po rfl (mi_val (me_var 5)) (mg_var sc_orbits.nd rfl (.inl rfl))
      (mb_one (ms_asg me_bl (mg_sub set_list ss_list (me_var 2) (me_var 6)))))
    (mb_one (ms_expr (me_meth PySem.F.plainAttrs_list PySem.F.slot_list_append PySem.F.type_list_append mt_append ms_append (me_var 3) (ma_cons (me_var 5) ma_nil))))))
      mb_nil)))
    (mb_one (ms_ret (me_callTy call_tuple_of cs_tuple T.b_tuple (ma_cons (me_var 3) ma_nil)))))))
theorem w_is_transitive (T : Txt K mg) : FnOk P w K mg base (L2.CX P w) 2 T.f_is_transitive T.fd_is_transitive ["perms", "points"] (spF K mg 2 c_is_transitive) := by
  refine fn_ok (n := 2) (m := m_is_transitive) T.d_is_transitive.fn sc_is_transitive rfl rfl fun cdv A outer s H E hr => ?_
  have tk : Takes (cxOf (L2.CX P w) P w K mg base N_is_transitive "is_transitive" (defScope s_is_transitive) T.f_is_transitive cdv A outer s H E) (fun cls d _ H => E cls d H) := takes_of rfl rfl rfl rfl
  have po := passes_of (X := cxOf (L2.CX P w) P w K mg base N_is_transitive "is_transitive" (defScope s_is_transitive) T.f_is_transitive cdv A outer s H E) rfl
  exact (mb_one (ms_ret (me_cmp (op_eqD hr.units) os_eq (me_callB cl_len cs_lenAll T.b_len (ma_cons (me_call (w_spread T) (hr.mono (by decide)) T.d_spread.mgf T.d_spread.fn.kp T.d_spread.bd tk (ma_cons (me_var 0) (ma_cons (me_var 1) (ma_cons me_int ma_nil)))) ma_nil)) (me_var 1) (nomark _))))
theorem w_step_perm (T : Txt K mg) : FnOk P w K mg base (L2.CX P w) 2 T.f_step_perm T.fd_step_perm ["perms", "k", "sign"] (spF K mg 3 c_step_perm) := by
  refine fn_ok (n := 3) (m := m_step_perm) T.d_step_perm.fn sc_step_perm rfl rfl fun cdv A outer s H E hr => ?_
  have tk : Takes (cxOf (L2.CX P w) P w K mg base N_step_perm "step_perm" (defScope s_step_perm) T.f_step_perm cdv A outer s H E) (fun cls d _ H => E cls d H) := takes_of rfl rfl rfl rfl
  have po := passes_of (X := cxOf (L2.CX P w) P w K mg base N_step_perm "step_perm" (defScope s_step_perm) T.f_step_perm cdv A outer s H E) rfl
  exact (mb_cons (ms_if (mt_cmp (op_eqD hr.units) os_eq (me_var 2) me_int (nomark _))
      (mb_one (ms_ret (me_ix ix_seq os_ix (me_var 0) (me_var 1))))
      mb_nil)
    (mb_one (ms_ret (me_call (w_inverse T) (hr.mono (by decide)) T.d_inverse.mgf T.d_inverse.fn.kp T.d_inverse.bd tk (ma_cons (me_ix ix_seq os_ix (me_var 0) (me_var 1)) ma_nil)))))
theorem w__steps_back (T : Txt K mg) : FnOk P w K mg base (L2.CX P w) 1 T.f__steps_back T.fd__steps_back ["came", "start", "goal"] (spF K mg 3 c__steps_back) := by
  refine fn_ok (n := 6) (m := m__steps_back) T.d__steps_back.fn sc__steps_back rfl rfl fun cdv A outer s H E hr => ?_
  have tk : Takes (cxOf (L2.CX P w) P w K mg base N__steps_back "_steps_back" (defScope s__steps_back) T.f__steps_back cdv A outer s H E) (fun cls d _ H => E cls d H) := takes_of rfl rfl rfl rfl
  have po := passes_of (X := cxOf (L2.CX P w) P w K mg base N__steps_back "_steps_back" (defScope s__steps_back) T.f__steps_back cdv A outer s H E) rfl
  exact (mb_cons (ms_set (i := 3) sc__steps_back.nd rfl (.inl rfl) (me_lst ma_nil))
    (mb_cons (ms_set (i := 4) sc__steps_back.nd rfl (.inl rfl) (me_var 2))
    (mb_cons (ms_while po (mt_cmp (op_neD hr.units) os_ne (me_var 4) (me_var 1) (nomark _))
      (mb_cons (ms_asg (me_ix ix_seq os_ix (me_var 0) (me_var 4)) (mg_tup rfl (mgs_cons (mg_var sc__steps_back.nd rfl (.inl rfl)) (mgs_cons (mg_var sc__steps_back.nd rfl (.inl rfl)) mgs_nil))))
    (mb_one (ms_expr (me_meth PySem.F.plainAttrs_list PySem.F.slot_list_append PySem.F.type_list_append mt_append ms_append (me_var 3) (ma_cons (me_var 5) ma_nil))))))
    (mb_one (ms_ret (me_callTy call_tuple_of cs_tuple T.b_tuple (ma_cons (me_rev (me_var 3)) ma_nil)))))))
theorem w_way (T : Txt K mg) : FnOk P w K mg base (L2.CX P w) 3 T.f_way T.fd_way ["perms", "points", "start", "goal"] (spF K mg 4 c_way) := by
  refine fn_ok (n := 14) (m := m_way) T.d_way.fn sc_way rfl rfl fun cdv A outer s H E hr => ?_
  have tk : Takes (cxOf (L2.CX P w) P w K mg base N_way "way" (defScope s_way) T.f_way cdv A outer s H E) (fun cls d _ H => E cls d H) := takes_of rfl rfl rfl rfl
  have po := passes_of (X := cxOf (L2.CX P w) P w K mg base N_way "way" (defScope s_way) T.f_way cdv A outer s H E) rfl
  exact (mb_cons (ms_setLc2 (i := 4) rfl sc_way.nd rfl rfl (sw_true rfl rfl rfl (by decide +kernel)) (mi_range1 T.b_range (ma_cons (me_callB cl_len cs_lenAll T.b_len (ma_cons (me_var 0) ma_nil)) ma_nil)) (blkOk_by (own := [("k", 5), ("sign", 6)]) (by show blkC N_way (defScope s_way) _ _ = true; decide +kernel)) (vs1 := [6]) (by decide) (fun _ _ _ _ _ => (mgc_var sc_way.nd rfl (.inl rfl) (by decide))) (fun _ _ _ _ _ => mts_nil) (fun _ _ _ _ _ => (mi_val (me_tup (ma_cons me_int (ma_cons (me_un un_neg us_neg me_int) ma_nil))))) (fun _ _ _ _ _ => (mgc_var sc_way.nd rfl (.inl rfl) (by decide))) (fun _ _ _ _ _ => mts_nil) (fun _ _ _ _ _ => (me_tup (ma_cons (me_tup (ma_cons (me_var 5) (ma_cons (me_var 6) ma_nil))) (ma_cons (me_call (w_step_perm T) (hr.mono (by decide)) T.d_step_perm.mgf T.d_step_perm.fn.kp T.d_step_perm.bd takes0 (ma_cons (me_var 0) (ma_cons (me_var 5) (ma_cons (me_var 6) ma_nil)))) ma_nil)))))
    (mb_cons (ms_set (i := 7) sc_way.nd rfl (.inl rfl) (me_op op_mulAll os_mul (me_lst (ma_cons me_non ma_nil)) (me_var 1)))
    (mb_cons (ms_asg (me_tup (ma_cons (me_var 2) (ma_cons me_non ma_nil))) (mg_sub set_list ss_list (me_var 7) (me_var 2)))
    (mb_cons (ms_set (i := 8) sc_way.nd rfl (.inl rfl) (me_lst (ma_cons (me_var 2) ma_nil)))
    (mb_cons (ms_set (i := 9) sc_way.nd rfl (.inl rfl) me_int)
    (mb_cons (ms_while po (MW.mt (mw_and (mt_cmp (op_ltAll hr.units0) os_lt (me_var 9) (me_callB cl_len cs_lenAll T.b_len (ma_cons (me_var 8) ma_nil)) (nomark _)) (mw_and1 (mt_cmp op_isN os_is (me_ix ix_seq os_ix (me_var 7) (me_var 3)) me_non (nomark _)))))
      (mb_cons (ms_set (i := 10) sc_way.nd rfl (.inl rfl) (me_ix ix_seq os_ix (me_var 8) (me_var 9)))
    (mb_cons (ms_for po rfl (mi_val (me_var 4)) (mg_tup rfl (mgs_cons (mg_var sc_way.nd rfl (.inl rfl)) (mgs_cons (mg_var sc_way.nd rfl (.inl rfl)) mgs_nil)))
      (mb_cons (ms_set (i := 13) sc_way.nd rfl (.inl rfl) (me_ix ix_seq os_ix (me_var 12) (me_var 10)))
    (mb_one (ms_if (mt_cmp op_isN os_is (me_ix ix_seq os_ix (me_var 7) (me_var 13)) me_non (nomark _))
      (mb_cons (ms_asg (me_tup (ma_cons (me_var 10) (ma_cons (me_var 11) ma_nil))) (mg_sub set_list ss_list (me_var 7) (me_var 13)))
    (mb_one (ms_expr (me_meth PySem.F.plainAttrs_list PySem.F.slot_list_append PySem.F.type_list_append mt_append ms_append (me_var 8) (ma_cons (me_var 13) ma_nil)))))
      mb_nil))))
    (mb_one (ms_set (i := 9) sc_way.nd rfl (.inl rfl) (me_op op_addAll os_add (me_var 9) me_int))))))
    (mb_cons (ms_if (mt_cmp op_isN os_is (me_ix ix_seq os_ix (me_var 7) (me_var 3)) me_non (nomark _))
      (mb_one (ms_ret me_non))
      mb_nil)
    (mb_one (ms_ret (me_call (w__steps_back T) (hr.mono (by decide)) T.d__steps_back.mgf T.d__steps_back.fn.kp T.d__steps_back.bd tk (ma_cons (me_var 7) (ma_cons (me_var 2) (ma_cons (me_var 3) ma_nil)))))))))))))
theorem w__law_cell (T : Txt K mg) : FnOk P w K mg base (L2.CX P w) 1 T.f__law_cell T.fd__law_cell ["script", "k"] (spF K mg 2 c__law_cell) := by
  refine fn_ok (n := 3) (m := m__law_cell) T.d__law_cell.fn sc__law_cell rfl rfl fun cdv A outer s H E hr => ?_
  have tk : Takes (cxOf (L2.CX P w) P w K mg base N__law_cell "_law_cell" (defScope s__law_cell) T.f__law_cell cdv A outer s H E) (fun cls d _ H => E cls d H) := takes_of rfl rfl rfl rfl
  have po := passes_of (X := cxOf (L2.CX P w) P w K mg base N__law_cell "_law_cell" (defScope s__law_cell) T.f__law_cell cdv A outer s H E) rfl
  exact (mb_cons (ms_set (i := 2) sc__law_cell.nd rfl (.inl rfl) (me_slice (me_var 0) mo_none (mo_some me_int)))
    (mb_cons (ms_if (mt_cmp (op_ltAll hr.units0) os_lt (me_var 1) (me_callB cl_len cs_lenAll T.b_len (ma_cons (me_var 2) ma_nil)) (nomark _))
      (mb_one (ms_ret (me_op op_mod os_mod (me_callTy call_int1 cs_int T.b_int (ma_cons (me_ix ix_seq os_ix (me_var 2) (me_var 1)) ma_nil)) (me_op op_pow os_pow me_int me_int))))
      mb_nil)
    (mb_one (ms_ret (me_op op_mod os_mod (me_callTy call_int1 cs_int T.b_int (ma_cons (me_op op_addAll os_add (me_op op_mulAll os_mul (me_op op_mod os_mod (me_callTy call_int1 cs_int T.b_int (ma_cons (me_callB (cr_sum rfl) cs_sum T.b_sum (ma_cons (me_var 2) ma_nil)) ma_nil)) me_int) me_int) (me_op op_mulAll os_mul me_int (me_var 1))) ma_nil)) (me_op op_pow os_pow me_int me_int))))))
theorem w__law_bag (T : Txt K mg) : FnOk P w K mg base (L2.CX P w) 2 T.f__law_bag T.fd__law_bag ["script", "k"] (spF K mg 2 c__law_bag) := by
  refine fn_ok (n := 3) (m := m__law_bag) T.d__law_bag.fn sc__law_bag rfl rfl fun cdv A outer s H E hr => ?_
  have tk : Takes (cxOf (L2.CX P w) P w K mg base N__law_bag "_law_bag" (defScope s__law_bag) T.f__law_bag cdv A outer s H E) (fun cls d _ H => E cls d H) := takes_of rfl rfl rfl rfl
  have po := passes_of (X := cxOf (L2.CX P w) P w K mg base N__law_bag "_law_bag" (defScope s__law_bag) T.f__law_bag cdv A outer s H E) rfl
  exact (mb_cons (ms_set (i := 2) sc__law_bag.nd rfl (.inl rfl) (me_call (w__law_cell T) (hr.mono (by decide)) T.d__law_cell.mgf T.d__law_cell.fn.kp T.d__law_cell.bd tk (ma_cons (me_var 0) (ma_cons (me_var 1) ma_nil))))
    (mb_one (ms_ret (me_lst (ma_cons (me_var 2) (ma_cons (me_var 2) (ma_cons (me_op op_mulAll os_mul me_int (me_var 1)) ma_nil)))))))
theorem w__law_take (T : Txt K mg) : FnOk P w K mg base (L2.CX P w) 1 T.f__law_take T.fd__law_take ["bag", "size"] (spF K mg 2 c__law_take) := by
  refine fn_ok (n := 4) (m := m__law_take) T.d__law_take.fn sc__law_take rfl rfl fun cdv A outer s H E hr => ?_
  have tk : Takes (cxOf (L2.CX P w) P w K mg base N__law_take "_law_take" (defScope s__law_take) T.f__law_take cdv A outer s H E) (fun cls d _ H => E cls d H) := takes_of rfl rfl rfl rfl
  have po := passes_of (X := cxOf (L2.CX P w) P w K mg base N__law_take "_law_take" (defScope s__law_take) T.f__law_take cdv A outer s H E) rfl
  exact (mb_cons (ms_asg (me_op op_addAll os_add (me_ix ix_seq os_ix (me_var 0) me_int) me_int) (mg_sub set_list ss_list (me_var 0) me_int))
    (mb_cons (ms_if (MW.mt (mw_and (mt_cmp op_ge os_ge (me_ix ix_seq os_ix (me_var 0) me_int) (me_op op_pow os_pow me_int me_int) (nomark _)) (mw_and1 (mt_cmp op_gt os_gt (me_ix ix_seq os_ix (me_var 0) me_int) me_int (nomark _)))))
      (mb_cons (ms_set (i := 2) sc__law_take.nd rfl (.inl rfl) (me_op op_mod os_mod (me_callTy call_int1 cs_int T.b_int (ma_cons (me_ix ix_seq os_ix (me_var 0) me_int) ma_nil)) (me_var 1)))
    (mb_cons (ms_asg (me_op op_fdivW os_div (me_ix ix_seq os_ix (me_var 0) me_int) (me_var 1)) (mg_sub set_list ss_list (me_var 0) me_int))
    (mb_one (ms_ret (me_var 2)))))
      mb_nil)
    (mb_cons (ms_set (i := 3) sc__law_take.nd rfl (.inl rfl) (me_op op_mod os_mod (me_callTy call_int1 cs_int T.b_int (ma_cons (me_op op_mulAll os_mul (me_op op_addAll os_add (me_ix ix_seq os_ix (me_var 0) me_int) (me_op op_mulAll os_mul me_int (me_ix ix_seq os_ix (me_var 0) me_int))) me_int) ma_nil)) me_int))
    (mb_cons (ms_set (i := 3) sc__law_take.nd rfl (.inl rfl) (me_op op_mod os_mod (me_callTy call_int1 cs_int T.b_int (ma_cons (me_op op_mulAll os_mul (me_op op_addAll os_add (me_op op_fdivW os_div (me_var 3) me_int) (me_op op_mulAll os_mul me_int (me_ix ix_seq os_ix (me_var 0) me_int))) me_int) ma_nil)) me_int))
    (mb_one (ms_ret (me_op op_mod os_mod (me_callTy call_int1 cs_int T.b_int (ma_cons (me_op op_fdivW os_div (me_var 3) me_int) ma_nil)) (me_var 1))))))))
theorem w__law_shuffled (T : Txt K mg) : FnOk P w K mg base (L2.CX P w) 2 T.f__law_shuffled T.fd__law_shuffled ["bag", "many"] (spF K mg 2 c__law_shuffled) := by
  refine fn_ok (n := 6) (m := m__law_shuffled) T.d__law_shuffled.fn sc__law_shuffled rfl rfl fun cdv A outer s H E hr => ?_
  have tk : Takes (cxOf (L2.CX P w) P w K mg base N__law_shuffled "_law_shuffled" (defScope s__law_shuffled) T.f__law_shuffled cdv A outer s H E) (fun cls d _ H => E cls d H) := takes_of rfl rfl rfl rfl
  have po := passes_of (X := cxOf (L2.CX P w) P w K mg base N__law_shuffled "_law_shuffled" (defScope s__law_shuffled) T.f__law_shuffled cdv A outer s H E) rfl
  exact (mb_cons (ms_set (i := 2) sc__law_shuffled.nd rfl (.inl rfl) (me_listRg1 rfl T.b_list T.b_range (me_var 1)))
    (mb_cons (ms_for po rfl (mi_range1 T.b_range (ma_cons (me_op op_sub os_sub (me_var 1) me_int) ma_nil)) (mg_var sc__law_shuffled.nd rfl (.inl rfl))
      (mb_cons (ms_set (i := 4) sc__law_shuffled.nd rfl (.inl rfl) (me_op op_addAll os_add (me_var 3) (me_call (w__law_take T) (hr.mono (by decide)) T.d__law_take.mgf T.d__law_take.fn.kp T.d__law_take.bd tk (ma_cons (me_var 0) (ma_cons (me_op op_sub os_sub (me_var 1) (me_var 3)) ma_nil)))))
    (mb_cons (ms_set (i := 5) sc__law_shuffled.nd rfl (.inl rfl) (me_ix ix_seq os_ix (me_var 2) (me_var 3)))
    (mb_cons (ms_asg (me_ix ix_seq os_ix (me_var 2) (me_var 4)) (mg_sub set_list ss_list (me_var 2) (me_var 3)))
    (mb_one (ms_asg (me_var 5) (mg_sub set_list ss_list (me_var 2) (me_var 4))))))))
    (mb_one (ms_ret (me_var 2)))))
theorem w__law_perm (T : Txt K mg) : FnOk P w K mg base (L2.CX P w) 3 T.f__law_perm T.fd__law_perm ["bag", "points"] (spF K mg 2 c__law_perm) := by
  refine fn_ok (n := 11) (m := m__law_perm) T.d__law_perm.fn sc__law_perm rfl rfl fun cdv A outer s H E hr => ?_
  have tk : Takes (cxOf (L2.CX P w) P w K mg base N__law_perm "_law_perm" (defScope s__law_perm) T.f__law_perm cdv A outer s H E) (fun cls d _ H => E cls d H) := takes_of rfl rfl rfl rfl
  have po := passes_of (X := cxOf (L2.CX P w) P w K mg base N__law_perm "_law_perm" (defScope s__law_perm) T.f__law_perm cdv A outer s H E) rfl
  exact (mb_cons (ms_set (i := 2) sc__law_perm.nd rfl (.inl rfl) (me_call (w__law_take T) (hr.mono (by decide)) T.d__law_take.mgf T.d__law_take.fn.kp T.d__law_take.bd tk (ma_cons (me_var 0) (ma_cons me_int ma_nil))))
    (mb_cons (ms_set (i := 3) sc__law_perm.nd rfl (.inl rfl) (me_call (w__law_shuffled T) (hr.mono (by decide)) T.d__law_shuffled.mgf T.d__law_shuffled.fn.kp T.d__law_shuffled.bd tk (ma_cons (me_var 0) (ma_cons (me_var 1) ma_nil))))
    (mb_cons (ms_if (mt_cmp (op_eqD hr.units) os_eq (me_var 2) me_int (nomark _))
      (mb_one (ms_ret (me_callTy call_tuple_of cs_tuple T.b_tuple (ma_cons (me_var 3) ma_nil))))
      mb_nil)
    (mb_cons (ms_set (i := 4) sc__law_perm.nd rfl (.inl rfl) (me_listRg1 rfl T.b_list T.b_range (me_var 1)))
    (mb_cons (ms_if (mt_cmp (op_eqD hr.units) os_eq (me_var 2) me_int (nomark _))
      (mb_cons (ms_set (i := 5) sc__law_perm.nd rfl (.inl rfl) (me_slice (me_var 3) mo_none (mo_some (me_op op_addAll os_add me_int (me_call (w__law_take T) (hr.mono (by decide)) T.d__law_take.mgf T.d__law_take.fn.kp T.d__law_take.bd tk (ma_cons (me_var 0) (ma_cons (me_callB (call_min2 rfl) cs_min2 T.b_min (ma_cons me_int (ma_cons (me_var 1) ma_nil))) ma_nil)))))))
    (mb_cons (ms_for po rfl (mi_range1 T.b_range (ma_cons (me_callB cl_len cs_lenAll T.b_len (ma_cons (me_var 5) ma_nil)) ma_nil)) (mg_var sc__law_perm.nd rfl (.inl rfl))
      (mb_one (ms_asg (me_ix ix_seq os_ix (me_var 5) (me_op op_mod os_mod (me_callTy call_int1 cs_int T.b_int (ma_cons (me_op op_addAll os_add (me_var 6) me_int) ma_nil)) (me_callB cl_len cs_lenAll T.b_len (ma_cons (me_var 5) ma_nil)))) (mg_sub set_list ss_list (me_var 4) (me_ix ix_seq os_ix (me_var 5) (me_var 6))))))
    (mb_one (ms_ret (me_callTy call_tuple_of cs_tuple T.b_tuple (ma_cons (me_var 4) ma_nil))))))
      mb_nil)
    (mb_cons (ms_set (i := 7) sc__law_perm.nd rfl (.inr rfl) (me_call (w__law_take T) (hr.mono (by decide)) T.d__law_take.mgf T.d__law_take.fn.kp T.d__law_take.bd tk (ma_cons (me_var 0) (ma_cons (me_var 1) ma_nil))))
    (mb_cons (ms_set (i := 8) sc__law_perm.nd rfl (.inr rfl) (me_op op_addAll os_add me_int (me_call (w__law_take T) (hr.mono (by decide)) T.d__law_take.mgf T.d__law_take.fn.kp T.d__law_take.bd tk (ma_cons (me_var 0) (ma_cons (me_op op_sub os_sub (me_var 1) (me_var 7)) ma_nil)))))
    (mb_cons (ms_setLc (i := 9) rfl sc__law_perm.nd rfl rfl (sw_true rfl rfl rfl (by decide +kernel)) (mi_val (me_var 3)) (blkOk_by (own := [("x", 10)]) (by show blkC N__law_perm (defScope s__law_perm) _ _ = true; decide +kernel)) (fun _ _ _ _ _ => (mgc_var sc__law_perm.nd rfl (.inl rfl) (by decide))) (fun _ _ _ _ _ => (mts_one (mt_chain op_leAll os_le (op_ltAll hr.units0) os_lt (me_var 7) (me_var 10) (me_op op_addAll os_add (me_var 7) (me_var 8))))) (fun _ _ _ _ _ => (me_var 10)))
    (mb_cons (ms_for po rfl (mi_range1 T.b_range (ma_cons (me_var 8) ma_nil)) (mg_var sc__law_perm.nd rfl (.inl rfl))
      (mb_cons (ms_asg (me_op op_addAll os_add (me_var 7) (me_op op_mod os_mod (me_callTy call_int1 cs_int T.b_int (ma_cons (me_op op_addAll os_add (me_var 6) me_int) ma_nil)) (me_var 8))) (mg_sub set_list ss_list (me_var 4) (me_op op_addAll os_add (me_var 7) (me_var 6))))
    (mb_one (ms_if (mt_cmp (op_eqD hr.units) os_eq (me_var 2) me_int (nomark _))
      (mb_one (ms_asg (me_ix ix_seq os_ix (me_var 9) (me_var 6)) (mg_sub set_list ss_list (me_var 4) (me_op op_addAll os_add (me_var 7) (me_var 6)))))
      mb_nil))))
    (mb_one (ms_ret (me_callTy call_tuple_of cs_tuple T.b_tuple (ma_cons (me_var 4) ma_nil)))))))))))))
theorem w__law_is_whole (T : Txt K mg) : FnOk P w K mg base (L2.CX P w) 1 T.f__law_is_whole T.fd__law_is_whole ["value"] (spF K mg 1 c__law_is_whole) := by
  refine fn_ok (n := 1) (m := m__law_is_whole) T.d__law_is_whole.fn sc__law_is_whole rfl rfl fun cdv A outer s H E hr => ?_
  have tk : Takes (cxOf (L2.CX P w) P w K mg base N__law_is_whole "_law_is_whole" (defScope s__law_is_whole) T.f__law_is_whole cdv A outer s H E) (fun cls d _ H => E cls d H) := takes_of rfl rfl rfl rfl
  have po := passes_of (X := cxOf (L2.CX P w) P w K mg base N__law_is_whole "_law_is_whole" (defScope s__law_is_whole) T.f__law_is_whole cdv A outer s H E) rfl
  exact (mb_one (ms_ret (me_and (me_callB call_isi cs_isi T.b_isinstance (ma_cons (me_var 0) (ma_cons (me_ty T.b_int) ma_nil))) (me_one (me_not (me_callB call_isi cs_isi T.b_isinstance (ma_cons (me_var 0) (ma_cons (me_ty T.b_bool) ma_nil))))))))
theorem w__law_is_truth (T : Txt K mg) : FnOk P w K mg base (L2.CX P w) 1 T.f__law_is_truth T.fd__law_is_truth ["actual", "due"] (spF K mg 2 c__law_is_truth) := by
  refine fn_ok (n := 2) (m := m__law_is_truth) T.d__law_is_truth.fn sc__law_is_truth rfl rfl fun cdv A outer s H E hr => ?_
  have tk : Takes (cxOf (L2.CX P w) P w K mg base N__law_is_truth "_law_is_truth" (defScope s__law_is_truth) T.f__law_is_truth cdv A outer s H E) (fun cls d _ H => E cls d H) := takes_of rfl rfl rfl rfl
  have po := passes_of (X := cxOf (L2.CX P w) P w K mg base N__law_is_truth "_law_is_truth" (defScope s__law_is_truth) T.f__law_is_truth cdv A outer s H E) rfl
  exact (mb_one (ms_ret (me_and (me_callB call_isi cs_isi T.b_isinstance (ma_cons (me_var 0) (ma_cons (me_ty T.b_bool) ma_nil))) (me_one (me_cmp (op_eqD hr.units) os_eq (me_var 0) (me_var 1) (nomark _))))))
theorem w__law_is_row (T : Txt K mg) : FnOk P w K mg base (L2.CX P w) 2 T.f__law_is_row T.fd__law_is_row ["actual", "due"] (spF K mg 2 c__law_is_row) := by
  refine fn_ok (n := 3) (m := m__law_is_row) T.d__law_is_row.fn sc__law_is_row rfl rfl fun cdv A outer s H E hr => ?_
  have tk : Takes (cxOf (L2.CX P w) P w K mg base N__law_is_row "_law_is_row" (defScope s__law_is_row) T.f__law_is_row cdv A outer s H E) (fun cls d _ H => E cls d H) := takes_of rfl rfl rfl rfl
  have po := passes_of (X := cxOf (L2.CX P w) P w K mg base N__law_is_row "_law_is_row" (defScope s__law_is_row) T.f__law_is_row cdv A outer s H E) rfl
  exact (mb_cons (ms_if (MW.mt (mw_or (mt_not (mt_truth ts_truth (me_callB call_isi cs_isi T.b_isinstance (ma_cons (me_var 0) (ma_cons (me_ty T.b_tuple) ma_nil))))) (mw_or1 (mt_cmp (op_neD hr.units) os_ne (me_callB cl_len cs_lenAll T.b_len (ma_cons (me_var 0) ma_nil)) (me_callB cl_len cs_lenAll T.b_len (ma_cons (me_var 1) ma_nil)) (nomark _)))))
      (mb_one (ms_ret me_bl))
      mb_nil)
    (mb_cons (ms_for po rfl (mi_range1 T.b_range (ma_cons (me_callB cl_len cs_lenAll T.b_len (ma_cons (me_var 1) ma_nil)) ma_nil)) (mg_var sc__law_is_row.nd rfl (.inl rfl))
      (mb_one (ms_if (MW.mt (mw_or (mt_not (mt_truth ts_truth (me_call (w__law_is_whole T) (hr.mono (by decide)) T.d__law_is_whole.mgf T.d__law_is_whole.fn.kp T.d__law_is_whole.bd tk (ma_cons (me_ix ix_seq os_ix (me_var 0) (me_var 2)) ma_nil)))) (mw_or1 (mt_cmp (op_neD hr.units) os_ne (me_ix ix_seq os_ix (me_var 0) (me_var 2)) (me_ix ix_seq os_ix (me_var 1) (me_var 2)) (nomark _)))))
      (mb_one (ms_ret me_bl))
      mb_nil)))
    (mb_one (ms_ret me_bl))))
theorem w__law_is_rows (T : Txt K mg) : FnOk P w K mg base (L2.CX P w) 3 T.f__law_is_rows T.fd__law_is_rows ["actual", "due"] (spF K mg 2 c__law_is_rows) := by
  refine fn_ok (n := 3) (m := m__law_is_rows) T.d__law_is_rows.fn sc__law_is_rows rfl rfl fun cdv A outer s H E hr => ?_
  have tk : Takes (cxOf (L2.CX P w) P w K mg base N__law_is_rows "_law_is_rows" (defScope s__law_is_rows) T.f__law_is_rows cdv A outer s H E) (fun cls d _ H => E cls d H) := takes_of rfl rfl rfl rfl
  have po := passes_of (X := cxOf (L2.CX P w) P w K mg base N__law_is_rows "_law_is_rows" (defScope s__law_is_rows) T.f__law_is_rows cdv A outer s H E) rfl
  exact (mb_cons (ms_if (MW.mt (mw_or (mt_not (mt_truth ts_truth (me_callB call_isi cs_isi T.b_isinstance (ma_cons (me_var 0) (ma_cons (me_ty T.b_tuple) ma_nil))))) (mw_or1 (mt_cmp (op_neD hr.units) os_ne (me_callB cl_len cs_lenAll T.b_len (ma_cons (me_var 0) ma_nil)) (me_callB cl_len cs_lenAll T.b_len (ma_cons (me_var 1) ma_nil)) (nomark _)))))
      (mb_one (ms_ret me_bl))
      mb_nil)
    (mb_cons (ms_for po rfl (mi_range1 T.b_range (ma_cons (me_callB cl_len cs_lenAll T.b_len (ma_cons (me_var 1) ma_nil)) ma_nil)) (mg_var sc__law_is_rows.nd rfl (.inl rfl))
      (mb_one (ms_if (mt_not (mt_truth ts_truth (me_call (w__law_is_row T) (hr.mono (by decide)) T.d__law_is_row.mgf T.d__law_is_row.fn.kp T.d__law_is_row.bd tk (ma_cons (me_ix ix_seq os_ix (me_var 0) (me_var 2)) (ma_cons (me_ix ix_seq os_ix (me_var 1) (me_var 2)) ma_nil)))))
      (mb_one (ms_ret me_bl))
      mb_nil)))
    (mb_one (ms_ret me_bl))))
theorem w__law_merged (T : Txt K mg) : FnOk P w K mg base (L2.CX P w) 1 T.f__law_merged T.fd__law_merged ["row", "a", "b"] (spF K mg 3 c__law_merged) := by
  refine fn_ok (n := 6) (m := m__law_merged) T.d__law_merged.fn sc__law_merged rfl rfl fun cdv A outer s H E hr => ?_
  have tk : Takes (cxOf (L2.CX P w) P w K mg base N__law_merged "_law_merged" (defScope s__law_merged) T.f__law_merged cdv A outer s H E) (fun cls d _ H => E cls d H) := takes_of rfl rfl rfl rfl
  have po := passes_of (X := cxOf (L2.CX P w) P w K mg base N__law_merged "_law_merged" (defScope s__law_merged) T.f__law_merged cdv A outer s H E) rfl
  exact (mb_cons (ms_set (i := 3) sc__law_merged.nd rfl (.inr rfl) (me_callB (call_min2 rfl) cs_min2 T.b_min (ma_cons (me_ix ix_seq os_ix (me_var 0) (me_var 1)) (ma_cons (me_ix ix_seq os_ix (me_var 0) (me_var 2)) ma_nil))))
    (mb_cons (ms_set (i := 4) sc__law_merged.nd rfl (.inr rfl) (me_callB (call_max2 rfl) cs_max2 T.b_max (ma_cons (me_ix ix_seq os_ix (me_var 0) (me_var 1)) (ma_cons (me_ix ix_seq os_ix (me_var 0) (me_var 2)) ma_nil))))
    (mb_cons (ms_if (mt_cmp (op_eqD hr.units) os_eq (me_var 3) (me_var 4) (nomark _))
      (mb_one (ms_ret (me_var 0)))
      mb_nil)
    (mb_one (ms_ret (me_lc rfl sc__law_merged.nd (mi_val (me_var 0)) (blkOk_by (own := [("x", 5)]) (by show blkC N__law_merged (defScope s__law_merged) _ _ = true; decide +kernel)) (fun _ _ _ _ _ => (mgc_var sc__law_merged.nd rfl (.inl rfl) (by decide))) (fun _ _ _ _ _ => mts_nil) (fun _ _ _ _ _ => (me_if (mt_cmp (op_eqD hr.units) os_eq (me_var 5) (me_var 4) (nomark _)) (me_var 3) (me_var 5)))))))))
theorem w__law_together (T : Txt K mg) : FnOk P w K mg base (L2.CX P w) 2 T.f__law_together T.fd__law_together ["perms", "points"] (spF K mg 2 c__law_together) := by
  refine fn_ok (n := 5) (m := m__law_together) T.d__law_together.fn sc__law_together rfl rfl fun cdv A outer s H E hr => ?_
  have tk : Takes (cxOf (L2.CX P w) P w K mg base N__law_together "_law_together" (defScope s__law_together) T.f__law_together cdv A outer s H E) (fun cls d _ H => E cls d H) := takes_of rfl rfl rfl rfl
  have po := passes_of (X := cxOf (L2.CX P w) P w K mg base N__law_together "_law_together" (defScope s__law_together) T.f__law_together cdv A outer s H E) rfl
  exact (mb_cons (ms_set (i := 2) sc__law_together.nd rfl (.inl rfl) (me_listRg1 rfl T.b_list T.b_range (me_var 1)))
    (mb_cons (ms_for po rfl (mi_val (me_var 0)) (mg_var sc__law_together.nd rfl (.inl rfl))
      (mb_one (ms_for po rfl (mi_range1 T.b_range (ma_cons (me_var 1) ma_nil)) (mg_var sc__law_together.nd rfl (.inl rfl))
      (mb_one (ms_set (i := 2) sc__law_together.nd rfl (.inl rfl) (me_call (w__law_merged T) (hr.mono (by decide)) T.d__law_merged.mgf T.d__law_merged.fn.kp T.d__law_merged.bd tk (ma_cons (me_var 2) (ma_cons (me_var 4) (ma_cons (me_ix ix_seq os_ix (me_var 3) (me_var 4)) ma_nil)))))))))
    (mb_one (ms_ret (me_var 2)))))
theorem w__law_orbits (T : Txt K mg) : FnOk P w K mg base (L2.CX P w) 3 T.f__law_orbits T.fd__law_orbits ["perms", "points"] (spF K mg 2 c__law_orbits) := by
  refine fn_ok (n := 6) (m := m__law_orbits) T.d__law_orbits.fn sc__law_orbits rfl rfl fun cdv A outer s H E hr => ?_
  have tk : Takes (cxOf (L2.CX P w) P w K mg base N__law_orbits "_law_orbits" (defScope s__law_orbits) T.f__law_orbits cdv A outer s H E) (fun cls d _ H => E cls d H) := takes_of rfl rfl rfl rfl
  have po := passes_of (X := cxOf (L2.CX P w) P w K mg base N__law_orbits "_law_orbits" (defScope s__law_orbits) T.f__law_orbits cdv A outer s H E) rfl
  exact (mb_cons (ms_set (i := 2) sc__law_orbits.nd rfl (.inr rfl) (me_call (w__law_together T) (hr.mono (by decide)) T.d__law_together.mgf T.d__law_together.fn.kp T.d__law_together.bd tk (ma_cons (me_var 0) (ma_cons (me_var 1) ma_nil))))
    (mb_cons (ms_set (i := 3) sc__law_orbits.nd rfl (.inl rfl) (me_lst ma_nil))
    (mb_cons (ms_for po rfl (mi_range1 T.b_range (ma_cons (me_var 1) ma_nil)) (mg_var sc__law_orbits.nd rfl (.inr rfl))
      (mb_one (ms_if (mt_cmp (op_eqD hr.units) os_eq (me_ix ix_seq os_ix (me_var 2) (me_var 4)) (me_var 4) (nomark _))
      (mb_one (ms_expr (me_meth PySem.F.plainAttrs_list PySem.F.slot_list_append PySem.F.type_list_append mt_append ms_append (me_var 3) (ma_cons (me_callTy call_tuple_of cs_tuple T.b_tuple (ma_cons (me_lc rfl sc__law_orbits.nd (mi_range1 T.b_range (ma_cons (me_var 1) ma_nil)) (blkOk_by (own := [("k", 5)]) (by show blkC N__law_orbits (defScope s__law_orbits) _ _ = true; decide +kernel)) (fun _ _ _ _ _ => (mgc_var sc__law_orbits.nd rfl (.inl rfl) (by decide))) (fun _ _ _ _ _ => (mts_one (mt_cmp (op_eqD hr.units) os_eq (me_ix ix_seq os_ix (me_var 2) (me_var 5)) (me_var 4) (nomark _)))) (fun _ _ _ _ _ => (me_var 5))) ma_nil)) ma_nil))))
      mb_nil)))
    (mb_one (ms_ret (me_callTy call_tuple_of cs_tuple T.b_tuple (ma_cons (me_var 3) ma_nil)))))))
theorem w__law_moves (T : Txt K mg) : FnOk P w K mg base (L2.CX P w) 1 T.f__law_moves T.fd__law_moves ["perms", "points"] (spF K mg 2 c__law_moves) := by
  refine fn_ok (n := 6) (m := m__law_moves) T.d__law_moves.fn sc__law_moves rfl rfl fun cdv A outer s H E hr => ?_
  have tk : Takes (cxOf (L2.CX P w) P w K mg base N__law_moves "_law_moves" (defScope s__law_moves) T.f__law_moves cdv A outer s H E) (fun cls d _ H => E cls d H) := takes_of rfl rfl rfl rfl
  have po := passes_of (X := cxOf (L2.CX P w) P w K mg base N__law_moves "_law_moves" (defScope s__law_moves) T.f__law_moves cdv A outer s H E) rfl
  exact (mb_cons (ms_set (i := 2) sc__law_moves.nd rfl (.inl rfl) (me_lst ma_nil))
    (mb_cons (ms_for po rfl (mi_val (me_var 0)) (mg_var sc__law_moves.nd rfl (.inl rfl))
      (mb_cons (ms_set (i := 4) sc__law_moves.nd rfl (.inl rfl) (me_op op_mulAll os_mul (me_lst (ma_cons me_int ma_nil)) (me_var 1)))
    (mb_cons (ms_for po rfl (mi_range1 T.b_range (ma_cons (me_var 1) ma_nil)) (mg_var sc__law_moves.nd rfl (.inl rfl))
      (mb_one (ms_asg (me_var 5) (mg_sub set_list ss_list (me_var 4) (me_ix ix_seq os_ix (me_var 3) (me_var 5))))))
    (mb_cons (ms_expr (me_meth PySem.F.plainAttrs_list PySem.F.slot_list_append PySem.F.type_list_append mt_append ms_append (me_var 2) (ma_cons (me_callTy call_list_of cs_list T.b_list (ma_cons (me_var 3) ma_nil)) ma_nil)))
    (mb_one (ms_expr (me_meth PySem.F.plainAttrs_list PySem.F.slot_list_append PySem.F.type_list_append mt_append ms_append (me_var 2) (ma_cons (me_var 4) ma_nil))))))))
    (mb_one (ms_ret (me_var 2)))))
theorem w__law_firsts (T : Txt K mg) : FnOk P w K mg base (L2.CX P w) 2 T.f__law_firsts T.fd__law_firsts ["perms", "points", "source"] (spF K mg 3 c__law_firsts) := by
  refine fn_ok (n := 12) (m := m__law_firsts) T.d__law_firsts.fn sc__law_firsts rfl rfl fun cdv A outer s H E hr => ?_
  have tk : Takes (cxOf (L2.CX P w) P w K mg base N__law_firsts "_law_firsts" (defScope s__law_firsts) T.f__law_firsts cdv A outer s H E) (fun cls d _ H => E cls d H) := takes_of rfl rfl rfl rfl
  have po := passes_of (X := cxOf (L2.CX P w) P w K mg base N__law_firsts "_law_firsts" (defScope s__law_firsts) T.f__law_firsts cdv A outer s H E) rfl
  exact (mb_cons (ms_set (i := 3) sc__law_firsts.nd rfl (.inl rfl) (me_call (w__law_moves T) (hr.mono (by decide)) T.d__law_moves.mgf T.d__law_moves.fn.kp T.d__law_moves.bd tk (ma_cons (me_var 0) (ma_cons (me_var 1) ma_nil))))
    (mb_cons (ms_set (i := 4) sc__law_firsts.nd rfl (.inl rfl) (me_op op_mulAll os_mul (me_lst (ma_cons me_non ma_nil)) (me_var 1)))
    (mb_cons (ms_asg (me_tup ma_nil) (mg_sub set_list ss_list (me_var 4) (me_var 2)))
    (mb_cons (ms_set (i := 5) sc__law_firsts.nd rfl (.inl rfl) (me_lst (ma_cons (me_var 2) ma_nil)))
    (mb_cons (ms_for po rfl (mi_range1 T.b_range (ma_cons (me_var 1) ma_nil)) (mg_var sc__law_firsts.nd rfl (.inl rfl))
      (mb_cons (ms_set (i := 7) sc__law_firsts.nd rfl (.inl rfl) me_dict)
    (mb_cons (ms_for po rfl (mi_val (me_var 5)) (mg_var sc__law_firsts.nd rfl (.inl rfl))
      (mb_one (ms_for po rfl (mi_range1 T.b_range (ma_cons (me_callB cl_len cs_lenAll T.b_len (ma_cons (me_var 3) ma_nil)) ma_nil)) (mg_var sc__law_firsts.nd rfl (.inl rfl))
      (mb_cons (ms_set (i := 9) sc__law_firsts.nd rfl (.inl rfl) (me_ix ix_seq os_ix (me_ix ix_seq os_ix (me_var 3) (me_var 10)) (me_var 8)))
    (mb_cons (ms_set (i := 11) sc__law_firsts.nd rfl (.inl rfl) (me_op op_addAll os_add (me_ix ix_seq os_ix (me_var 4) (me_var 8)) (me_tup (ma_cons (me_var 10) ma_nil))))
    (mb_one (ms_if (MW.mt (mw_and (mt_cmp op_isN os_is (me_ix ix_seq os_ix (me_var 4) (me_var 9)) me_non (nomark _)) (mw_and1 (MW.mt (mw_or (mt_dnotin (hu_of hr) (me_var 9) (me_var 7)) (mw_or1 (mt_cmp (op_ltAll hr.units0) os_lt (me_var 11) (me_dget (hu_of hr) (me_var 7) (me_var 9)) (nomark _))))))))
      (mb_one (ms_asg (me_var 11) (mg_sub (set_dict (hu_of hr)) ss_dict (me_var 7) (me_var 9))))
      mb_nil)))))))
    (mb_cons (ms_set (i := 5) sc__law_firsts.nd rfl (.inl rfl) (me_callB (cr_sorted2 rfl) cs_sorted T.b_sorted (ma_cons (me_var 7) ma_nil)))
    (mb_one (ms_for po rfl (mi_val (me_var 5)) (mg_var sc__law_firsts.nd rfl (.inl rfl))
      (mb_one (ms_asg (me_dget (hu_of hr) (me_var 7) (me_var 9)) (mg_sub set_list ss_list (me_var 4) (me_var 9))))))))))
    (mb_one (ms_ret (me_var 4))))))))
theorem w__law_way_holds (T : Txt K mg) : FnOk P w K mg base (L2.CX P w) 4 T.f__law_way_holds T.fd__law_way_holds ["actual", "codes"] (spF K mg 2 c__law_way_holds) := by
  refine fn_ok (n := 4) (m := m__law_way_holds) T.d__law_way_holds.fn sc__law_way_holds rfl rfl fun cdv A outer s H E hr => ?_
  have tk : Takes (cxOf (L2.CX P w) P w K mg base N__law_way_holds "_law_way_holds" (defScope s__law_way_holds) T.f__law_way_holds cdv A outer s H E) (fun cls d _ H => E cls d H) := takes_of rfl rfl rfl rfl
  have po := passes_of (X := cxOf (L2.CX P w) P w K mg base N__law_way_holds "_law_way_holds" (defScope s__law_way_holds) T.f__law_way_holds cdv A outer s H E) rfl
  exact (mb_cons (ms_if (mt_cmp op_isN os_is (me_var 1) me_non (nomark _))
      (mb_one (ms_ret (me_cmp op_isN os_is (me_var 0) me_non (nomark _))))
      mb_nil)
    (mb_cons (ms_set (i := 2) sc__law_way_holds.nd rfl (.inl rfl) (me_lst ma_nil))
    (mb_cons (ms_for po rfl (mi_val (me_var 1)) (mg_var sc__law_way_holds.nd rfl (.inl rfl))
      (mb_one (ms_expr (me_meth PySem.F.plainAttrs_list PySem.F.slot_list_append PySem.F.type_list_append mt_append ms_append (me_var 2) (ma_cons (me_tup (ma_cons (me_op op_fdivW os_div (me_var 3) me_int) (ma_cons (me_op op_sub os_sub me_int (me_op op_mulAll os_mul me_int (me_op op_mod os_mod (me_callTy call_int1 cs_int T.b_int (ma_cons (me_var 3) ma_nil)) me_int))) ma_nil))) ma_nil)))))
    (mb_one (ms_ret (me_call (w__law_is_rows T) (hr.mono (by decide)) T.d__law_is_rows.mgf T.d__law_is_rows.fn.kp T.d__law_is_rows.bd tk (ma_cons (me_var 0) (ma_cons (me_var 2) ma_nil))))))))
theorem w__law_ways_hold (T : Txt K mg) : FnOk P w K mg base (L2.CX P w) 5 T.f__law_ways_hold T.fd__law_ways_hold ["perms", "points", "source", "named"] (spF K mg 4 c__law_ways_hold) := by
  refine fn_ok (n := 7) (m := m__law_ways_hold) T.d__law_ways_hold.fn sc__law_ways_hold rfl rfl fun cdv A outer s H E hr => ?_
  have tk : Takes (cxOf (L2.CX P w) P w K mg base N__law_ways_hold "_law_ways_hold" (defScope s__law_ways_hold) T.f__law_ways_hold cdv A outer s H E) (fun cls d _ H => E cls d H) := takes_of rfl rfl rfl rfl
  have po := passes_of (X := cxOf (L2.CX P w) P w K mg base N__law_ways_hold "_law_ways_hold" (defScope s__law_ways_hold) T.f__law_ways_hold cdv A outer s H E) rfl
  exact (mb_cons (ms_set (i := 4) sc__law_ways_hold.nd rfl (.inl rfl) (me_call (w__law_firsts T) (hr.mono (by decide)) T.d__law_firsts.mgf T.d__law_firsts.fn.kp T.d__law_firsts.bd tk (ma_cons (me_var 0) (ma_cons (me_var 1) (ma_cons (me_var 2) ma_nil)))))
    (mb_cons (ms_for po rfl (mi_range1 T.b_range (ma_cons (me_var 1) ma_nil)) (mg_var sc__law_ways_hold.nd rfl (.inl rfl))
      (mb_cons (ms_if (mt_truth ts_truth (me_var 3))
      (mb_one (ms_set (i := 6) sc__law_ways_hold.nd rfl (.inl rfl) (me_callK (pl := 4) (w_way T) (hr.mono (by decide)) T.d_way.mgf T.d_way.fn.kp T.kb_0 tk (ma_cons (me_var 0) (ma_cons (me_var 1) ma_nil)) (mk_cons (me_var 5) (mk_cons (me_var 2) mk_nil)) (by exact fun us ws h1 h2 => match us, ws, h1, h2 with | [_, _], [_, _], _, _ => rfl))))
      (mb_one (ms_set (i := 6) sc__law_ways_hold.nd rfl (.inl rfl) (me_call (w_way T) (hr.mono (by decide)) T.d_way.mgf T.d_way.fn.kp T.d_way.bd tk (ma_cons (me_var 0) (ma_cons (me_var 1) (ma_cons (me_var 2) (ma_cons (me_var 5) ma_nil))))))))
    (mb_one (ms_if (mt_not (mt_truth ts_truth (me_call (w__law_way_holds T) (hr.mono (by decide)) T.d__law_way_holds.mgf T.d__law_way_holds.fn.kp T.d__law_way_holds.bd tk (ma_cons (me_var 6) (ma_cons (me_ix ix_seq os_ix (me_var 4) (me_var 5)) ma_nil)))))
      (mb_one (ms_ret me_bl))
      mb_nil))))
    (mb_one (ms_ret me_bl))))
theorem w__law_orbits_hold (T : Txt K mg) : FnOk P w K mg base (L2.CX P w) 4 T.f__law_orbits_hold T.fd__law_orbits_hold ["perms", "points"] (spF K mg 2 c__law_orbits_hold) := by
  refine fn_ok (n := 5) (m := m__law_orbits_hold) T.d__law_orbits_hold.fn sc__law_orbits_hold rfl rfl fun cdv A outer s H E hr => ?_
  have tk : Takes (cxOf (L2.CX P w) P w K mg base N__law_orbits_hold "_law_orbits_hold" (defScope s__law_orbits_hold) T.f__law_orbits_hold cdv A outer s H E) (fun cls d _ H => E cls d H) := takes_of rfl rfl rfl rfl
  have po := passes_of (X := cxOf (L2.CX P w) P w K mg base N__law_orbits_hold "_law_orbits_hold" (defScope s__law_orbits_hold) T.f__law_orbits_hold cdv A outer s H E) rfl
  exact (mb_cons (ms_set (i := 2) sc__law_orbits_hold.nd rfl (.inl rfl) (me_call (w__law_orbits T) (hr.mono (by decide)) T.d__law_orbits.mgf T.d__law_orbits.fn.kp T.d__law_orbits.bd tk (ma_cons (me_var 0) (ma_cons (me_var 1) ma_nil))))
    (mb_cons (ms_if (mt_not (mt_truth ts_truth (me_call (w__law_is_rows T) (hr.mono (by decide)) T.d__law_is_rows.mgf T.d__law_is_rows.fn.kp T.d__law_is_rows.bd tk (ma_cons (me_call (w_orbits T) (hr.mono (by decide)) T.d_orbits.mgf T.d_orbits.fn.kp T.d_orbits.bd tk (ma_cons (me_var 0) (ma_cons (me_var 1) ma_nil))) (ma_cons (me_var 2) ma_nil)))))
      (mb_one (ms_ret me_bl))
      mb_nil)
    (mb_cons (ms_if (mt_not (mt_truth ts_truth (me_call (w__law_is_truth T) (hr.mono (by decide)) T.d__law_is_truth.mgf T.d__law_is_truth.fn.kp T.d__law_is_truth.bd tk (ma_cons (me_call (w_is_transitive T) (hr.mono (by decide)) T.d_is_transitive.mgf T.d_is_transitive.fn.kp T.d_is_transitive.bd tk (ma_cons (me_var 0) (ma_cons (me_var 1) ma_nil))) (ma_cons (me_cmp (op_eqD hr.units) os_eq (me_callB cl_len cs_lenAll T.b_len (ma_cons (me_var 2) ma_nil)) me_int (nomark _)) ma_nil)))))
      (mb_one (ms_ret me_bl))
      mb_nil)
    (mb_cons (ms_for po rfl (mi_val (me_var 2)) (mg_var sc__law_orbits_hold.nd rfl (.inl rfl))
      (mb_one (ms_for po rfl (mi_val (me_var 3)) (mg_var sc__law_orbits_hold.nd rfl (.inl rfl))
      (mb_one (ms_if (mt_not (mt_truth ts_truth (me_call (w__law_is_row T) (hr.mono (by decide)) T.d__law_is_row.mgf T.d__law_is_row.fn.kp T.d__law_is_row.bd tk (ma_cons (me_call (w_orbit T) (hr.mono (by decide)) T.d_orbit.mgf T.d_orbit.fn.kp T.d_orbit.bd tk (ma_cons (me_var 0) (ma_cons (me_var 1) (ma_cons (me_var 4) ma_nil)))) (ma_cons (me_var 3) ma_nil)))))
      (mb_one (ms_ret me_bl))
      mb_nil)))))
    (mb_one (ms_ret me_bl))))))
theorem w_law (T : Txt K mg) : FnOk P w K mg base (L2.CX P w) 6 T.f_law T.fd_law ["script"] (spF K mg 1 c_law) := by
  refine fn_ok (n := 7) (m := m_law) T.d_law.fn sc_law rfl rfl fun cdv A outer s H E hr => ?_
  have tk : Takes (cxOf (L2.CX P w) P w K mg base N_law "law" (defScope s_law) T.f_law cdv A outer s H E) (fun cls d _ H => E cls d H) := takes_of rfl rfl rfl rfl
  have po := passes_of (X := cxOf (L2.CX P w) P w K mg base N_law "law" (defScope s_law) T.f_law cdv A outer s H E) rfl
  exact (mb_cons (ms_set (i := 1) sc_law.nd rfl (.inl rfl) (me_call (w__law_bag T) (hr.mono (by decide)) T.d__law_bag.mgf T.d__law_bag.fn.kp T.d__law_bag.bd tk (ma_cons (me_var 0) (ma_cons me_int ma_nil))))
    (mb_cons (ms_set (i := 2) sc_law.nd rfl (.inr rfl) (me_op op_addAll os_add me_int (me_call (w__law_take T) (hr.mono (by decide)) T.d__law_take.mgf T.d__law_take.fn.kp T.d__law_take.bd tk (ma_cons (me_var 1) (ma_cons me_int ma_nil)))))
    (mb_cons (ms_if (mt_cmp (op_eqD hr.units) os_eq (me_call (w__law_take T) (hr.mono (by decide)) T.d__law_take.mgf T.d__law_take.fn.kp T.d__law_take.bd tk (ma_cons (me_var 1) (ma_cons me_int ma_nil))) me_int (nomark _))
      (mb_one (ms_set (i := 2) sc_law.nd rfl (.inr rfl) (me_op op_addAll os_add me_int (me_call (w__law_take T) (hr.mono (by decide)) T.d__law_take.mgf T.d__law_take.fn.kp T.d__law_take.bd tk (ma_cons (me_var 1) (ma_cons me_int ma_nil))))))
      mb_nil)
    (mb_cons (ms_set (i := 3) sc_law.nd rfl (.inl rfl) (me_call (w__law_take T) (hr.mono (by decide)) T.d__law_take.mgf T.d__law_take.fn.kp T.d__law_take.bd tk (ma_cons (me_var 1) (ma_cons me_int ma_nil))))
    (mb_cons (ms_if (mt_cmp (op_eqD hr.units) os_eq (me_call (w__law_take T) (hr.mono (by decide)) T.d__law_take.mgf T.d__law_take.fn.kp T.d__law_take.bd tk (ma_cons (me_var 1) (ma_cons me_int ma_nil))) me_int (nomark _))
      (mb_one (ms_set (i := 3) sc_law.nd rfl (.inl rfl) (me_op op_addAll os_add me_int (me_call (w__law_take T) (hr.mono (by decide)) T.d__law_take.mgf T.d__law_take.fn.kp T.d__law_take.bd tk (ma_cons (me_var 1) (ma_cons me_int ma_nil))))))
      mb_nil)
    (mb_cons (ms_set (i := 4) sc_law.nd rfl (.inr rfl) (me_callTy call_tuple_of cs_tuple T.b_tuple (ma_cons (me_lc rfl sc_law.nd (mi_range1 T.b_range (ma_cons (me_var 3) ma_nil)) (blkOk_by (own := [("k", 5)]) (by show blkC N_law (defScope s_law) _ _ = true; decide +kernel)) (fun _ _ _ _ _ => (mgc_var sc_law.nd rfl (.inl rfl) (by decide))) (fun _ _ _ _ _ => mts_nil) (fun _ _ _ _ _ => (me_call (w__law_perm T) (hr.mono (by decide)) T.d__law_perm.mgf T.d__law_perm.fn.kp T.d__law_perm.bd takes0 (ma_cons (me_call (w__law_bag T) (hr.mono (by decide)) T.d__law_bag.mgf T.d__law_bag.fn.kp T.d__law_bag.bd takes0 (ma_cons (me_var 0) (ma_cons (me_op op_addAll os_add me_int (me_var 5)) ma_nil))) (ma_cons (me_var 2) ma_nil))))) ma_nil)))
    (mb_cons (ms_if (mt_not (mt_truth ts_truth (me_call (w__law_orbits_hold T) (hr.mono (by decide)) T.d__law_orbits_hold.mgf T.d__law_orbits_hold.fn.kp T.d__law_orbits_hold.bd tk (ma_cons (me_var 4) (ma_cons (me_var 2) ma_nil)))))
      (mb_one (ms_ret me_bl))
      mb_nil)
    (mb_cons (ms_if (mt_not (mt_truth ts_truth (me_call (w__law_ways_hold T) (hr.mono (by decide)) T.d__law_ways_hold.mgf T.d__law_ways_hold.fn.kp T.d__law_ways_hold.bd tk (ma_cons (me_var 4) (ma_cons (me_var 2) (ma_cons (me_call (w__law_take T) (hr.mono (by decide)) T.d__law_take.mgf T.d__law_take.fn.kp T.d__law_take.bd tk (ma_cons (me_var 1) (ma_cons (me_var 2) ma_nil))) (ma_cons me_bl ma_nil)))))))
      (mb_one (ms_ret me_bl))
      mb_nil)
    (mb_cons (ms_if (mt_not (mt_truth ts_truth (me_call (w__law_orbits_hold T) (hr.mono (by decide)) T.d__law_orbits_hold.mgf T.d__law_orbits_hold.fn.kp T.d__law_orbits_hold.bd tk (ma_cons (me_slice (me_var 4) mo_none (mo_some (me_op op_fdivW os_div (me_var 3) me_int))) (ma_cons (me_var 2) ma_nil)))))
      (mb_one (ms_ret me_bl))
      mb_nil)
    (mb_cons (ms_if (mt_not (mt_truth ts_truth (me_call (w__law_ways_hold T) (hr.mono (by decide)) T.d__law_ways_hold.mgf T.d__law_ways_hold.fn.kp T.d__law_ways_hold.bd tk (ma_cons (me_var 4) (ma_cons (me_var 2) (ma_cons (me_call (w__law_take T) (hr.mono (by decide)) T.d__law_take.mgf T.d__law_take.fn.kp T.d__law_take.bd tk (ma_cons (me_var 1) (ma_cons (me_var 2) ma_nil))) (ma_cons me_bl ma_nil)))))))
      (mb_one (ms_ret me_bl))
      mb_nil)
    (mb_cons (ms_set (i := 6) sc_law.nd rfl (.inl rfl) (me_callTy call_tuple_of cs_tuple T.b_tuple (ma_cons (me_lc rfl sc_law.nd (mi_revRange1 T.b_reversed T.b_range (me_var 3)) (blkOk_by (own := [("k", 5)]) (by show blkC N_law (defScope s_law) _ _ = true; decide +kernel)) (fun _ _ _ _ _ => (mgc_var sc_law.nd rfl (.inl rfl) (by decide))) (fun _ _ _ _ _ => mts_nil) (fun _ _ _ _ _ => (me_ix ix_seq os_ix (me_var 4) (me_var 5)))) ma_nil)))
    (mb_one (ms_ret (me_call (w__law_orbits_hold T) (hr.mono (by decide)) T.d__law_orbits_hold.mgf T.d__law_orbits_hold.fn.kp T.d__law_orbits_hold.bd tk (ma_cons (me_var 6) (ma_cons (me_var 2) ma_nil))))))))))))))))
end
end Law

set_option maxHeartbeats 4000000
/-! printed by mk.py: what the top leaves, the end -/
namespace Law
open PySem PySem.Spec PyProof.Rows L2 Rf
theorem txt_mk {K : PySem.W.Frag} {mg : Str → Option Value} {h : Heap} (X : K.In h) (G : h.Ns mainGlobals mg)
  {od0 od1 od2 od3 od4 od5 od6 od7 od8 od9 od10 od11 od12 od13 od14 od15 od16 od17 od18 od19 od20 od21 od22 od23 od24 od25 : Option Addr}
  {an0 an1 an2 an3 an4 an5 an6 an7 an8 an9 an10 an11 an12 an13 an14 an15 an16 an17 an18 an19 an20 an21 an22 an23 an24 an25 : Option Addr}
  {sl0 sl1 sl2 sl3 sl4 sl5 sl6 sl7 sl8 sl9 sl10 sl11 sl12 sl13 sl14 sl15 sl16 sl17 sl18 sl19 sl20 sl21 sl22 sl23 sl24 sl25 : Array (Option Value)}
  {oc0 kV0 dc0 pm0 cd0 ct0 oc1 kV1 dc1 pm1 cd1 ct1 oc2 kV2 dc2 pm2 cd2 ct2 oc3 kV3 dc3 pm3 cd3 ct3 oc4 kV4 dc4 pm4 cd4 ct4 oc5 kV5 dc5 pm5 cd5 ct5 oc6 kV6 dc6 pm6 cd6 ct6 oc7 kV7 dc7 pm7 cd7 ct7 oc8 kV8 dc8 pm8 cd8 ct8 oc9 kV9 dc9 pm9 cd9 ct9 oc10 kV10 dc10 pm10 cd10 ct10 oc11 kV11 dc11 pm11 cd11 ct11 oc12 kV12 dc12 pm12 cd12 ct12 oc13 kV13 dc13 pm13 cd13 ct13 oc14 kV14 dc14 pm14 cd14 ct14 oc15 kV15 dc15 pm15 cd15 ct15 oc16 kV16 dc16 pm16 cd16 ct16 oc17 kV17 dc17 pm17 cd17 ct17 oc18 kV18 dc18 pm18 cd18 ct18 oc19 kV19 dc19 pm19 cd19 ct19 oc20 kV20 dc20 pm20 cd20 ct20 oc21 kV21 dc21 pm21 cd21 ct21 oc22 kV22 dc22 pm22 cd22 ct22 oc23 kV23 dc23 pm23 cd23 ct23 oc24 kV24 dc24 pm24 cd24 ct24 oc25 kV25 dc25 pm25 cd25 ct25 : Value}
  {f0 f1 f2 f3 f4 f5 f6 f7 f8 f9 f10 f11 f12 f13 f14 f15 f16 f17 f18 f19 f20 f21 f22 f23 f24 f25 : Addr}
  (a0 : PySem.W.nsIn K mainGlobals "inverse" = some (some (.ref f0))) (l0 : K.lookup f0 = some ⟨oc0, od0, .func (PySem.W.fnOf "inverse" "inverse" (defArgs s_inverse) (defBody s_inverse) (defScope s_inverse) .none kV0 dc0 pm0 an0 cd0 ct0), sl0⟩) (c0 : PySem.W.codeIn K cd0 "inverse" = true) (k0 : PySem.W.keepIn K (.ref f0) = true)
  (a1 : PySem.W.nsIn K mainGlobals "spread" = some (some (.ref f1))) (l1 : K.lookup f1 = some ⟨oc1, od1, .func (PySem.W.fnOf "spread" "spread" (defArgs s_spread) (defBody s_spread) (defScope s_spread) .none kV1 dc1 pm1 an1 cd1 ct1), sl1⟩) (c1 : PySem.W.codeIn K cd1 "spread" = true) (k1 : PySem.W.keepIn K (.ref f1) = true)
  (a2 : PySem.W.nsIn K mainGlobals "orbit" = some (some (.ref f2))) (l2 : K.lookup f2 = some ⟨oc2, od2, .func (PySem.W.fnOf "orbit" "orbit" (defArgs s_orbit) (defBody s_orbit) (defScope s_orbit) .none kV2 dc2 pm2 an2 cd2 ct2), sl2⟩) (c2 : PySem.W.codeIn K cd2 "orbit" = true) (k2 : PySem.W.keepIn K (.ref f2) = true)
  (a3 : PySem.W.nsIn K mainGlobals "orbits" = some (some (.ref f3))) (l3 : K.lookup f3 = some ⟨oc3, od3, .func (PySem.W.fnOf "orbits" "orbits" (defArgs s_orbits) (defBody s_orbits) (defScope s_orbits) .none kV3 dc3 pm3 an3 cd3 ct3), sl3⟩) (c3 : PySem.W.codeIn K cd3 "orbits" = true) (k3 : PySem.W.keepIn K (.ref f3) = true)
  (a4 : PySem.W.nsIn K mainGlobals "is_transitive" = some (some (.ref f4))) (l4 : K.lookup f4 = some ⟨oc4, od4, .func (PySem.W.fnOf "is_transitive" "is_transitive" (defArgs s_is_transitive) (defBody s_is_transitive) (defScope s_is_transitive) .none kV4 dc4 pm4 an4 cd4 ct4), sl4⟩) (c4 : PySem.W.codeIn K cd4 "is_transitive" = true) (k4 : PySem.W.keepIn K (.ref f4) = true)
  (a5 : PySem.W.nsIn K mainGlobals "step_perm" = some (some (.ref f5))) (l5 : K.lookup f5 = some ⟨oc5, od5, .func (PySem.W.fnOf "step_perm" "step_perm" (defArgs s_step_perm) (defBody s_step_perm) (defScope s_step_perm) .none kV5 dc5 pm5 an5 cd5 ct5), sl5⟩) (c5 : PySem.W.codeIn K cd5 "step_perm" = true) (k5 : PySem.W.keepIn K (.ref f5) = true)
  (a6 : PySem.W.nsIn K mainGlobals "_steps_back" = some (some (.ref f6))) (l6 : K.lookup f6 = some ⟨oc6, od6, .func (PySem.W.fnOf "_steps_back" "_steps_back" (defArgs s__steps_back) (defBody s__steps_back) (defScope s__steps_back) .none kV6 dc6 pm6 an6 cd6 ct6), sl6⟩) (c6 : PySem.W.codeIn K cd6 "_steps_back" = true) (k6 : PySem.W.keepIn K (.ref f6) = true)
  (a7 : PySem.W.nsIn K mainGlobals "way" = some (some (.ref f7))) (l7 : K.lookup f7 = some ⟨oc7, od7, .func (PySem.W.fnOf "way" "way" (defArgs s_way) (defBody s_way) (defScope s_way) .none kV7 dc7 pm7 an7 cd7 ct7), sl7⟩) (c7 : PySem.W.codeIn K cd7 "way" = true) (k7 : PySem.W.keepIn K (.ref f7) = true)
  (a8 : PySem.W.nsIn K mainGlobals "_law_cell" = some (some (.ref f8))) (l8 : K.lookup f8 = some ⟨oc8, od8, .func (PySem.W.fnOf "_law_cell" "_law_cell" (defArgs s__law_cell) (defBody s__law_cell) (defScope s__law_cell) .none kV8 dc8 pm8 an8 cd8 ct8), sl8⟩) (c8 : PySem.W.codeIn K cd8 "_law_cell" = true) (k8 : PySem.W.keepIn K (.ref f8) = true)
  (a9 : PySem.W.nsIn K mainGlobals "_law_bag" = some (some (.ref f9))) (l9 : K.lookup f9 = some ⟨oc9, od9, .func (PySem.W.fnOf "_law_bag" "_law_bag" (defArgs s__law_bag) (defBody s__law_bag) (defScope s__law_bag) .none kV9 dc9 pm9 an9 cd9 ct9), sl9⟩) (c9 : PySem.W.codeIn K cd9 "_law_bag" = true) (k9 : PySem.W.keepIn K (.ref f9) = true)
  (a10 : PySem.W.nsIn K mainGlobals "_law_take" = some (some (.ref f10))) (l10 : K.lookup f10 = some ⟨oc10, od10, .func (PySem.W.fnOf "_law_take" "_law_take" (defArgs s__law_take) (defBody s__law_take) (defScope s__law_take) .none kV10 dc10 pm10 an10 cd10 ct10), sl10⟩) (c10 : PySem.W.codeIn K cd10 "_law_take" = true) (k10 : PySem.W.keepIn K (.ref f10) = true)
  (a11 : PySem.W.nsIn K mainGlobals "_law_shuffled" = some (some (.ref f11))) (l11 : K.lookup f11 = some ⟨oc11, od11, .func (PySem.W.fnOf "_law_shuffled" "_law_shuffled" (defArgs s__law_shuffled) (defBody s__law_shuffled) (defScope s__law_shuffled) .none kV11 dc11 pm11 an11 cd11 ct11), sl11⟩) (c11 : PySem.W.codeIn K cd11 "_law_shuffled" = true) (k11 : PySem.W.keepIn K (.ref f11) = true)
  (a12 : PySem.W.nsIn K mainGlobals "_law_perm" = some (some (.ref f12))) (l12 : K.lookup f12 = some ⟨oc12, od12, .func (PySem.W.fnOf "_law_perm" "_law_perm" (defArgs s__law_perm) (defBody s__law_perm) (defScope s__law_perm) .none kV12 dc12 pm12 an12 cd12 ct12), sl12⟩) (c12 : PySem.W.codeIn K cd12 "_law_perm" = true) (k12 : PySem.W.keepIn K (.ref f12) = true)
  (a13 : PySem.W.nsIn K mainGlobals "_law_is_whole" = some (some (.ref f13))) (l13 : K.lookup f13 = some ⟨oc13, od13, .func (PySem.W.fnOf "_law_is_whole" "_law_is_whole" (defArgs s__law_is_whole) (defBody s__law_is_whole) (defScope s__law_is_whole) .none kV13 dc13 pm13 an13 cd13 ct13), sl13⟩) (c13 : PySem.W.codeIn K cd13 "_law_is_whole" = true) (k13 : PySem.W.keepIn K (.ref f13) = true)
  (a14 : PySem.W.nsIn K mainGlobals "_law_is_truth" = some (some (.ref f14))) (l14 : K.lookup f14 = some ⟨oc14, od14, .func (PySem.W.fnOf "_law_is_truth" "_law_is_truth" (defArgs s__law_is_truth) (defBody s__law_is_truth) (defScope s__law_is_truth) .none kV14 dc14 pm14 an14 cd14 ct14), sl14⟩) (c14 : PySem.W.codeIn K cd14 "_law_is_truth" = true) (k14 : PySem.W.keepIn K (.ref f14) = true)
  (a15 : PySem.W.nsIn K mainGlobals "_law_is_row" = some (some (.ref f15))) (l15 : K.lookup f15 = some ⟨oc15, od15, .func (PySem.W.fnOf "_law_is_row" "_law_is_row" (defArgs s__law_is_row) (defBody s__law_is_row) (defScope s__law_is_row) .none kV15 dc15 pm15 an15 cd15 ct15), sl15⟩) (c15 : PySem.W.codeIn K cd15 "_law_is_row" = true) (k15 : PySem.W.keepIn K (.ref f15) = true)
  (a16 : PySem.W.nsIn K mainGlobals "_law_is_rows" = some (some (.ref f16))) (l16 : K.lookup f16 = some ⟨oc16, od16, .func (PySem.W.fnOf "_law_is_rows" "_law_is_rows" (defArgs s__law_is_rows) (defBody s__law_is_rows) (defScope s__law_is_rows) .none kV16 dc16 pm16 an16 cd16 ct16), sl16⟩) (c16 : PySem.W.codeIn K cd16 "_law_is_rows" = true) (k16 : PySem.W.keepIn K (.ref f16) = true)
  (a17 : PySem.W.nsIn K mainGlobals "_law_merged" = some (some (.ref f17))) (l17 : K.lookup f17 = some ⟨oc17, od17, .func (PySem.W.fnOf "_law_merged" "_law_merged" (defArgs s__law_merged) (defBody s__law_merged) (defScope s__law_merged) .none kV17 dc17 pm17 an17 cd17 ct17), sl17⟩) (c17 : PySem.W.codeIn K cd17 "_law_merged" = true) (k17 : PySem.W.keepIn K (.ref f17) = true)
  (a18 : PySem.W.nsIn K mainGlobals "_law_together" = some (some (.ref f18))) (l18 : K.lookup f18 = some ⟨oc18, od18, .func (PySem.W.fnOf "_law_together" "_law_together" (defArgs s__law_together) (defBody s__law_together) (defScope s__law_together) .none kV18 dc18 pm18 an18 cd18 ct18), sl18⟩) (c18 : PySem.W.codeIn K cd18 "_law_together" = true) (k18 : PySem.W.keepIn K (.ref f18) = true)
  (a19 : PySem.W.nsIn K mainGlobals "_law_orbits" = some (some (.ref f19))) (l19 : K.lookup f19 = some ⟨oc19, od19, .func (PySem.W.fnOf "_law_orbits" "_law_orbits" (defArgs s__law_orbits) (defBody s__law_orbits) (defScope s__law_orbits) .none kV19 dc19 pm19 an19 cd19 ct19), sl19⟩) (c19 : PySem.W.codeIn K cd19 "_law_orbits" = true) (k19 : PySem.W.keepIn K (.ref f19) = true)
  (a20 : PySem.W.nsIn K mainGlobals "_law_moves" = some (some (.ref f20))) (l20 : K.lookup f20 = some ⟨oc20, od20, .func (PySem.W.fnOf "_law_moves" "_law_moves" (defArgs s__law_moves) (defBody s__law_moves) (defScope s__law_moves) .none kV20 dc20 pm20 an20 cd20 ct20), sl20⟩) (c20 : PySem.W.codeIn K cd20 "_law_moves" = true) (k20 : PySem.W.keepIn K (.ref f20) = true)
  (a21 : PySem.W.nsIn K mainGlobals "_law_firsts" = some (some (.ref f21))) (l21 : K.lookup f21 = some ⟨oc21, od21, .func (PySem.W.fnOf "_law_firsts" "_law_firsts" (defArgs s__law_firsts) (defBody s__law_firsts) (defScope s__law_firsts) .none kV21 dc21 pm21 an21 cd21 ct21), sl21⟩) (c21 : PySem.W.codeIn K cd21 "_law_firsts" = true) (k21 : PySem.W.keepIn K (.ref f21) = true)
  (a22 : PySem.W.nsIn K mainGlobals "_law_way_holds" = some (some (.ref f22))) (l22 : K.lookup f22 = some ⟨oc22, od22, .func (PySem.W.fnOf "_law_way_holds" "_law_way_holds" (defArgs s__law_way_holds) (defBody s__law_way_holds) (defScope s__law_way_holds) .none kV22 dc22 pm22 an22 cd22 ct22), sl22⟩) (c22 : PySem.W.codeIn K cd22 "_law_way_holds" = true) (k22 : PySem.W.keepIn K (.ref f22) = true)
  (a23 : PySem.W.nsIn K mainGlobals "_law_ways_hold" = some (some (.ref f23))) (l23 : K.lookup f23 = some ⟨oc23, od23, .func (PySem.W.fnOf "_law_ways_hold" "_law_ways_hold" (defArgs s__law_ways_hold) (defBody s__law_ways_hold) (defScope s__law_ways_hold) .none kV23 dc23 pm23 an23 cd23 ct23), sl23⟩) (c23 : PySem.W.codeIn K cd23 "_law_ways_hold" = true) (k23 : PySem.W.keepIn K (.ref f23) = true)
  (a24 : PySem.W.nsIn K mainGlobals "_law_orbits_hold" = some (some (.ref f24))) (l24 : K.lookup f24 = some ⟨oc24, od24, .func (PySem.W.fnOf "_law_orbits_hold" "_law_orbits_hold" (defArgs s__law_orbits_hold) (defBody s__law_orbits_hold) (defScope s__law_orbits_hold) .none kV24 dc24 pm24 an24 cd24 ct24), sl24⟩) (c24 : PySem.W.codeIn K cd24 "_law_orbits_hold" = true) (k24 : PySem.W.keepIn K (.ref f24) = true)
  (a25 : PySem.W.nsIn K mainGlobals "law" = some (some (.ref f25))) (l25 : K.lookup f25 = some ⟨oc25, od25, .func (PySem.W.fnOf "law" "law" (defArgs s_law) (defBody s_law) (defScope s_law) .none kV25 dc25 pm25 an25 cd25 ct25), sl25⟩) (c25 : PySem.W.codeIn K cd25 "law" = true) (k25 : PySem.W.keepIn K (.ref f25) = true)
  (z0 : PySem.W.nsIn K mainGlobals "enumerate" = some none)
  (z1 : PySem.W.nsIn K mainGlobals "tuple" = some none)
  (z2 : PySem.W.nsIn K mainGlobals "len" = some none)
  (z3 : PySem.W.nsIn K mainGlobals "sorted" = some none)
  (z4 : PySem.W.nsIn K mainGlobals "range" = some none)
  (z5 : PySem.W.nsIn K mainGlobals "int" = some none)
  (z6 : PySem.W.nsIn K mainGlobals "sum" = some none)
  (z7 : PySem.W.nsIn K mainGlobals "list" = some none)
  (z8 : PySem.W.nsIn K mainGlobals "min" = some none)
  (z9 : PySem.W.nsIn K mainGlobals "isinstance" = some none)
  (z10 : PySem.W.nsIn K mainGlobals "bool" = some none)
  (z11 : PySem.W.nsIn K mainGlobals "max" = some none)
  (z12 : PySem.W.nsIn K mainGlobals "reversed" = some none) : ∃ T : Txt K mg, T.fd_law = (PySem.W.fnOf "law" "law" (defArgs s_law) (defBody s_law) (defScope s_law) .none kV25 dc25 pm25 an25 cd25 ct25) := by
  have F0 := fun_mk (st := s_inverse) l0 c0 k0
  have B0 := F0.binds (ps := ["perm"]) fun _ _ _ _ _ _ us hl => match us, hl with | [_], _ => rfl
  have F1 := fun_mk (st := s_spread) l1 c1 k1
  have B1 := F1.binds (ps := ["perms", "points", "point"]) fun _ _ _ _ _ _ us hl => match us, hl with | [_, _, _], _ => rfl
  have F2 := fun_mk (st := s_orbit) l2 c2 k2
  have B2 := F2.binds (ps := ["perms", "points", "point"]) fun _ _ _ _ _ _ us hl => match us, hl with | [_, _, _], _ => rfl
  have F3 := fun_mk (st := s_orbits) l3 c3 k3
  have B3 := F3.binds (ps := ["perms", "points"]) fun _ _ _ _ _ _ us hl => match us, hl with | [_, _], _ => rfl
  have F4 := fun_mk (st := s_is_transitive) l4 c4 k4
  have B4 := F4.binds (ps := ["perms", "points"]) fun _ _ _ _ _ _ us hl => match us, hl with | [_, _], _ => rfl
  have F5 := fun_mk (st := s_step_perm) l5 c5 k5
  have B5 := F5.binds (ps := ["perms", "k", "sign"]) fun _ _ _ _ _ _ us hl => match us, hl with | [_, _, _], _ => rfl
  have F6 := fun_mk (st := s__steps_back) l6 c6 k6
  have B6 := F6.binds (ps := ["came", "start", "goal"]) fun _ _ _ _ _ _ us hl => match us, hl with | [_, _, _], _ => rfl
  have F7 := fun_mk (st := s_way) l7 c7 k7
  have B7 := F7.binds (ps := ["perms", "points", "start", "goal"]) fun _ _ _ _ _ _ us hl => match us, hl with | [_, _, _, _], _ => rfl
  have F8 := fun_mk (st := s__law_cell) l8 c8 k8
  have B8 := F8.binds (ps := ["script", "k"]) fun _ _ _ _ _ _ us hl => match us, hl with | [_, _], _ => rfl
  have F9 := fun_mk (st := s__law_bag) l9 c9 k9
  have B9 := F9.binds (ps := ["script", "k"]) fun _ _ _ _ _ _ us hl => match us, hl with | [_, _], _ => rfl
  have F10 := fun_mk (st := s__law_take) l10 c10 k10
  have B10 := F10.binds (ps := ["bag", "size"]) fun _ _ _ _ _ _ us hl => match us, hl with | [_, _], _ => rfl
  have F11 := fun_mk (st := s__law_shuffled) l11 c11 k11
  have B11 := F11.binds (ps := ["bag", "many"]) fun _ _ _ _ _ _ us hl => match us, hl with | [_, _], _ => rfl
  have F12 := fun_mk (st := s__law_perm) l12 c12 k12
  have B12 := F12.binds (ps := ["bag", "points"]) fun _ _ _ _ _ _ us hl => match us, hl with | [_, _], _ => rfl
  have F13 := fun_mk (st := s__law_is_whole) l13 c13 k13
  have B13 := F13.binds (ps := ["value"]) fun _ _ _ _ _ _ us hl => match us, hl with | [_], _ => rfl
  have F14 := fun_mk (st := s__law_is_truth) l14 c14 k14
  have B14 := F14.binds (ps := ["actual", "due"]) fun _ _ _ _ _ _ us hl => match us, hl with | [_, _], _ => rfl
  have F15 := fun_mk (st := s__law_is_row) l15 c15 k15
  have B15 := F15.binds (ps := ["actual", "due"]) fun _ _ _ _ _ _ us hl => match us, hl with | [_, _], _ => rfl
  have F16 := fun_mk (st := s__law_is_rows) l16 c16 k16
  have B16 := F16.binds (ps := ["actual", "due"]) fun _ _ _ _ _ _ us hl => match us, hl with | [_, _], _ => rfl
  have F17 := fun_mk (st := s__law_merged) l17 c17 k17
  have B17 := F17.binds (ps := ["row", "a", "b"]) fun _ _ _ _ _ _ us hl => match us, hl with | [_, _, _], _ => rfl
  have F18 := fun_mk (st := s__law_together) l18 c18 k18
  have B18 := F18.binds (ps := ["perms", "points"]) fun _ _ _ _ _ _ us hl => match us, hl with | [_, _], _ => rfl
  have F19 := fun_mk (st := s__law_orbits) l19 c19 k19
  have B19 := F19.binds (ps := ["perms", "points"]) fun _ _ _ _ _ _ us hl => match us, hl with | [_, _], _ => rfl
  have F20 := fun_mk (st := s__law_moves) l20 c20 k20
  have B20 := F20.binds (ps := ["perms", "points"]) fun _ _ _ _ _ _ us hl => match us, hl with | [_, _], _ => rfl
  have F21 := fun_mk (st := s__law_firsts) l21 c21 k21
  have B21 := F21.binds (ps := ["perms", "points", "source"]) fun _ _ _ _ _ _ us hl => match us, hl with | [_, _, _], _ => rfl
  have F22 := fun_mk (st := s__law_way_holds) l22 c22 k22
  have B22 := F22.binds (ps := ["actual", "codes"]) fun _ _ _ _ _ _ us hl => match us, hl with | [_, _], _ => rfl
  have F23 := fun_mk (st := s__law_ways_hold) l23 c23 k23
  have B23 := F23.binds (ps := ["perms", "points", "source", "named"]) fun _ _ _ _ _ _ us hl => match us, hl with | [_, _, _, _], _ => rfl
  have F24 := fun_mk (st := s__law_orbits_hold) l24 c24 k24
  have B24 := F24.binds (ps := ["perms", "points"]) fun _ _ _ _ _ _ us hl => match us, hl with | [_, _], _ => rfl
  have F25 := fun_mk (st := s_law) l25 c25 k25
  have B25 := F25.binds (ps := ["script"]) fun _ _ _ _ _ _ us hl => match us, hl with | [_], _ => rfl
  exact ⟨⟨f0, _, ⟨F0, PySem.W.mg_of X G a0, B0⟩, f1, _, ⟨F1, PySem.W.mg_of X G a1, B1⟩, f2, _, ⟨F2, PySem.W.mg_of X G a2, B2⟩, f3, _, ⟨F3, PySem.W.mg_of X G a3, B3⟩, f4, _, ⟨F4, PySem.W.mg_of X G a4, B4⟩, f5, _, ⟨F5, PySem.W.mg_of X G a5, B5⟩, f6, _, ⟨F6, PySem.W.mg_of X G a6, B6⟩, f7, _, ⟨F7, PySem.W.mg_of X G a7, B7⟩, f8, _, ⟨F8, PySem.W.mg_of X G a8, B8⟩, f9, _, ⟨F9, PySem.W.mg_of X G a9, B9⟩, f10, _, ⟨F10, PySem.W.mg_of X G a10, B10⟩, f11, _, ⟨F11, PySem.W.mg_of X G a11, B11⟩, f12, _, ⟨F12, PySem.W.mg_of X G a12, B12⟩, f13, _, ⟨F13, PySem.W.mg_of X G a13, B13⟩, f14, _, ⟨F14, PySem.W.mg_of X G a14, B14⟩, f15, _, ⟨F15, PySem.W.mg_of X G a15, B15⟩, f16, _, ⟨F16, PySem.W.mg_of X G a16, B16⟩, f17, _, ⟨F17, PySem.W.mg_of X G a17, B17⟩, f18, _, ⟨F18, PySem.W.mg_of X G a18, B18⟩, f19, _, ⟨F19, PySem.W.mg_of X G a19, B19⟩, f20, _, ⟨F20, PySem.W.mg_of X G a20, B20⟩, f21, _, ⟨F21, PySem.W.mg_of X G a21, B21⟩, f22, _, ⟨F22, PySem.W.mg_of X G a22, B22⟩, f23, _, ⟨F23, PySem.W.mg_of X G a23, B23⟩, f24, _, ⟨F24, PySem.W.mg_of X G a24, B24⟩, f25, _, ⟨F25, PySem.W.mg_of X G a25, B25⟩, PySem.W.mg_none_of X G z0, PySem.W.mg_none_of X G z1, PySem.W.mg_none_of X G z2, PySem.W.mg_none_of X G z3, PySem.W.mg_none_of X G z4, PySem.W.mg_none_of X G z5, PySem.W.mg_none_of X G z6, PySem.W.mg_none_of X G z7, PySem.W.mg_none_of X G z8, PySem.W.mg_none_of X G z9, PySem.W.mg_none_of X G z10, PySem.W.mg_none_of X G z11, PySem.W.mg_none_of X G z12, ⟨fun s us ws X l1 l2 => match us, ws, l1, l2 with | [_, _], [_, _], _, _ => .of_eq rfl, fun r q => permK_Vals r q _⟩⟩, rfl⟩
theorem all_mk {w : World} {K : PySem.W.Frag} {mg : Str → Option Value} {h : Heap} {fa : Addr} (X : K.In h) (G : h.Ns mainGlobals mg) (hfa : mg "law" = some (.ref fa))
  {od0 od1 od2 od3 od4 od5 od6 od7 od8 od9 od10 od11 od12 od13 od14 od15 od16 od17 od18 od19 od20 od21 od22 od23 od24 od25 : Option Addr}
  {an0 an1 an2 an3 an4 an5 an6 an7 an8 an9 an10 an11 an12 an13 an14 an15 an16 an17 an18 an19 an20 an21 an22 an23 an24 an25 : Option Addr}
  {sl0 sl1 sl2 sl3 sl4 sl5 sl6 sl7 sl8 sl9 sl10 sl11 sl12 sl13 sl14 sl15 sl16 sl17 sl18 sl19 sl20 sl21 sl22 sl23 sl24 sl25 : Array (Option Value)}
  {oc0 kV0 dc0 pm0 cd0 ct0 oc1 kV1 dc1 pm1 cd1 ct1 oc2 kV2 dc2 pm2 cd2 ct2 oc3 kV3 dc3 pm3 cd3 ct3 oc4 kV4 dc4 pm4 cd4 ct4 oc5 kV5 dc5 pm5 cd5 ct5 oc6 kV6 dc6 pm6 cd6 ct6 oc7 kV7 dc7 pm7 cd7 ct7 oc8 kV8 dc8 pm8 cd8 ct8 oc9 kV9 dc9 pm9 cd9 ct9 oc10 kV10 dc10 pm10 cd10 ct10 oc11 kV11 dc11 pm11 cd11 ct11 oc12 kV12 dc12 pm12 cd12 ct12 oc13 kV13 dc13 pm13 cd13 ct13 oc14 kV14 dc14 pm14 cd14 ct14 oc15 kV15 dc15 pm15 cd15 ct15 oc16 kV16 dc16 pm16 cd16 ct16 oc17 kV17 dc17 pm17 cd17 ct17 oc18 kV18 dc18 pm18 cd18 ct18 oc19 kV19 dc19 pm19 cd19 ct19 oc20 kV20 dc20 pm20 cd20 ct20 oc21 kV21 dc21 pm21 cd21 ct21 oc22 kV22 dc22 pm22 cd22 ct22 oc23 kV23 dc23 pm23 cd23 ct23 oc24 kV24 dc24 pm24 cd24 ct24 oc25 kV25 dc25 pm25 cd25 ct25 : Value}
  {f0 f1 f2 f3 f4 f5 f6 f7 f8 f9 f10 f11 f12 f13 f14 f15 f16 f17 f18 f19 f20 f21 f22 f23 f24 f25 : Addr}
  (a0 : PySem.W.nsIn K mainGlobals "inverse" = some (some (.ref f0))) (l0 : K.lookup f0 = some ⟨oc0, od0, .func (PySem.W.fnOf "inverse" "inverse" (defArgs s_inverse) (defBody s_inverse) (defScope s_inverse) .none kV0 dc0 pm0 an0 cd0 ct0), sl0⟩) (c0 : PySem.W.codeIn K cd0 "inverse" = true) (k0 : PySem.W.keepIn K (.ref f0) = true)
  (a1 : PySem.W.nsIn K mainGlobals "spread" = some (some (.ref f1))) (l1 : K.lookup f1 = some ⟨oc1, od1, .func (PySem.W.fnOf "spread" "spread" (defArgs s_spread) (defBody s_spread) (defScope s_spread) .none kV1 dc1 pm1 an1 cd1 ct1), sl1⟩) (c1 : PySem.W.codeIn K cd1 "spread" = true) (k1 : PySem.W.keepIn K (.ref f1) = true)
  (a2 : PySem.W.nsIn K mainGlobals "orbit" = some (some (.ref f2))) (l2 : K.lookup f2 = some ⟨oc2, od2, .func (PySem.W.fnOf "orbit" "orbit" (defArgs s_orbit) (defBody s_orbit) (defScope s_orbit) .none kV2 dc2 pm2 an2 cd2 ct2), sl2⟩) (c2 : PySem.W.codeIn K cd2 "orbit" = true) (k2 : PySem.W.keepIn K (.ref f2) = true)
  (a3 : PySem.W.nsIn K mainGlobals "orbits" = some (some (.ref f3))) (l3 : K.lookup f3 = some ⟨oc3, od3, .func (PySem.W.fnOf "orbits" "orbits" (defArgs s_orbits) (defBody s_orbits) (defScope s_orbits) .none kV3 dc3 pm3 an3 cd3 ct3), sl3⟩) (c3 : PySem.W.codeIn K cd3 "orbits" = true) (k3 : PySem.W.keepIn K (.ref f3) = true)
  (a4 : PySem.W.nsIn K mainGlobals "is_transitive" = some (some (.ref f4))) (l4 : K.lookup f4 = some ⟨oc4, od4, .func (PySem.W.fnOf "is_transitive" "is_transitive" (defArgs s_is_transitive) (defBody s_is_transitive) (defScope s_is_transitive) .none kV4 dc4 pm4 an4 cd4 ct4), sl4⟩) (c4 : PySem.W.codeIn K cd4 "is_transitive" = true) (k4 : PySem.W.keepIn K (.ref f4) = true)
  (a5 : PySem.W.nsIn K mainGlobals "step_perm" = some (some (.ref f5))) (l5 : K.lookup f5 = some ⟨oc5, od5, .func (PySem.W.fnOf "step_perm" "step_perm" (defArgs s_step_perm) (defBody s_step_perm) (defScope s_step_perm) .none kV5 dc5 pm5 an5 cd5 ct5), sl5⟩) (c5 : PySem.W.codeIn K cd5 "step_perm" = true) (k5 : PySem.W.keepIn K (.ref f5) = true)
  (a6 : PySem.W.nsIn K mainGlobals "_steps_back" = some (some (.ref f6))) (l6 : K.lookup f6 = some ⟨oc6, od6, .func (PySem.W.fnOf "_steps_back" "_steps_back" (defArgs s__steps_back) (defBody s__steps_back) (defScope s__steps_back) .none kV6 dc6 pm6 an6 cd6 ct6), sl6⟩) (c6 : PySem.W.codeIn K cd6 "_steps_back" = true) (k6 : PySem.W.keepIn K (.ref f6) = true)
  (a7 : PySem.W.nsIn K mainGlobals "way" = some (some (.ref f7))) (l7 : K.lookup f7 = some ⟨oc7, od7, .func (PySem.W.fnOf "way" "way" (defArgs s_way) (defBody s_way) (defScope s_way) .none kV7 dc7 pm7 an7 cd7 ct7), sl7⟩) (c7 : PySem.W.codeIn K cd7 "way" = true) (k7 : PySem.W.keepIn K (.ref f7) = true)
  (a8 : PySem.W.nsIn K mainGlobals "_law_cell" = some (some (.ref f8))) (l8 : K.lookup f8 = some ⟨oc8, od8, .func (PySem.W.fnOf "_law_cell" "_law_cell" (defArgs s__law_cell) (defBody s__law_cell) (defScope s__law_cell) .none kV8 dc8 pm8 an8 cd8 ct8), sl8⟩) (c8 : PySem.W.codeIn K cd8 "_law_cell" = true) (k8 : PySem.W.keepIn K (.ref f8) = true)
  (a9 : PySem.W.nsIn K mainGlobals "_law_bag" = some (some (.ref f9))) (l9 : K.lookup f9 = some ⟨oc9, od9, .func (PySem.W.fnOf "_law_bag" "_law_bag" (defArgs s__law_bag) (defBody s__law_bag) (defScope s__law_bag) .none kV9 dc9 pm9 an9 cd9 ct9), sl9⟩) (c9 : PySem.W.codeIn K cd9 "_law_bag" = true) (k9 : PySem.W.keepIn K (.ref f9) = true)
  (a10 : PySem.W.nsIn K mainGlobals "_law_take" = some (some (.ref f10))) (l10 : K.lookup f10 = some ⟨oc10, od10, .func (PySem.W.fnOf "_law_take" "_law_take" (defArgs s__law_take) (defBody s__law_take) (defScope s__law_take) .none kV10 dc10 pm10 an10 cd10 ct10), sl10⟩) (c10 : PySem.W.codeIn K cd10 "_law_take" = true) (k10 : PySem.W.keepIn K (.ref f10) = true)
  (a11 : PySem.W.nsIn K mainGlobals "_law_shuffled" = some (some (.ref f11))) (l11 : K.lookup f11 = some ⟨oc11, od11, .func (PySem.W.fnOf "_law_shuffled" "_law_shuffled" (defArgs s__law_shuffled) (defBody s__law_shuffled) (defScope s__law_shuffled) .none kV11 dc11 pm11 an11 cd11 ct11), sl11⟩) (c11 : PySem.W.codeIn K cd11 "_law_shuffled" = true) (k11 : PySem.W.keepIn K (.ref f11) = true)
  (a12 : PySem.W.nsIn K mainGlobals "_law_perm" = some (some (.ref f12))) (l12 : K.lookup f12 = some ⟨oc12, od12, .func (PySem.W.fnOf "_law_perm" "_law_perm" (defArgs s__law_perm) (defBody s__law_perm) (defScope s__law_perm) .none kV12 dc12 pm12 an12 cd12 ct12), sl12⟩) (c12 : PySem.W.codeIn K cd12 "_law_perm" = true) (k12 : PySem.W.keepIn K (.ref f12) = true)
  (a13 : PySem.W.nsIn K mainGlobals "_law_is_whole" = some (some (.ref f13))) (l13 : K.lookup f13 = some ⟨oc13, od13, .func (PySem.W.fnOf "_law_is_whole" "_law_is_whole" (defArgs s__law_is_whole) (defBody s__law_is_whole) (defScope s__law_is_whole) .none kV13 dc13 pm13 an13 cd13 ct13), sl13⟩) (c13 : PySem.W.codeIn K cd13 "_law_is_whole" = true) (k13 : PySem.W.keepIn K (.ref f13) = true)
  (a14 : PySem.W.nsIn K mainGlobals "_law_is_truth" = some (some (.ref f14))) (l14 : K.lookup f14 = some ⟨oc14, od14, .func (PySem.W.fnOf "_law_is_truth" "_law_is_truth" (defArgs s__law_is_truth) (defBody s__law_is_truth) (defScope s__law_is_truth) .none kV14 dc14 pm14 an14 cd14 ct14), sl14⟩) (c14 : PySem.W.codeIn K cd14 "_law_is_truth" = true) (k14 : PySem.W.keepIn K (.ref f14) = true)
  (a15 : PySem.W.nsIn K mainGlobals "_law_is_row" = some (some (.ref f15))) (l15 : K.lookup f15 = some ⟨oc15, od15, .func (PySem.W.fnOf "_law_is_row" "_law_is_row" (defArgs s__law_is_row) (defBody s__law_is_row) (defScope s__law_is_row) .none kV15 dc15 pm15 an15 cd15 ct15), sl15⟩) (c15 : PySem.W.codeIn K cd15 "_law_is_row" = true) (k15 : PySem.W.keepIn K (.ref f15) = true)
  (a16 : PySem.W.nsIn K mainGlobals "_law_is_rows" = some (some (.ref f16))) (l16 : K.lookup f16 = some ⟨oc16, od16, .func (PySem.W.fnOf "_law_is_rows" "_law_is_rows" (defArgs s__law_is_rows) (defBody s__law_is_rows) (defScope s__law_is_rows) .none kV16 dc16 pm16 an16 cd16 ct16), sl16⟩) (c16 : PySem.W.codeIn K cd16 "_law_is_rows" = true) (k16 : PySem.W.keepIn K (.ref f16) = true)
  (a17 : PySem.W.nsIn K mainGlobals "_law_merged" = some (some (.ref f17))) (l17 : K.lookup f17 = some ⟨oc17, od17, .func (PySem.W.fnOf "_law_merged" "_law_merged" (defArgs s__law_merged) (defBody s__law_merged) (defScope s__law_merged) .none kV17 dc17 pm17 an17 cd17 ct17), sl17⟩) (c17 : PySem.W.codeIn K cd17 "_law_merged" = true) (k17 : PySem.W.keepIn K (.ref f17) = true)
  (a18 : PySem.W.nsIn K mainGlobals "_law_together" = some (some (.ref f18))) (l18 : K.lookup f18 = some ⟨oc18, od18, .func (PySem.W.fnOf "_law_together" "_law_together" (defArgs s__law_together) (defBody s__law_together) (defScope s__law_together) .none kV18 dc18 pm18 an18 cd18 ct18), sl18⟩) (c18 : PySem.W.codeIn K cd18 "_law_together" = true) (k18 : PySem.W.keepIn K (.ref f18) = true)
  (a19 : PySem.W.nsIn K mainGlobals "_law_orbits" = some (some (.ref f19))) (l19 : K.lookup f19 = some ⟨oc19, od19, .func (PySem.W.fnOf "_law_orbits" "_law_orbits" (defArgs s__law_orbits) (defBody s__law_orbits) (defScope s__law_orbits) .none kV19 dc19 pm19 an19 cd19 ct19), sl19⟩) (c19 : PySem.W.codeIn K cd19 "_law_orbits" = true) (k19 : PySem.W.keepIn K (.ref f19) = true)
  (a20 : PySem.W.nsIn K mainGlobals "_law_moves" = some (some (.ref f20))) (l20 : K.lookup f20 = some ⟨oc20, od20, .func (PySem.W.fnOf "_law_moves" "_law_moves" (defArgs s__law_moves) (defBody s__law_moves) (defScope s__law_moves) .none kV20 dc20 pm20 an20 cd20 ct20), sl20⟩) (c20 : PySem.W.codeIn K cd20 "_law_moves" = true) (k20 : PySem.W.keepIn K (.ref f20) = true)
  (a21 : PySem.W.nsIn K mainGlobals "_law_firsts" = some (some (.ref f21))) (l21 : K.lookup f21 = some ⟨oc21, od21, .func (PySem.W.fnOf "_law_firsts" "_law_firsts" (defArgs s__law_firsts) (defBody s__law_firsts) (defScope s__law_firsts) .none kV21 dc21 pm21 an21 cd21 ct21), sl21⟩) (c21 : PySem.W.codeIn K cd21 "_law_firsts" = true) (k21 : PySem.W.keepIn K (.ref f21) = true)
  (a22 : PySem.W.nsIn K mainGlobals "_law_way_holds" = some (some (.ref f22))) (l22 : K.lookup f22 = some ⟨oc22, od22, .func (PySem.W.fnOf "_law_way_holds" "_law_way_holds" (defArgs s__law_way_holds) (defBody s__law_way_holds) (defScope s__law_way_holds) .none kV22 dc22 pm22 an22 cd22 ct22), sl22⟩) (c22 : PySem.W.codeIn K cd22 "_law_way_holds" = true) (k22 : PySem.W.keepIn K (.ref f22) = true)
  (a23 : PySem.W.nsIn K mainGlobals "_law_ways_hold" = some (some (.ref f23))) (l23 : K.lookup f23 = some ⟨oc23, od23, .func (PySem.W.fnOf "_law_ways_hold" "_law_ways_hold" (defArgs s__law_ways_hold) (defBody s__law_ways_hold) (defScope s__law_ways_hold) .none kV23 dc23 pm23 an23 cd23 ct23), sl23⟩) (c23 : PySem.W.codeIn K cd23 "_law_ways_hold" = true) (k23 : PySem.W.keepIn K (.ref f23) = true)
  (a24 : PySem.W.nsIn K mainGlobals "_law_orbits_hold" = some (some (.ref f24))) (l24 : K.lookup f24 = some ⟨oc24, od24, .func (PySem.W.fnOf "_law_orbits_hold" "_law_orbits_hold" (defArgs s__law_orbits_hold) (defBody s__law_orbits_hold) (defScope s__law_orbits_hold) .none kV24 dc24 pm24 an24 cd24 ct24), sl24⟩) (c24 : PySem.W.codeIn K cd24 "_law_orbits_hold" = true) (k24 : PySem.W.keepIn K (.ref f24) = true)
  (a25 : PySem.W.nsIn K mainGlobals "law" = some (some (.ref f25))) (l25 : K.lookup f25 = some ⟨oc25, od25, .func (PySem.W.fnOf "law" "law" (defArgs s_law) (defBody s_law) (defScope s_law) .none kV25 dc25 pm25 an25 cd25 ct25), sl25⟩) (c25 : PySem.W.codeIn K cd25 "law" = true) (k25 : PySem.W.keepIn K (.ref f25) = true)
  (z0 : PySem.W.nsIn K mainGlobals "enumerate" = some none)
  (z1 : PySem.W.nsIn K mainGlobals "tuple" = some none)
  (z2 : PySem.W.nsIn K mainGlobals "len" = some none)
  (z3 : PySem.W.nsIn K mainGlobals "sorted" = some none)
  (z4 : PySem.W.nsIn K mainGlobals "range" = some none)
  (z5 : PySem.W.nsIn K mainGlobals "int" = some none)
  (z6 : PySem.W.nsIn K mainGlobals "sum" = some none)
  (z7 : PySem.W.nsIn K mainGlobals "list" = some none)
  (z8 : PySem.W.nsIn K mainGlobals "min" = some none)
  (z9 : PySem.W.nsIn K mainGlobals "isinstance" = some none)
  (z10 : PySem.W.nsIn K mainGlobals "bool" = some none)
  (z11 : PySem.W.nsIn K mainGlobals "max" = some none)
  (z12 : PySem.W.nsIn K mainGlobals "reversed" = some none) :
  ∃ fd : FuncData, (∀ (s : Shared) (v : Value), BindsTo s fd ⟨[v], []⟩ [("script", v)]) ∧ ∀ base : Heap, K.In base → base.Ns mainGlobals mg → FnOk PySem.Challenge.rw_tumbler_k09_orbits_and_ways.prog w K mg base (L2.CX PySem.Challenge.rw_tumbler_k09_orbits_and_ways.prog w) 6 fa fd ["script"] (spLaw K c_law) := by
  obtain ⟨T, eT⟩ := txt_mk X G a0 l0 c0 k0 a1 l1 c1 k1 a2 l2 c2 k2 a3 l3 c3 k3 a4 l4 c4 k4 a5 l5 c5 k5 a6 l6 c6 k6 a7 l7 c7 k7 a8 l8 c8 k8 a9 l9 c9 k9 a10 l10 c10 k10 a11 l11 c11 k11 a12 l12 c12 k12 a13 l13 c13 k13 a14 l14 c14 k14 a15 l15 c15 k15 a16 l16 c16 k16 a17 l17 c17 k17 a18 l18 c18 k18 a19 l19 c19 k19 a20 l20 c20 k20 a21 l21 c21 k21 a22 l22 c22 k22 a23 l23 c23 k23 a24 l24 c24 k24 a25 l25 c25 k25 z0 z1 z2 z3 z4 z5 z6 z7 z8 z9 z10 z11 z12
  have e := hfa.symm.trans T.d_law.mgf
  obtain rfl : fa = T.f_law := by cases e; rfl
  refine ⟨T.fd_law, fun s v => by rw [eT]; exact .of_eq rfl, fun base _ _ => (w_law T).imp fun vs H Q E q => spLaw.of vs H Q E q⟩
end Law

set_option maxHeartbeats 1000000
/-! Reckoning with the plain functions: what simp is to know, loops by invariants, what a call leaves. -/
namespace Rf
open PySem L2

/-! ### pieces -/
@[simp] theorem then_ok (d : D) (h : AH) (f : D → AH → ER) : (ER.ok d h).then f = f d h := rfl
@[simp] theorem then_exc (c : Str) (fs : List (Str × D)) (h : AH) (f : D → AH → ER) : (ER.exc c fs h).then f = .exc c fs h := rfl
@[simp] theorem thenS_ok (d : D) (h : AH) (e : AE) (f : D → AH → SR) : (ER.ok d h).thenS e f = f d h := rfl
@[simp] theorem thenS_exc (c : Str) (fs : List (Str × D)) (h : AH) (e : AE) (f : D → AH → SR) : (ER.exc c fs h).thenS e f = .exc c fs e h := rfl
@[simp] theorem lthen_ok (ds : List D) (h : AH) (f : List D → AH → ER) : (LR.ok ds h).then f = f ds h := rfl
@[simp] theorem lthen_exc (c : Str) (fs : List (Str × D)) (h : AH) (f : List D → AH → ER) : (LR.exc c fs h).then f = .exc c fs h := rfl
@[simp] theorem sthen_nx (e : AE) (h : AH) (f : SM) : (SR.nx e h).then f = f e h := rfl
@[simp] theorem sthen_rt (d : D) (h : AH) (f : SM) : (SR.rt d h).then f = .rt d h := rfl
@[simp] theorem sthen_bk (e : AE) (h : AH) (f : SM) : (SR.bk e h).then f = .bk e h := rfl
@[simp] theorem sthen_ct (e : AE) (h : AH) (f : SM) : (SR.ct e h).then f = .ct e h := rfl
@[simp] theorem sthen_exc (c : Str) (fs : List (Str × D)) (e : AE) (h : AH) (f : SM) : (SR.exc c fs e h).then f = .exc c fs e h := rfl
@[simp] theorem onlyNx_nx (e : AE) (h : AH) : onlyNx (.nx e h) = .nx e h := rfl
@[simp] theorem again_nx (e : AE) (h : AH) (k : SM) : again (.nx e h) k = k e h := rfl
@[simp] theorem again_ct (e : AE) (h : AH) (k : SM) : again (.ct e h) k = k e h := rfl
@[simp] theorem again_bk (e : AE) (h : AH) (k : SM) : again (.bk e h) k = .nx e h := rfl
@[simp] theorem again_rt (d : D) (h : AH) (k : SM) : again (.rt d h) k = .rt d h := rfl
@[simp] theorem again_exc (c : Str) (fs : List (Str × D)) (e : AE) (h : AH) (k : SM) : again (.exc c fs e h) k = .exc c fs e h := rfl
@[simp] theorem outS_rt (d : D) (h : AH) : outS (.rt d h) = .ok d h := rfl
@[simp] theorem outS_nx (e : AE) (h : AH) : outS (.nx e h) = .ok .non h := rfl
@[simp] theorem outS_exc (c : Str) (fs : List (Str × D)) (e : AE) (h : AH) : outS (.exc c fs e h) = .exc c fs h := rfl
/-- by a bool -/
def onB (d : D) (x y : SR) : SR := match d with
  | .bl true => x
  | .bl false => y
  | _ => .stuck
@[simp] theorem onB_bl (b : Bool) (x y : SR) : onB (.bl b) x y = if b = true then x else y := by cases b <;> rfl
def onE (d : D) (x y : ER) : ER := match d with
  | .bl true => x
  | .bl false => y
  | _ => .stuck
@[simp] theorem onE_bl (b : Bool) (x y : ER) : onE (.bl b) x y = if b = true then x else y := by cases b <;> rfl
@[simp] theorem eVar_ (i : Nat) (env : AE) (h : AH) : eVar i env h = match env[i]? with | some (some d) => .ok d h | _ => .stuck := rfl
@[simp] theorem eC_ (d : D) (env : AE) (h : AH) : eC d env h = .ok d h := rfl
@[simp] theorem eOp_ (g : D → D → AH → ER) (a b : EM) (env : AE) (h : AH) : eOp g a b env h = (a env h).then fun d1 h1 => (b env h1).then fun d2 h2 => g d1 d2 h2 := rfl
@[simp] theorem eUn_ (g : D → AH → ER) (a : EM) (env : AE) (h : AH) : eUn g a env h = (a env h).then fun d1 h1 => g d1 h1 := rfl
@[simp] theorem eIf_ (c a b : EM) (env : AE) (h : AH) : eIf c a b env h = (c env h).then fun d h1 => onE d (a env h1) (b env h1) := by
  unfold eIf ER.then onE
  cases c env h with
  | ok d h1 => cases d with
    | bl b => cases b <;> rfl
    | _ => rfl
  | _ => rfl
@[simp] theorem eAnd_ (a b : EM) (env : AE) (h : AH) : eAnd a b env h = (a env h).then fun d h1 => onE d (b env h1) (.ok (.bl false) h1) := by
  unfold eAnd ER.then onE
  cases a env h with
  | ok d h1 => cases d with
    | bl b => cases b <;> rfl
    | _ => rfl
  | _ => rfl
@[simp] theorem eOr_ (a b : EM) (env : AE) (h : AH) : eOr a b env h = (a env h).then fun d h1 => onE d (.ok (.bl true) h1) (b env h1) := by
  unfold eOr ER.then onE
  cases a env h with
  | ok d h1 => cases d with
    | bl b => cases b <;> rfl
    | _ => rfl
  | _ => rfl
def notD (d : D) (h : AH) : ER := match d with
  | .bl b => .ok (.bl (!b)) h
  | _ => .stuck
@[simp] theorem notD_bl (b : Bool) (h : AH) : notD (.bl b) h = .ok (.bl (!b)) h := rfl
@[simp] theorem eNot_ (a : EM) (env : AE) (h : AH) : eNot a env h = (a env h).then notD := by
  unfold eNot ER.then notD
  cases a env h with
  | ok d h1 => cases d <;> rfl
  | _ => rfl
@[simp] theorem lNil_ (env : AE) (h : AH) : lNil env h = .ok [] h := rfl
def LR.cons (d : D) (l : LR) : LR := match l with
  | .ok ds h => .ok (d :: ds) h
  | .exc c fs h => .exc c fs h
  | .stuck => .stuck
@[simp] theorem lrcons_ok (d : D) (ds : List D) (h : AH) : LR.cons d (.ok ds h) = .ok (d :: ds) h := rfl
@[simp] theorem lrcons_exc (d : D) (c : Str) (fs : List (Str × D)) (h : AH) : LR.cons d (.exc c fs h) = .exc c fs h := rfl
def ER.thenL (o : ER) (f : D → AH → LR) : LR := match o with
  | .ok d h => f d h
  | .exc c fs h => .exc c fs h
  | .stuck => .stuck
@[simp] theorem thenL_ok (d : D) (h : AH) (f : D → AH → LR) : (ER.ok d h).thenL f = f d h := rfl
@[simp] theorem thenL_exc (c : Str) (fs : List (Str × D)) (h : AH) (f : D → AH → LR) : (ER.exc c fs h).thenL f = .exc c fs h := rfl
@[simp] theorem lCons_ (a : EM) (r : LM) (env : AE) (h : AH) : lCons a r env h = (a env h).thenL fun d h1 => LR.cons d (r env h1) := by
  unfold lCons ER.thenL LR.cons
  cases a env h with
  | ok d h1 => rfl
  | _ => rfl
@[simp] theorem eCall_ (g : List D → AH → ER) (a : LM) (env : AE) (h : AH) : eCall g a env h = (a env h).then g := rfl
@[simp] theorem argn_ok (n : Nat) (F : List D → AH → ER) (ds : List D) (h : AH) (e : ds.length = n) : argn n F ds h = F ds h := if_pos e
@[simp] theorem eTup_ (l : LM) (env : AE) (h : AH) : eTup l env h = (l env h).then fun ds h1 => if Fits ds.length then .ok (.tup ds) h1 else .stuck := rfl
@[simp] theorem eLst_ (l : LM) (env : AE) (h : AH) : eLst l env h = (l env h).then fun ds h1 => if Fits ds.length then .ok (.ref h1.length) (h1 ++ [.lst ds]) else .stuck := rfl
@[simp] theorem eMeth_ (T : String) (g : D → List D → AH → ER) (o : EM) (l : LM) (env : AE) (h : AH) : eMeth T g o l env h = (o env h).then fun d h1 => if tyOk h1 T d then (l env h1).then fun ds h2 => g d ds h2 else .stuck := rfl
@[simp] theorem sPass_ (e : AE) (h : AH) : sPass e h = .nx e h := rfl
@[simp] theorem sSeq_ (a b : SM) (e : AE) (h : AH) : sSeq a b e h = (a e h).then b := rfl
@[simp] theorem sRet_ (m : EM) (e : AE) (h : AH) : sRet m e h = (m e h).thenS e fun d h1 => .rt d h1 := rfl
@[simp] theorem sRetN_ (e : AE) (h : AH) : sRetN e h = .rt .non h := rfl
@[simp] theorem sExpr_ (m : EM) (e : AE) (h : AH) : sExpr m e h = (m e h).thenS e fun _ h1 => .nx e h1 := rfl
@[simp] theorem sIf_ (c : EM) (a b : SM) (e : AE) (h : AH) : sIf c a b e h = (c e h).thenS e fun d h1 => onB d (a e h1) (b e h1) := by
  unfold sIf ER.thenS onB
  cases c e h with
  | ok d h1 => cases d with
    | bl b => cases b <;> rfl
    | _ => rfl
  | _ => rfl
@[simp] theorem sBreak_ (e : AE) (h : AH) : sBreak e h = .bk e h := rfl
@[simp] theorem sCont_ (e : AE) (h : AH) : sCont e h = .ct e h := rfl
@[simp] theorem sSet_ (i : Nat) (m : EM) (e : AE) (h : AH) : sSet i m e h = (m e h).thenS e fun d h1 => .nx (e.set i (some d)) h1 := rfl
@[simp] theorem sAsg_ (m : EM) (g : GM) (e : AE) (h : AH) : sAsg m g e h = (m e h).thenS e fun d h1 => g d e h1 := rfl
@[simp] theorem gVar_ (i : Nat) (d : D) (e : AE) (h : AH) : gVar i d e h = .nx (e.set i (some d)) h := rfl
@[simp] theorem gNils_ (e : AE) (h : AH) : gNils [] e h = .nx e h := rfl
@[simp] theorem gCons_ (g : GM) (r : List D → AE → AH → SR) (d : D) (ds : List D) (e : AE) (h : AH) : gCons g r (d :: ds) e h = (onlyNx (g d e h)).then fun e1 h1 => r ds e1 h1 := rfl
@[simp] theorem gTup_ (k : Nat) (r : List D → AE → AH → SR) (ds : List D) (e : AE) (h : AH) : gTup k r (.tup ds) e h = if ds.length = k then r ds e h else .stuck := rfl
def putS (o : Option AH) (e : AE) : SR := match o with
  | some h => .nx e h
  | none => .stuck
@[simp] theorem putS_some (h : AH) (e : AE) : putS (some h) e = .nx e h := rfl
@[simp] theorem gSub_ (g : D → D → D → AH → Option AH) (o i : EM) (d : D) (e : AE) (h : AH) : gSub g o i d e h = (o e h).thenS e fun d1 h1 => (i e h1).thenS e fun d2 h2 => putS (g d1 d2 d h2) e := by
  unfold gSub putS ER.thenS
  cases o e h with
  | ok d1 h1 => cases i e h1 with
    | ok d2 h2 => rfl
    | _ => rfl
  | _ => rfl
@[simp] theorem eSl_nn (a : EM) (env : AE) (h : AH) : eSl a none none env h = (a env h).then fun d h1 => oSl d none none h1 := rfl
def intD (d : D) (f : Int → ER) : ER := match d with
  | .int i => f i
  | _ => .stuck
@[simp] theorem intD_int (i : Int) (f : Int → ER) : intD (.int i) f = f i := rfl
@[simp] theorem ePart_n (env : AE) (h : AH) (f : Option Int → AH → ER) : ePart none env h f = f none h := rfl
@[simp] theorem ePart_s (m : EM) (env : AE) (h : AH) (f : Option Int → AH → ER) : ePart (some m) env h f = (m env h).then fun d h1 => intD d fun i => f (some i) h1 := by
  show ((m env h).then fun d h1 => match d with | .int i => f (some i) h1 | _ => .stuck) = _
  unfold intD
  cases m env h with
  | ok d h1 => cases d <;> rfl
  | _ => rfl
@[simp] theorem eSl_ (a : EM) (lo hi : Option EM) (env : AE) (h : AH) : eSl a lo hi env h = (a env h).then fun d h1 => ePart lo env h1 fun l h2 => ePart hi env h2 fun u h3 => oSl d l u h3 := rfl

/-! ### operators on ints -/
@[simp] theorem oAdd_int (i j : Int) (h : AH) : oAdd (.int i) (.int j) h = .ok (.int (i + j)) h := rfl
@[simp] theorem oSub_int (i j : Int) (h : AH) : oSub (.int i) (.int j) h = .ok (.int (i - j)) h := rfl
@[simp] theorem oNeg_int (i : Int) (h : AH) : oNeg (.int i) h = .ok (.int (-i)) h := rfl
@[simp] theorem oLt_int (i j : Int) (h : AH) : oLt (.int i) (.int j) h = .ok (.bl (decide (i < j))) h := rfl
@[simp] theorem oLe_int (i j : Int) (h : AH) : oLe (.int i) (.int j) h = .ok (.bl (decide (i ≤ j))) h := rfl
@[simp] theorem oGt_int (i j : Int) (h : AH) : oGt (.int i) (.int j) h = .ok (.bl (decide (j < i))) h := rfl
@[simp] theorem oGe_int (i j : Int) (h : AH) : oGe (.int i) (.int j) h = .ok (.bl (decide (j ≤ i))) h := rfl
@[simp] theorem oEq_int (i j : Int) (h : AH) : oEq (.int i) (.int j) h = .ok (.bl (i == j)) h := by
  simp [oEq, D.toP, PyData.eqv]
@[simp] theorem oNe_int (i j : Int) (h : AH) : oNe (.int i) (.int j) h = .ok (.bl (!(i == j))) h := by
  simp [oNe, D.toP, PyData.eqv]
@[simp] theorem oIs_non (d : D) (h : AH) : oIs d .non h = .ok (.bl d.isNon) h := rfl
@[simp] theorem oIsNot_non (d : D) (h : AH) : oIsNot d .non h = .ok (.bl (!d.isNon)) h := rfl
@[simp] theorem oTruth_bl (b : Bool) (h : AH) : oTruth (.bl b) h = .ok (.bl b) h := rfl
@[simp] theorem oTruth_int (i : Int) (h : AH) : oTruth (.int i) h = .ok (.bl (i != 0)) h := rfl
@[simp] theorem oTruth_non (h : AH) : oTruth .non h = .ok (.bl false) h := rfl
@[simp] theorem oTruth_tup (ds : List D) (h : AH) : oTruth (.tup ds) h = .ok (.bl (!ds.isEmpty)) h := rfl
theorem oMod_int {i j : Int} {h : AH} (hj : 0 < j) : oMod (.int i) (.int j) h = .ok (.int (i % j)) h := by unfold oMod; exact if_pos hj
theorem oMul_int {i j : Int} {h : AH} (hc : CMulX i j) : oMul (.int i) (.int j) h = .ok (.int (i * j)) h := by unfold oMul; exact if_pos hc
theorem oDiv_int {i j : Int} {h : AH} (hj : DivOk j) : oDiv (.int i) (.int j) h = .ok (.int (i / j)) h := by unfold oDiv; exact if_pos hj
/-- products of numbers below 2^10000 -/
theorem mulOk {i j : Int} (hi : i.natAbs < 2 ^ 10000) (hj : j.natAbs < 2 ^ 10000) : CMulX i j := mulx_ok hi hj (by decide)
theorem log2_small {j : Int} (h1 : 0 < j) (h2 : j.natAbs < 2 ^ 9000) : j.natAbs.log2 < 9000 := by
  have h0 : j.natAbs ≠ 0 := by omega
  exact (Nat.log2_lt h0).mpr h2
@[simp] theorem cLen_tup (ds : List D) (h : AH) : cLen [.tup ds] h = .ok (.int ds.length) h := rfl
@[simp] theorem cLen_rol (ds : List D) (h : AH) : cLen [.rol ds] h = .ok (.int ds.length) h := rfl
theorem cLen_ref {r : Nat} {ds : List D} {h : AH} (e : h[r]? = some (.lst ds)) : cLen [.ref r] h = .ok (.int ds.length) h := by simp [cLen, e]
@[simp] theorem cInt_int (i : Int) (h : AH) : cInt [.int i] h = .ok (.int i) h := rfl
@[simp] theorem cMin2_int (i j : Int) (h : AH) : cMin2 [.int i, .int j] h = .ok (.int (if j < i then j else i)) h := rfl
@[simp] theorem cMax2_int (i j : Int) (h : AH) : cMax2 [.int i, .int j] h = .ok (.int (if j > i then j else i)) h := rfl
@[simp] theorem cAbs_int (i : Int) (h : AH) : cAbs [.int i] h = .ok (.int (if i < 0 then -i else i)) h := rfl
@[simp] theorem cTuple_tup (ds : List D) (h : AH) : cTuple [.tup ds] h = .ok (.tup ds) h := rfl
theorem cTuple_ref {r : Nat} {ds : List D} {h : AH} (e : h[r]? = some (.lst ds)) : cTuple [.ref r] h = .ok (.tup ds) h := by simp [cTuple, seqOf, e]
@[simp] theorem cTuple_rol (ds : List D) (h : AH) : cTuple [.rol ds] h = .ok (.tup ds) h := rfl
@[simp] theorem cList_tup (ds : List D) (h : AH) : cList [.tup ds] h = .ok (.ref h.length) (h ++ [.lst ds]) := rfl
theorem cList_ref {r : Nat} {ds : List D} {h : AH} (e : h[r]? = some (.lst ds)) : cList [.ref r] h = .ok (.ref h.length) (h ++ [.lst ds]) := by simp [cList, seqOf, e]
@[simp] theorem getLast_app {h : AH} {o : AO} : (h ++ [o])[h.length]? = some o := by simp
@[simp] theorem cIsi_int (i : Int) (n : String) (h : AH) (hn : n ∈ askTys := by decide) : cIsi [.int i, .ty n] h = .ok (.bl (isTy "int" n)) h := by simp [cIsi, D.tyn, hn]
@[simp] theorem cIsi_bl (i : Bool) (n : String) (h : AH) (hn : n ∈ askTys := by decide) : cIsi [.bl i, .ty n] h = .ok (.bl (isTy "bool" n)) h := by simp [cIsi, D.tyn, hn]
@[simp] theorem cIsi_str (i : Str) (n : String) (h : AH) (hn : n ∈ askTys := by decide) : cIsi [.str i, .ty n] h = .ok (.bl (isTy "str" n)) h := by simp [cIsi, D.tyn, hn]
@[simp] theorem cIsi_non (n : String) (h : AH) (hn : n ∈ askTys := by decide) : cIsi [.non, .ty n] h = .ok (.bl (isTy "NoneType" n)) h := by simp [cIsi, D.tyn, hn]
@[simp] theorem cIsi_tup (ds : List D) (n : String) (h : AH) (hn : n ∈ askTys := by decide) : cIsi [.tup ds, .ty n] h = .ok (.bl (isTy "tuple" n)) h := by simp [cIsi, D.tyn, hn]

/-! ### items -/
theorem atI_nat' {α : Type} {xs : List α} {j : Nat} (h : j < xs.length) : L2.atI xs (j : Int) = some xs[j] := atI_nat (List.getElem?_eq_getElem h)
theorem oIx_tup {ds : List D} {i : Nat} {h : AH} {d : D} (e : ds[i]? = some d) : oIx (.tup ds) (.int (i : Int)) h = .ok d h := by
  simp [oIx, seqOf, atI_nat e]
theorem oIx_rol {ds : List D} {i : Nat} {h : AH} {d : D} (e : ds[i]? = some d) : oIx (.rol ds) (.int (i : Int)) h = .ok d h := by
  simp [oIx, seqOf, atI_nat e]
theorem oIx_ref {r : Nat} {ds : List D} {i : Nat} {h : AH} {d : D} (e0 : h[r]? = some (.lst ds)) (e : ds[i]? = some d) : oIx (.ref r) (.int (i : Int)) h = .ok d h := by
  simp [oIx, seqOf, e0, atI_nat e]
theorem putL_ref {r : Nat} {ds : List D} {i : Nat} {v : D} {h : AH} (e0 : h[r]? = some (.lst ds)) (hi : i < ds.length) : putL (.ref r) (.int (i : Int)) v h = some (h.set r (.lst (ds.set i v))) := by
  have : L2.ixN ds.length (i : Int) = some i := by
    unfold L2.ixN
    rw [if_pos (by omega), if_pos (by omega)]
    simp
  simp [putL, e0, this]
theorem mAppend_ref {r : Nat} {ds : List D} {v : D} {h : AH} (e0 : h[r]? = some (.lst ds)) (hl : ds.length < sizeLine) : mAppend (.ref r) [v] h = .ok .non (h.set r (.lst (ds ++ [v]))) := by
  have hl : FitsL ds.length := hl
  simp [mAppend, e0, hl]
theorem tyOk_list {r : Nat} {ds : List D} {h : AH} (e0 : h[r]? = some (.lst ds)) : tyOk h "list" (.ref r) = true := by simp [tyOk, e0]

/-! ### loops -/
theorem drop_cons {α : Type} {l r : List α} {i : Nat} {d : α} (h : l.drop i = d :: r) : l[i]? = some d ∧ l.drop (i + 1) = r := by
  refine ⟨?_, ?_⟩
  · have := congrArg (·[0]?) h
    simpa using this
  · have : (l.drop i).drop 1 = r := by rw [h]; rfl
    rwa [List.drop_drop] at this
/-- the body at each item -/
def sLoop (g : GM) (b : SM) : List D → SM
  | [] => fun e h => .nx e h
  | d :: ds => fun e h => again ((onlyNx (g d e h)).then b) (sLoop g b ds)
theorem forN_stat {g : GM} {b : SM} {ds : List D} : ∀ (r : List D) (i : Nat) (e : AE) (h : AH), ds.drop i = r → forN (stat ds) g b (r.length + 1) i e h = sLoop g b r e h
  | [], i, e, h, hd => by
    have hi : ds[i]? = none := by
      have q : ds.length - i = 0 := by simpa using congrArg List.length hd
      have : ds.length ≤ i := by omega
      exact List.getElem?_eq_none_iff.mpr this
    unfold forN
    simp [stat, hi, sLoop]
  | d :: r, i, e, h, hd => by
    obtain ⟨hi, hr⟩ := drop_cons hd
    rw [List.length_cons]
    unfold forN
    simp only [stat, hi]
    unfold sLoop
    congr 1
    funext e' h'
    exact forN_stat r (i + 1) e' h' hr
theorem sFor_stat {mi : IM} {g : GM} {b : SM} {e : AE} {h h1 : AH} {ds : List D} (hm : mi e h = .ok (stat ds) h1) : sFor mi g b e h = sLoop g b ds e h1 := by
  unfold sFor
  rw [hm]
  exact forN_stat ds 0 e h1 rfl
/-- a loop by an invariant: it goes through -/
theorem loop_inv {g : GM} {b : SM} (P : Nat → AE → AH → Prop) : ∀ (ds : List D) (k : Nat) (e : AE) (h : AH), P k e h →
    (∀ (i : Nat) (d : D) (e : AE) (h : AH), ds[i]? = some d → P (k + i) e h → ∃ e' h', (onlyNx (g d e h)).then b = .nx e' h' ∧ P (k + i + 1) e' h') → ∃ e' h', sLoop g b ds e h = .nx e' h' ∧ P (k + ds.length) e' h'
  | [], k, e, h, p, _ => ⟨e, h, rfl, p⟩
  | d :: ds, k, e, h, p, st => by
    obtain ⟨e1, h1, q, p1⟩ := st 0 d e h rfl p
    obtain ⟨e2, h2, q2, p2⟩ := loop_inv P ds (k + 1) e1 h1 p1 fun i d' e' h' hd hp => by
      have hp' : P (k + (i + 1)) e' h' := by rwa [show k + (i + 1) = k + 1 + i by omega]
      obtain ⟨e3, h3, a, c⟩ := st (i + 1) d' e' h' (by simpa using hd) hp'
      exact ⟨e3, h3, a, by rwa [show k + 1 + i + 1 = k + (i + 1) + 1 by omega]⟩
    refine ⟨e2, h2, ?_, by rwa [List.length_cons, show k + (ds.length + 1) = k + 1 + ds.length by omega]⟩
    unfold sLoop
    rw [q]
    exact q2
/-- .. or leaves by a return -/
theorem loop_ret {g : GM} {b : SM} (P : Nat → AE → AH → Prop) (R : D → AH → Prop) : ∀ (ds : List D) (k : Nat) (e : AE) (h : AH), P k e h →
    (∀ (i : Nat) (d : D) (e : AE) (h : AH), ds[i]? = some d → P (k + i) e h → (∃ e' h', (onlyNx (g d e h)).then b = .nx e' h' ∧ P (k + i + 1) e' h') ∨ ∃ d' h', (onlyNx (g d e h)).then b = .rt d' h' ∧ R d' h') →
    (∃ e' h', sLoop g b ds e h = .nx e' h' ∧ P (k + ds.length) e' h') ∨ ∃ d' h', sLoop g b ds e h = .rt d' h' ∧ R d' h'
  | [], k, e, h, p, _ => .inl ⟨e, h, rfl, p⟩
  | d :: ds, k, e, h, p, st => by
    rcases st 0 d e h rfl p with ⟨e1, h1, q, p1⟩ | ⟨d', h', q, r⟩
    · rcases loop_ret P R ds (k + 1) e1 h1 p1 fun i d' e' h' hd hp => by
          have hp' : P (k + (i + 1)) e' h' := by rwa [show k + (i + 1) = k + 1 + i by omega]
          rcases st (i + 1) d' e' h' (by simpa using hd) hp' with ⟨e3, h3, a, c⟩ | c
          · exact .inl ⟨e3, h3, a, by rwa [show k + 1 + i + 1 = k + (i + 1) + 1 by omega]⟩
          · exact .inr c with ⟨e2, h2, q2, p2⟩ | ⟨d2, h2, q2, r2⟩
      · refine .inl ⟨e2, h2, ?_, by rwa [List.length_cons, show k + (ds.length + 1) = k + 1 + ds.length by omega]⟩
        unfold sLoop
        rw [q]
        exact q2
      · refine .inr ⟨d2, h2, ?_, r2⟩
        unfold sLoop
        rw [q]
        exact q2
    · refine .inr ⟨d', h', ?_, r⟩
      unfold sLoop
      rw [q]
      rfl
/-- a list of the heap walked, that stands as it stands -/
theorem forN_live {g : GM} {b : SM} {r : Nat} {ds : List D} {m : Nat} (P : Nat → AE → AH → Prop) (hP : ∀ i e h, P i e h → h[r]? = some (.lst ds)) : ∀ (k i : Nat) (e : AE) (h : AH), i + k = ds.length → P i e h →
    (∀ (i : Nat) (d : D) (e : AE) (h : AH), ds[i]? = some d → P i e h → ∃ e' h', (onlyNx (g d e h)).then b = .nx e' h' ∧ P (i + 1) e' h') → ∃ e' h', forN (live r m) g b (k + 1) i e h = .nx e' h' ∧ P ds.length e' h'
  | 0, i, e, h, hk, p, st => by
    have e0 := hP i e h p
    have ei : i = ds.length := by omega
    refine ⟨e, h, ?_, by rw [← ei]; exact p⟩
    unfold forN
    simp [live, e0, ei]
  | k + 1, i, e, h, hk, p, st => by
    have e0 := hP i e h p
    have hi : i < ds.length := by omega
    obtain ⟨e1, h1, q, p1⟩ := st i ds[i] e h (List.getElem?_eq_getElem hi) p
    obtain ⟨e2, h2, q2, p2⟩ := forN_live P hP k (i + 1) e1 h1 (by omega) p1 st
    refine ⟨e2, h2, ?_, p2⟩
    unfold forN
    simp only [live, e0, List.getElem?_eq_getElem hi]
    rw [q]
    exact q2
theorem sFor_live {mi : IM} {g : GM} {b : SM} {e : AE} {h h1 : AH} {r : Nat} {ds : List D} (P : Nat → AE → AH → Prop) (hm : mi e h = .ok (live r ds.length) h1) (hP : ∀ i e h, P i e h → h[r]? = some (.lst ds)) (p : P 0 e h1)
    (st : ∀ (i : Nat) (d : D) (e : AE) (h : AH), ds[i]? = some d → P i e h → ∃ e' h', (onlyNx (g d e h)).then b = .nx e' h' ∧ P (i + 1) e' h') : ∃ e' h', sFor mi g b e h = .nx e' h' ∧ P ds.length e' h' := by
  unfold sFor
  rw [hm]
  exact forN_live P hP ds.length 0 e h1 (Nat.zero_add _) p st
theorem forN_live_ret {g : GM} {b : SM} {r : Nat} {ds : List D} {m : Nat} (P : Nat → AE → AH → Prop) (R : D → AH → Prop) (hP : ∀ i e h, P i e h → h[r]? = some (.lst ds)) : ∀ (k i : Nat) (e : AE) (h : AH), i + k = ds.length → P i e h →
    (∀ (i : Nat) (d : D) (e : AE) (h : AH), ds[i]? = some d → P i e h → (∃ e' h', (onlyNx (g d e h)).then b = .nx e' h' ∧ P (i + 1) e' h') ∨ ∃ d' h', (onlyNx (g d e h)).then b = .rt d' h' ∧ R d' h') →
    (∃ e' h', forN (live r m) g b (k + 1) i e h = .nx e' h' ∧ P ds.length e' h') ∨ ∃ d' h', forN (live r m) g b (k + 1) i e h = .rt d' h' ∧ R d' h'
  | 0, i, e, h, hk, p, st => by
    have e0 := hP i e h p
    have ei : i = ds.length := by omega
    refine .inl ⟨e, h, ?_, by rw [← ei]; exact p⟩
    unfold forN
    simp [live, e0, ei]
  | k + 1, i, e, h, hk, p, st => by
    have e0 := hP i e h p
    have hi : i < ds.length := by omega
    rcases st i ds[i] e h (List.getElem?_eq_getElem hi) p with ⟨e1, h1, q, p1⟩ | ⟨d', h', q, rr⟩
    · rcases forN_live_ret P R hP k (i + 1) e1 h1 (by omega) p1 st with ⟨e2, h2, q2, p2⟩ | ⟨d2, h2, q2, r2⟩
      · refine .inl ⟨e2, h2, ?_, p2⟩
        unfold forN
        simp only [live, e0, List.getElem?_eq_getElem hi]
        rw [q]
        exact q2
      · refine .inr ⟨d2, h2, ?_, r2⟩
        unfold forN
        simp only [live, e0, List.getElem?_eq_getElem hi]
        rw [q]
        exact q2
    · refine .inr ⟨d', h', ?_, rr⟩
      unfold forN
      simp only [live, e0, List.getElem?_eq_getElem hi]
      rw [q]
      rfl
theorem sFor_live_ret {mi : IM} {g : GM} {b : SM} {e : AE} {h h1 : AH} {r : Nat} {ds : List D} (P : Nat → AE → AH → Prop) (R : D → AH → Prop) (hm : mi e h = .ok (live r ds.length) h1) (hP : ∀ i e h, P i e h → h[r]? = some (.lst ds)) (p : P 0 e h1)
    (st : ∀ (i : Nat) (d : D) (e : AE) (h : AH), ds[i]? = some d → P i e h → (∃ e' h', (onlyNx (g d e h)).then b = .nx e' h' ∧ P (i + 1) e' h') ∨ ∃ d' h', (onlyNx (g d e h)).then b = .rt d' h' ∧ R d' h') :
    (∃ e' h', sFor mi g b e h = .nx e' h' ∧ P ds.length e' h') ∨ ∃ d' h', sFor mi g b e h = .rt d' h' ∧ R d' h' := by
  unfold sFor
  rw [hm]
  exact forN_live_ret P R hP ds.length 0 e h1 (Nat.zero_add _) p st
/-- a while by an invariant and a number that falls -/
theorem while_inv {c : EM} {b : SM} (P : AE → AH → Prop) (μ : AE → AH → Nat) (T : AE → AH → Prop)
    (st : ∀ e h, P e h → (∃ h1, c e h = .ok (.bl false) h1 ∧ T e h1) ∨ ∃ h1, c e h = .ok (.bl true) h1 ∧ ∃ e' h', b e h1 = .nx e' h' ∧ P e' h' ∧ μ e' h' < μ e h) : ∀ (n : Nat) (e : AE) (h : AH), μ e h ≤ n → P e h → ∃ e' h', sWhile c b e h = .nx e' h' ∧ T e' h' := by
  have key : ∀ (n : Nat) (e : AE) (h : AH), μ e h ≤ n → P e h → ∃ k e' h', whileN c b k e h = .nx e' h' ∧ T e' h' := by
    intro n
    induction n with
    | zero =>
      intro e h hn p
      rcases st e h p with ⟨h1, hc, t⟩ | ⟨h1, hc, e', h', hb, p', l⟩
      · exact ⟨1, e, h1, (by unfold whileN; rw [hc]; rfl), t⟩
      · omega
    | succ n ih =>
      intro e h hn p
      rcases st e h p with ⟨h1, hc, t⟩ | ⟨h1, hc, e', h', hb, p', l⟩
      · exact ⟨1, e, h1, (by unfold whileN; rw [hc]; rfl), t⟩
      · obtain ⟨k, e2, h2, q, t⟩ := ih e' h' (by omega) p'
        refine ⟨k + 1, e2, h2, ?_, t⟩
        unfold whileN
        rw [hc]
        show again (b e h1) (whileN c b k) = _
        rw [hb]
        exact q
  intro n e h hn p
  obtain ⟨k, e', h', q, t⟩ := key n e h hn p
  exact ⟨e', h', sWhile_eq q (by intro z; cases z), t⟩

/-! ### comprehensions -/
theorem lc_pure {α : Type} {φ : α → D} {k : Nat} {tt te : EM} {e0 : AE} {h : AH} (p : α → Bool) (f : α → D) {ds : List D} : ∀ (r : List α) (i : Nat) (acc : List D), ds.drop i = r.map φ → acc.length + r.length ≤ sizeLine →
    (∀ x ∈ r, tt (e0.set k (some (φ x))) h = .ok (.bl (p x)) h) → (∀ x ∈ r, p x = true → te (e0.set k (some (φ x))) h = .ok (f x) h) →
    lcN (stat ds) (gVar k) tt te e0 (r.length + 1) i acc h = .inr (acc ++ (r.filter p).map f, h)
  | [], i, acc, hd, _, _, _ => by
    have hi : ds[i]? = none := by
      have q : ds.length - i = 0 := by simpa using congrArg List.length hd
      have : ds.length ≤ i := by omega
      exact List.getElem?_eq_none_iff.mpr this
    unfold lcN
    simp [stat, hi]
  | x :: r, i, acc, hd, hl, ht, hf => by
    obtain ⟨hi, hr⟩ := drop_cons (show ds.drop i = φ x :: r.map φ from hd)
    rw [List.length_cons] at hl ⊢
    unfold lcN
    simp only [stat, hi, gVar_, ht x List.mem_cons_self]
    cases hp : p x with
    | true =>
      simp only [hf x List.mem_cons_self hp]
      rw [if_pos (show FitsL acc.length from (by omega : acc.length < sizeLine))]
      have ih := lc_pure (φ := φ) (k := k) (tt := tt) (te := te) (e0 := e0) (h := h) p f (ds := ds) r (i + 1) (acc ++ [f x]) hr (by simp; omega) (fun y hy => ht y (List.mem_cons_of_mem _ hy)) fun y hy => hf y (List.mem_cons_of_mem _ hy)
      simp only [stat] at ih
      rw [ih, List.filter_cons, if_pos hp, List.map_cons, List.append_assoc]; rfl
    | false =>
      have ih := lc_pure (φ := φ) (k := k) (tt := tt) (te := te) (e0 := e0) (h := h) p f (ds := ds) r (i + 1) acc hr (by omega) (fun y hy => ht y (List.mem_cons_of_mem _ hy)) fun y hy => hf y (List.mem_cons_of_mem _ hy)
      simp only [stat] at ih
      dsimp only
      rw [ih, List.filter_cons, if_neg (by rw [hp]; exact Bool.false_ne_true)]
/-- [f x for x in a row that stands still if p x], nothing else changes -/
theorem eLc_pure {α : Type} {φ : α → D} {k : Nat} {mi : IM} {tt te : EM} {vs : List Nat} {e : AE} {h h1 : AH} (xs : List α) (p : α → Bool) (f : α → D) (hm : mi e h = .ok (stat (xs.map φ)) h1) (hl : xs.length ≤ sizeLine)
    (ht : ∀ x ∈ xs, tt ((wipeE e vs).set k (some (φ x))) h1 = .ok (.bl (p x)) h1) (hf : ∀ x ∈ xs, p x = true → te ((wipeE e vs).set k (some (φ x))) h1 = .ok (f x) h1) :
    eLc mi (gVar k) tt te vs e h = .ok (.ref h1.length) (h1 ++ [.lst ((xs.filter p).map f)]) := by
  unfold eLc
  rw [hm]
  have := lc_pure (φ := φ) (k := k) (tt := tt) (te := te) (e0 := wipeE e vs) (h := h1) p f (ds := xs.map φ) xs 0 [] rfl (by simpa using hl) ht hf
  have hn : (stat (xs.map φ)).n = xs.length := by simp [stat]
  simp only [hn, this, List.nil_append]
theorem eLc_map {α : Type} {φ : α → D} {k : Nat} {mi : IM} {te : EM} {vs : List Nat} {e : AE} {h h1 : AH} (xs : List α) (f : α → D) (hm : mi e h = .ok (stat (xs.map φ)) h1) (hl : xs.length ≤ sizeLine)
    (hf : ∀ x ∈ xs, te ((wipeE e vs).set k (some (φ x))) h1 = .ok (f x) h1) : eLc mi (gVar k) (eC (.bl true)) te vs e h = .ok (.ref h1.length) (h1 ++ [.lst (xs.map f)]) := by
  have := eLc_pure (tt := eC (.bl true)) (φ := φ) (k := k) (te := te) (vs := vs) xs (fun _ => true) f hm hl (fun _ _ => rfl) (fun x hx _ => hf x hx)
  rw [this, List.filter_eq_self.mpr (by simp)]
/-- a list of the heap that stands still is as good as a row -/
theorem lcN_live {g : GM} {tt te : EM} {e0 : AE} {r m : Nat} {ds : List D} : ∀ (k i : Nat) (acc : List D) (h : AH), h[r]? = some (.lst ds) →
    (∀ (i : Nat) (d : D), ds[i]? = some d → ∀ e1 h1, g d e0 h = .nx e1 h1 → h1 = h ∧ (∀ b h2, tt e1 h = .ok (.bl b) h2 → h2 = h) ∧ ∀ d2 h3, te e1 h = .ok d2 h3 → h3 = h) → lcN (live r m) g tt te e0 k i acc h = lcN (stat ds) g tt te e0 k i acc h
  | 0, i, acc, h, _, _ => rfl
  | k + 1, i, acc, h, e0', hs => by
    unfold lcN
    simp only [live, e0', stat]
    cases hd : ds[i]? with
    | none => rfl
    | some d =>
      dsimp only
      cases hg : g d e0 h with
      | nx e1 h1 =>
        obtain ⟨rfl, q1, q2⟩ := hs i d hd e1 h1 hg
        dsimp only
        cases ht : tt e1 h1 with
        | ok db h2 =>
          cases db with
          | bl b =>
            have := q1 b h2 ht
            subst this
            cases b with
            | true =>
              dsimp only
              cases he : te e1 h2 with
              | ok d2 h3 =>
                have := q2 d2 h3 he
                subst this
                dsimp only
                split
                · exact lcN_live k (i + 1) (acc ++ [d2]) h3 e0' hs
                · rfl
              | _ => rfl
            | false => exact lcN_live k (i + 1) acc h2 e0' hs
          | _ => rfl
        | _ => rfl
      | _ => rfl
theorem eLc_pureL {α : Type} {φ : α → D} {k r : Nat} {mi : IM} {tt te : EM} {vs : List Nat} {e : AE} {h h1 : AH} (xs : List α) (p : α → Bool) (f : α → D) (hm : mi e h = .ok (live r xs.length) h1) (hr : h1[r]? = some (.lst (xs.map φ))) (hl : xs.length ≤ sizeLine)
    (ht : ∀ x ∈ xs, tt ((wipeE e vs).set k (some (φ x))) h1 = .ok (.bl (p x)) h1) (hf : ∀ x ∈ xs, te ((wipeE e vs).set k (some (φ x))) h1 = .ok (f x) h1) :
    eLc mi (gVar k) tt te vs e h = .ok (.ref h1.length) (h1 ++ [.lst ((xs.filter p).map f)]) := by
  unfold eLc
  rw [hm]
  have := lc_pure (φ := φ) (k := k) (tt := tt) (te := te) (e0 := wipeE e vs) (h := h1) p f (ds := xs.map φ) xs 0 [] rfl (by simpa using hl) ht fun x hx _ => hf x hx
  have l := lcN_live (g := gVar k) (tt := tt) (te := te) (e0 := wipeE e vs) (r := r) (m := xs.length) (ds := xs.map φ) (xs.length + 1) 0 [] h1 hr fun i d hd e1 h1' hg => by
    rw [gVar_] at hg
    cases hg
    rw [List.getElem?_map] at hd
    cases hx : xs[i]? with
    | none => rw [hx] at hd; cases hd
    | some x =>
      rw [hx] at hd
      cases hd
      have mx := List.mem_of_getElem? hx
      refine ⟨rfl, fun b h2 e2 => ?_, fun d2 h3 e3 => ?_⟩
      · rw [ht x mx] at e2; cases e2; rfl
      · rw [hf x mx] at e3; cases e3; rfl
  have hn : (live r xs.length).n = xs.length := rfl
  simp only [hn, l, this, List.nil_append]

/-! ### what a call leaves -/
theorem keep_app {h g : AH} : Keep h (h ++ g) := ⟨by simp, fun i o hi e => .inl (by rwa [List.getElem?_append_left hi] at e)⟩
theorem keep_set {h : AH} {a : Nat} {o : AO} (f : o.flat = true) : Keep h (h.set a o) := ⟨by simp, fun i o' hi e => by
  by_cases q : a = i
  · subst q
    rw [List.getElem?_set_self hi] at e
    cases e
    exact .inr f
  · rw [List.getElem?_set_ne q] at e
    exact .inl e⟩
theorem keep_set_app {h g : AH} {a : Nat} {o : AO} (f : o.flat = true) : Keep h (h.set a o ++ g) := ⟨by simp, fun i o' hi e => by
  rw [List.getElem?_append_left (by simpa using hi)] at e
  exact (keep_set f).2 i o' hi e⟩
theorem gc_app {h g : AH} {d : D} (p : d.pure = true) : gc h (.ok d (h ++ g)) = .ok d h := by
  rw [gc_pure keep_app p]; simp
theorem gc_same {h : AH} {d : D} (p : d.pure = true) : gc h (.ok d h) = .ok d h := by
  have := gc_app (h := h) (g := []) p
  simpa using this
theorem gc_set {h : AH} {a : Nat} {o : AO} {d : D} (p : d.pure = true) (f : o.flat = true) : gc h (.ok d (h.set a o)) = .ok d (h.set a o) := by
  rw [gc_pure (keep_set f) p]
  rw [List.take_of_length_le (by simp)]
theorem gc_set_app {h g : AH} {a : Nat} {o : AO} {d : D} (p : d.pure = true) (f : o.flat = true) : gc h (.ok d (h.set a o ++ g)) = .ok d (h.set a o) := by
  rw [gc_pure (keep_set_app f) p]
  rw [List.take_append_of_le_length (by simp), List.take_of_length_le (by simp)]
/-- a list is handed back -/
theorem gc_new {h g : AH} {i : Nat} {o : AO} (e : g[i]? = some o) (f : o.flat = true) : gc h (.ok (.ref (h.length + i)) (h ++ g)) = .ok (.ref h.length) (h ++ [o]) := by
  rw [gc_list keep_app (by omega) (by rw [List.getElem?_append_right (by omega)]; simpa using e) f]
  simp
theorem gc_set_new {h g : AH} {a i : Nat} {o u : AO} (fu : u.flat = true) (e : g[i]? = some o) (f : o.flat = true) : gc h (.ok (.ref (h.length + i)) (h.set a u ++ g)) = .ok (.ref h.length) (h.set a u ++ [o]) := by
  rw [gc_list (keep_set_app fu) (by omega) (by rw [List.getElem?_append_right (by simp)]; simpa using e) f]
  rw [List.take_append_of_le_length (by simp), List.take_of_length_le (by simp)]

/-! ### numbers 0, 1, .. as data -/
abbrev dN (n : Nat) : D := .int (n : Int)
@[simp] theorem pure_int (i : Int) : (D.int i).pure = true := rfl
@[simp] theorem pure_bl (i : Bool) : (D.bl i).pure = true := rfl
@[simp] theorem pure_str (i : Str) : (D.str i).pure = true := rfl
@[simp] theorem pure_non : D.non.pure = true := rfl
@[simp] theorem pure_tup (ds : List D) : (D.tup ds).pure = pures ds := rfl
@[simp] theorem pure_rol (ds : List D) : (D.rol ds).pure = pures ds := rfl
@[simp] theorem flat_lst (ds : List D) : (AO.lst ds).flat = pures ds := rfl
@[simp] theorem pures_nil : pures [] = true := rfl
@[simp] theorem pures_cons (d : D) (ds : List D) : pures (d :: ds) = (d.pure && pures ds) := rfl
theorem pures_map {α : Type} {f : α → D} {xs : List α} (h : ∀ x ∈ xs, (f x).pure = true) : pures (xs.map f) = true := pures_iff.mpr fun d hd => by
  obtain ⟨x, hx, rfl⟩ := List.mem_map.mp hd
  exact h x hx
@[simp] theorem pures_dN (xs : List Nat) : pures (xs.map dN) = true := pures_map fun _ _ => rfl
@[simp] theorem pures_int (xs : List Int) : pures (xs.map D.int) = true := pures_map fun _ _ => rfl
@[simp] theorem pures_append (xs ys : List D) : pures (xs ++ ys) = (pures xs && pures ys) := by
  induction xs with
  | nil => simp
  | cons x xs ih => simp [ih, Bool.and_assoc]
theorem rg_zero (n : Nat) : rg 0 n = (List.range n).map dN := by
  unfold rg
  apply List.map_congr_left
  intro i _
  simp
end Rf

set_option maxHeartbeats 1000000
/-! More for simp: things of the heap by what stands there. -/
namespace Rf
open PySem L2
def ixD (ds : List D) (i : Int) (h : AH) : ER := match L2.atI ds i with
  | some d => .ok d h
  | none => .stuck
def ixO (o : Option AO) (i : Int) (h : AH) : ER := match o with
  | some (.lst ds) => ixD ds i h
  | _ => .stuck
@[simp] theorem ixO_lst (ds : List D) (i : Int) (h : AH) : ixO (some (.lst ds)) i h = ixD ds i h := rfl
@[simp] theorem oIx_ref_ (r : Nat) (i : Int) (h : AH) : oIx (.ref r) (.int i) h = ixO h[r]? i h := by
  simp only [oIx, seqOf, ixO, ixD]
  cases h[r]? with
  | none => rfl
  | some o => cases o <;> rfl
@[simp] theorem oIx_tup_ (ds : List D) (i : Int) (h : AH) : oIx (.tup ds) (.int i) h = ixD ds i h := rfl
@[simp] theorem oIx_rol_ (ds : List D) (i : Int) (h : AH) : oIx (.rol ds) (.int i) h = ixD ds i h := rfl
theorem ixD_some {ds : List D} {i : Nat} {d : D} {h : AH} (e : ds[i]? = some d) : ixD ds (i : Int) h = .ok d h := by simp [ixD, atI_nat e]
@[simp] theorem ixD_0 (d : D) (ds : List D) (h : AH) : ixD (d :: ds) 0 h = .ok d h := ixD_some (i := 0) rfl
@[simp] theorem ixD_1 (a d : D) (ds : List D) (h : AH) : ixD (a :: d :: ds) 1 h = .ok d h := ixD_some (i := 1) rfl
@[simp] theorem ixD_2 (a b d : D) (ds : List D) (h : AH) : ixD (a :: b :: d :: ds) 2 h = .ok d h := ixD_some (i := 2) rfl
@[simp] theorem ixD_3 (a b c d : D) (ds : List D) (h : AH) : ixD (a :: b :: c :: d :: ds) 3 h = .ok d h := ixD_some (i := 3) rfl
@[simp] theorem ixD_4 (a b c e d : D) (ds : List D) (h : AH) : ixD (a :: b :: c :: e :: d :: ds) 4 h = .ok d h := ixD_some (i := 4) rfl
theorem ixD_map {α : Type} {f : α → D} {xs : List α} {i : Nat} {h : AH} {x : α} (e : xs[i]? = some x) : ixD (xs.map f) (i : Int) h = .ok (f x) h := ixD_some (by rw [List.getElem?_map, e]; rfl)
theorem getD_some {α : Type} {xs : List α} {i : Nat} {a : α} (hi : i < xs.length) : xs[i]? = some (xs.getD i a) := by simp [hi]
/-- an item of a row of numbers -/
theorem ixD_N {xs : List Nat} {i : Nat} {h : AH} (hi : i < xs.length) : ixD (xs.map dN) (i : Int) h = .ok (dN (xs.getD i 0)) h := ixD_map (getD_some hi)
def putO (o : Option AO) (r : Nat) (i : Int) (v : D) (h : AH) : Option AH := match o with
  | some (.lst ds) => (match L2.ixN ds.length i with
    | some j => some (h.set r (.lst (ds.set j v)))
    | none => none)
  | _ => none
@[simp] theorem putL_ref_ (r : Nat) (i : Int) (v : D) (h : AH) : putL (.ref r) (.int i) v h = putO h[r]? r i v h := rfl
theorem ixN_nat {n i : Nat} (hi : i < n) : L2.ixN n (i : Int) = some i := by
  unfold L2.ixN
  rw [if_pos (by omega), if_pos (by omega)]
  simp
theorem putO_nat {ds : List D} {r i : Nat} {v : D} {h : AH} (hi : i < ds.length) : putO (some (.lst ds)) r (i : Int) v h = some (h.set r (.lst (ds.set i v))) := by simp [putO, ixN_nat hi]
@[simp] theorem putO_0 (d : D) (ds : List D) (r : Nat) (v : D) (h : AH) : putO (some (.lst (d :: ds))) r 0 v h = some (h.set r (.lst (v :: ds))) := putO_nat (i := 0) (by simp)
@[simp] theorem putO_1 (a d : D) (ds : List D) (r : Nat) (v : D) (h : AH) : putO (some (.lst (a :: d :: ds))) r 1 v h = some (h.set r (.lst (a :: v :: ds))) := putO_nat (i := 1) (by simp)
@[simp] theorem putO_2 (a b d : D) (ds : List D) (r : Nat) (v : D) (h : AH) : putO (some (.lst (a :: b :: d :: ds))) r 2 v h = some (h.set r (.lst (a :: b :: v :: ds))) := putO_nat (i := 2) (by simp)
@[simp] theorem putO_3 (a b c d : D) (ds : List D) (r : Nat) (v : D) (h : AH) : putO (some (.lst (a :: b :: c :: d :: ds))) r 3 v h = some (h.set r (.lst (a :: b :: c :: v :: ds))) := putO_nat (i := 3) (by simp)
/-- a row of numbers, one changed -/
theorem putO_N {xs : List Nat} {r i v : Nat} {h : AH} (hi : i < xs.length) : putO (some (.lst (xs.map dN))) r (i : Int) (dN v) h = some (h.set r (.lst ((xs.set i v).map dN))) := by
  rw [putO_nat (by simpa using hi), List.map_set]
noncomputable def appO (o : Option AO) (r : Nat) (v : D) (h : AH) : ER := match o with
  | some (.lst xs) => if FitsL xs.length then .ok .non (h.set r (.lst (xs ++ [v]))) else .stuck
  | _ => .stuck
@[simp] theorem mAppend_ref_ (r : Nat) (v : D) (h : AH) : mAppend (.ref r) [v] h = appO h[r]? r v h := rfl
theorem appO_lst {ds : List D} {r : Nat} {v : D} {h : AH} (hl : ds.length < sizeLine) : appO (some (.lst ds)) r v h = .ok .non (h.set r (.lst (ds ++ [v]))) := if_pos hl
def tyO (o : Option AO) (T : String) : Bool := match o with
  | some (.lst _) => T == "list"
  | some (.dK _) => T == "dict"
  | some (.dT _) => T == "dict"
  | none => false
@[simp] theorem tyOk_ref_ (h : AH) (T : String) (r : Nat) : tyOk h T (.ref r) = tyO h[r]? T := rfl
@[simp] theorem tyO_lst (ds : List D) (T : String) : tyO (some (.lst ds)) T = (T == "list") := rfl
def lenO (o : Option AO) (h : AH) : ER := match o with
  | some (.lst es) => .ok (.int es.length) h
  | some (.dK kvs) => .ok (.int kvs.length) h
  | _ => .stuck
@[simp] theorem cLen_ref_ (r : Nat) (h : AH) : cLen [.ref r] h = lenO h[r]? h := rfl
@[simp] theorem lenO_lst (es : List D) (h : AH) : lenO (some (.lst es)) h = .ok (.int es.length) h := rfl
def tupO (o : Option AO) (h : AH) : ER := match o with
  | some (.lst es) => .ok (.tup es) h
  | _ => .stuck
@[simp] theorem cTuple_ref_ (r : Nat) (h : AH) : cTuple [.ref r] h = tupO h[r]? h := by
  simp only [cTuple, seqOf, tupO]
  cases h[r]? with
  | none => rfl
  | some o => cases o <;> rfl
@[simp] theorem tupO_lst (es : List D) (h : AH) : tupO (some (.lst es)) h = .ok (.tup es) h := rfl
def lstO (o : Option AO) (h : AH) : ER := match o with
  | some (.lst es) => .ok (.ref h.length) (h ++ [.lst es])
  | _ => .stuck
@[simp] theorem cList_ref_ (r : Nat) (h : AH) : cList [.ref r] h = lstO h[r]? h := by
  simp only [cList, seqOf, lstO]
  cases h[r]? with
  | none => rfl
  | some o => cases o <;> rfl
@[simp] theorem lstO_lst (es : List D) (h : AH) : lstO (some (.lst es)) h = .ok (.ref h.length) (h ++ [.lst es]) := rfl
def slO (o : Option AO) (lo hi : Option Int) (h : AH) : ER := match o with
  | some (.lst es) => .ok (.ref h.length) (h ++ [.lst (cutD es lo hi)])
  | _ => .stuck
@[simp] theorem oSl_ref_ (r : Nat) (lo hi : Option Int) (h : AH) : oSl (.ref r) lo hi h = slO h[r]? lo hi h := by
  simp only [oSl, listOf, slO]
  cases h[r]? with
  | none => rfl
  | some o => cases o <;> rfl
@[simp] theorem slO_lst (es : List D) (lo hi : Option Int) (h : AH) : slO (some (.lst es)) lo hi h = .ok (.ref h.length) (h ++ [.lst (cutD es lo hi)]) := rfl
@[simp] theorem oSl_tup_ (es : List D) (lo hi : Option Int) (h : AH) : oSl (.tup es) lo hi h = .ok (.tup (cutD es lo hi)) h := rfl
@[simp] theorem oSl_rol_ (es : List D) (lo hi : Option Int) (h : AH) : oSl (.rol es) lo hi h = .ok (.ref h.length) (h ++ [.lst (cutD es lo hi)]) := rfl
theorem cutD_to (es : List D) (k : Nat) : cutD es none (some (k : Int)) = es.take k := by
  unfold cutD
  rw [HT.sIx_none, HT.sIx_nat, List.drop_zero, Nat.sub_zero]
  rw [List.take_eq_take_iff]
  omega
theorem cutD_from (es : List D) (k : Nat) : cutD es (some (k : Int)) none = es.drop k := by
  unfold cutD
  rw [HT.sIx_none, HT.sIx_nat]
  by_cases hk : k ≤ es.length
  · rw [Nat.min_eq_left hk, List.take_of_length_le (by simp)]
  · rw [Nat.min_eq_right (by omega), Nat.sub_self, List.take_zero, List.drop_eq_nil_of_le (by omega)]
theorem cutD_mid (es : List D) (k j : Nat) (hk : k ≤ es.length) : cutD es (some (k : Int)) (some (j : Int)) = (es.drop k).take (j - k) := by
  unfold cutD
  rw [HT.sIx_nat, HT.sIx_nat, Nat.min_eq_left hk, List.take_eq_take_iff, List.length_drop]
  omega
def sumO (o : Option AO) (h : AH) : ER := match o with
  | some (.lst es) => (match intsOf es with
    | some ns => .ok (.int ns.sum) h
    | none => .stuck)
  | _ => .stuck
@[simp] theorem cSum_ref_ (r : Nat) (h : AH) : cSum [.ref r] h = sumO h[r]? h := by
  simp only [cSum, listOf, sumO]
  cases h[r]? with
  | none => rfl
  | some o => cases o <;> rfl
@[simp] theorem sumO_ints (ns : List Int) (h : AH) : sumO (some (.lst (ns.map D.int))) h = .ok (.int ns.sum) h := by simp [sumO]
@[simp] theorem oPow_ (i j : Int) (h : AH) : oPow (.int i) (.int j) h = if PowOk i j then .ok (.int (i ^ j.toNat)) h else .stuck := rfl
/-- numbers below 10^600 -/
theorem oMul_b {i j : Int} {h : AH} (h1 : -(10 ^ 200) ≤ i) (h2 : i ≤ 10 ^ 200) (h3 : -(10 ^ 200) ≤ j) (h4 : j ≤ 10 ^ 200) : oMul (.int i) (.int j) h = .ok (.int (i * j)) h := by
  have e : (10 : Int) ^ 200 = ((10 ^ 200 : Nat) : Int) := by norm_cast
  rw [e] at h1 h2 h3 h4
  have l : (10 : Nat) ^ 200 < 2 ^ 10000 := by
    have a : (10 : Nat) ^ 200 ≤ (2 ^ 4) ^ 200 := Nat.pow_le_pow_left (by decide) 200
    rw [← Nat.pow_mul] at a
    exact Nat.lt_of_le_of_lt a (Nat.pow_lt_pow_right (by decide) (by decide))
  exact oMul_int (mulOk (Nat.lt_of_le_of_lt (by omega : i.natAbs ≤ 10 ^ 200) l) (Nat.lt_of_le_of_lt (by omega : j.natAbs ≤ 10 ^ 200) l))
theorem mulB {i j : Int} (h1 : -(10 ^ 200) ≤ i) (h2 : i ≤ 10 ^ 200) (h3 : -(10 ^ 200) ≤ j) (h4 : j ≤ 10 ^ 200) : CMulX i j := by
  have e : (10 : Int) ^ 200 = ((10 ^ 200 : Nat) : Int) := by norm_cast
  rw [e] at h1 h2 h3 h4
  have l : (10 : Nat) ^ 200 < 2 ^ 10000 := by
    have a : (10 : Nat) ^ 200 ≤ (2 ^ 4) ^ 200 := Nat.pow_le_pow_left (by decide) 200
    rw [← Nat.pow_mul] at a
    exact Nat.lt_of_le_of_lt a (Nat.pow_lt_pow_right (by decide) (by decide))
  exact mulOk (Nat.lt_of_le_of_lt (by omega : i.natAbs ≤ 10 ^ 200) l) (Nat.lt_of_le_of_lt (by omega : j.natAbs ≤ 10 ^ 200) l)
theorem divB {j : Int} (h1 : 0 < j) (h2 : j ≤ 10 ^ 200) : DivOk j := by
  have e : (10 : Int) ^ 200 = ((10 ^ 200 : Nat) : Int) := by norm_cast
  rw [e] at h2
  have l : (10 : Nat) ^ 200 < 2 ^ 9000 := by
    have a : (10 : Nat) ^ 200 ≤ (2 ^ 4) ^ 200 := Nat.pow_le_pow_left (by decide) 200
    rw [← Nat.pow_mul] at a
    exact Nat.lt_of_le_of_lt a (Nat.pow_lt_pow_right (by decide) (by decide))
  exact ⟨h1, log2_small h1 (Nat.lt_of_le_of_lt (by omega : j.natAbs ≤ 10 ^ 200) l)⟩
theorem get_set {α : Type} {h : List α} {a : Nat} {o : α} (ha : h[a]? = some o) (x : α) : (h.set a x)[a]? = some x := List.getElem?_set_self (List.getElem?_eq_some_iff.mp ha).1
theorem oMul_ (i j : Int) (h : AH) : oMul (.int i) (.int j) h = if CMulX i j then .ok (.int (i * j)) h else .stuck := rfl
theorem oDiv_ (i j : Int) (h : AH) : oDiv (.int i) (.int j) h = if DivOk j then .ok (.int (i / j)) h else .stuck := rfl
theorem oMod_ (i j : Int) (h : AH) : oMod (.int i) (.int j) h = if 0 < j then .ok (.int (i % j)) h else .stuck := rfl
theorem oDiv_b {i j : Int} {h : AH} (h1 : 0 < j) (h2 : j ≤ 10 ^ 200) : oDiv (.int i) (.int j) h = .ok (.int (i / j)) h := by
  have e : (10 : Int) ^ 200 = ((10 ^ 200 : Nat) : Int) := by norm_cast
  rw [e] at h2
  have l : (10 : Nat) ^ 200 < 2 ^ 9000 := by
    have a : (10 : Nat) ^ 200 ≤ (2 ^ 4) ^ 200 := Nat.pow_le_pow_left (by decide) 200
    rw [← Nat.pow_mul] at a
    exact Nat.lt_of_le_of_lt a (Nat.pow_lt_pow_right (by decide) (by decide))
  exact oDiv_int ⟨h1, log2_small h1 (Nat.lt_of_le_of_lt (by omega : j.natAbs ≤ 10 ^ 200) l)⟩
/-! walks -/
noncomputable def forR (o : LR) (g : GM) (b : SM) (e : AE) : SR := match o with
  | .ok [.int j] h1 => if RgB j then sLoop g b (rg 0 j.toNat) e h1 else .stuck
  | .ok _ _ => .stuck
  | .exc c fs h1 => .exc c fs e h1
  | .stuck => .stuck
@[simp] theorem sFor_range1 (l : LM) (g : GM) (b : SM) (e : AE) (h : AH) : sFor (iRange1 l) g b e h = forR (l e h) g b e := by
  unfold sFor iRange1 forR
  cases l e h with
  | ok ds h1 =>
    match ds with
    | [.int j] =>
      dsimp only
      by_cases hj : RgB j
      · rw [if_pos hj, if_pos hj]
        exact forN_stat _ 0 e h1 rfl
      · rw [if_neg hj, if_neg hj]
    | [] => rfl
    | .non :: _ => rfl
    | .bl _ :: _ => rfl
    | .str _ :: _ => rfl
    | .ty _ :: _ => rfl
    | .tup _ :: _ => rfl
    | .rol _ :: _ => rfl
    | .ref _ :: _ => rfl
    | .int _ :: _ :: _ => rfl
  | exc c fs h1 => rfl
  | stuck => rfl
@[simp] theorem forR_ok (j : Int) (h1 : AH) (g : GM) (b : SM) (e : AE) : forR (.ok [.int j] h1) g b e = if RgB j then sLoop g b (rg 0 j.toNat) e h1 else .stuck := rfl
/-- a list of the heap walked -/
def liveL (r : Nat) (ds : List D) (g : GM) (b : SM) (e : AE) (h : AH) : SR := forN (live r ds.length) g b (ds.length + 1) 0 e h
def forO (o : Option AO) (r : Nat) (g : GM) (b : SM) (e : AE) (h : AH) : SR := match o with
  | some (.lst ds) => liveL r ds g b e h
  | _ => .stuck
@[simp] theorem forO_lst (ds : List D) (r : Nat) (g : GM) (b : SM) (e : AE) (h : AH) : forO (some (.lst ds)) r g b e h = liveL r ds g b e h := rfl
def forV (o : ER) (g : GM) (b : SM) (e : AE) : SR := match o with
  | .ok (.tup ds) h1 => sLoop g b ds e h1
  | .ok (.rol ds) h1 => sLoop g b ds e h1
  | .ok (.str x) h1 => sLoop g b (signs x) e h1
  | .ok (.ref r) h1 => forO h1[r]? r g b e h1
  | .ok _ _ => .stuck
  | .exc c fs h1 => .exc c fs e h1
  | .stuck => .stuck
@[simp] theorem forV_tup (ds : List D) (g : GM) (b : SM) (e : AE) (h : AH) : forV (.ok (.tup ds) h) g b e = sLoop g b ds e h := rfl
@[simp] theorem forV_rol (ds : List D) (g : GM) (b : SM) (e : AE) (h : AH) : forV (.ok (.rol ds) h) g b e = sLoop g b ds e h := rfl
@[simp] theorem forV_str (x : Str) (g : GM) (b : SM) (e : AE) (h : AH) : forV (.ok (.str x) h) g b e = sLoop g b (signs x) e h := rfl
@[simp] theorem forV_ref (r : Nat) (g : GM) (b : SM) (e : AE) (h : AH) : forV (.ok (.ref r) h) g b e = forO h[r]? r g b e h := rfl
@[simp] theorem sFor_val (m : EM) (g : GM) (b : SM) (e : AE) (h : AH) : sFor (iVal m) g b e h = forV (m e h) g b e := by
  unfold sFor iVal forV
  cases m e h with
  | ok d h1 =>
    cases d with
    | tup ds => exact forN_stat ds 0 e h1 rfl
    | rol ds => exact forN_stat ds 0 e h1 rfl
    | str x => exact forN_stat (signs x) 0 e h1 rfl
    | ref r =>
      dsimp only
      unfold forO liveL
      cases h1[r]? with
      | none => rfl
      | some o => cases o <;> rfl
    | _ => rfl
  | exc c fs h1 => rfl
  | stuck => rfl
noncomputable def rgE (tp : Bool) (d : D) (h1 : AH) : ER := match d with
  | .int j => if RgOk 0 j then (if tp then .ok (.tup (rg 0 j.toNat)) h1 else .ok (.ref h1.length) (h1 ++ [.lst (rg 0 j.toNat)])) else .stuck
  | _ => .stuck
@[simp] theorem eRg1_ (tp : Bool) (m : EM) (e : AE) (h : AH) : eRg1 tp m e h = (m e h).then (rgE tp) := rfl
@[simp] theorem rgE_t (j : Int) (h1 : AH) : rgE true (.int j) h1 = if RgOk 0 j then .ok (.tup (rg 0 j.toNat)) h1 else .stuck := by
  unfold rgE; simp
@[simp] theorem rgE_f (j : Int) (h1 : AH) : rgE false (.int j) h1 = if RgOk 0 j then .ok (.ref h1.length) (h1 ++ [.lst (rg 0 j.toNat)]) else .stuck := by
  unfold rgE; simp
theorem rgB_nat {n : Nat} (h : n ≤ 1000000) : RgB (n : Int) := ⟨by omega, by omega⟩
theorem rgOk_nat {n : Nat} (hn : n ≤ 16777216) : RgOk 0 (n : Int) := RgOk.of_le (Int.le_refl 0) (by omega) (by decide) (by omega)
theorem iRange1_nat {m : EM} {e : AE} {h h1 : AH} {n : Nat} (hm : m e h = .ok (.int (n : Int)) h1) (hn : n ≤ 1000000) : iRange1 (lCons m lNil) e h = .ok (stat ((List.range n).map dN)) h1 := by
  simp only [iRange1, lCons_, lNil_, hm, thenL_ok, lrcons_ok]
  rw [if_pos (rgB_nat hn), Int.toNat_natCast, rg_zero]
theorem iVal_tup {m : EM} {e : AE} {h h1 : AH} {ds : List D} (hm : m e h = .ok (.tup ds) h1) : iVal m e h = .ok (stat ds) h1 := by simp [iVal, hm]
theorem iVal_rol {m : EM} {e : AE} {h h1 : AH} {ds : List D} (hm : m e h = .ok (.rol ds) h1) : iVal m e h = .ok (stat ds) h1 := by simp [iVal, hm]
theorem iVal_str {m : EM} {e : AE} {h h1 : AH} {x : Str} (hm : m e h = .ok (.str x) h1) : iVal m e h = .ok (stat (signs x)) h1 := by simp [iVal, hm]
theorem iVal_ref {m : EM} {e : AE} {h h1 : AH} {r : Nat} {ds : List D} (hm : m e h = .ok (.ref r) h1) (hr : h1[r]? = some (.lst ds)) : iVal m e h = .ok (live r ds.length) h1 := by simp [iVal, hm, hr]
theorem liveL_inv {g : GM} {b : SM} {e : AE} {h : AH} {r : Nat} {ds : List D} (P : Nat → AE → AH → Prop) (hP : ∀ i e h, P i e h → h[r]? = some (.lst ds)) (p : P 0 e h)
    (st : ∀ (i : Nat) (d : D) (e : AE) (h : AH), ds[i]? = some d → P i e h → ∃ e' h', (onlyNx (g d e h)).then b = .nx e' h' ∧ P (i + 1) e' h') : ∃ e' h', liveL r ds g b e h = .nx e' h' ∧ P ds.length e' h' :=
  forN_live P hP ds.length 0 e h (Nat.zero_add _) p st
theorem liveL_ret {g : GM} {b : SM} {e : AE} {h : AH} {r : Nat} {ds : List D} (P : Nat → AE → AH → Prop) (R : D → AH → Prop) (hP : ∀ i e h, P i e h → h[r]? = some (.lst ds)) (p : P 0 e h)
    (st : ∀ (i : Nat) (d : D) (e : AE) (h : AH), ds[i]? = some d → P i e h → (∃ e' h', (onlyNx (g d e h)).then b = .nx e' h' ∧ P (i + 1) e' h') ∨ ∃ d' h', (onlyNx (g d e h)).then b = .rt d' h' ∧ R d' h') :
    (∃ e' h', liveL r ds g b e h = .nx e' h' ∧ P ds.length e' h') ∨ ∃ d' h', liveL r ds g b e h = .rt d' h' ∧ R d' h' :=
  forN_live_ret P R hP ds.length 0 e h (Nat.zero_add _) p st
/-- a loop over 0 .. n - 1 -/
theorem loopN {k : Nat} {b : SM} (P : Nat → AE → AH → Prop) (n : Nat) {e : AE} {h : AH} (p : P 0 e h)
    (st : ∀ (i : Nat) (e : AE) (h : AH), i < n → P i e h → ∃ e' h', b (e.set k (some (dN i))) h = .nx e' h' ∧ P (i + 1) e' h') : ∃ e' h', sLoop (gVar k) b ((List.range n).map dN) e h = .nx e' h' ∧ P n e' h' := by
  have := loop_inv (g := gVar k) (b := b) P ((List.range n).map dN) 0 e h p fun i d e h hd hp => by
    rw [List.getElem?_map] at hd
    by_cases hi : i < n
    · rw [List.getElem?_range hi] at hd
      cases hd
      rw [Nat.zero_add] at hp
      obtain ⟨e', h', q, p'⟩ := st i e h hi hp
      exact ⟨e', h', q, by rwa [Nat.zero_add]⟩
    · rw [List.getElem?_eq_none (by simp; omega)] at hd; cases hd
  simpa using this
theorem loopN_ret {k : Nat} {b : SM} (P : Nat → AE → AH → Prop) (R : D → AH → Prop) (n : Nat) {e : AE} {h : AH} (p : P 0 e h)
    (st : ∀ (i : Nat) (e : AE) (h : AH), i < n → P i e h → (∃ e' h', b (e.set k (some (dN i))) h = .nx e' h' ∧ P (i + 1) e' h') ∨ ∃ d' h', b (e.set k (some (dN i))) h = .rt d' h' ∧ R d' h') :
    (∃ e' h', sLoop (gVar k) b ((List.range n).map dN) e h = .nx e' h' ∧ P n e' h') ∨ ∃ d' h', sLoop (gVar k) b ((List.range n).map dN) e h = .rt d' h' ∧ R d' h' := by
  have := loop_ret (g := gVar k) (b := b) P R ((List.range n).map dN) 0 e h p fun i d e h hd hp => by
    rw [List.getElem?_map] at hd
    by_cases hi : i < n
    · rw [List.getElem?_range hi] at hd
      cases hd
      rw [Nat.zero_add] at hp
      rcases st i e h hi hp with ⟨e', h', q, p'⟩ | z
      · exact .inl ⟨e', h', q, by rwa [Nat.zero_add]⟩
      · exact .inr z
    · rw [List.getElem?_eq_none (by simp; omega)] at hd; cases hd
  simpa using this
theorem beq_nat (a b : Nat) : ((a : Int) == (b : Int)) = (a == b) := by
  by_cases h : a = b
  · subst h; simp
  · have h2 : ¬ (a : Int) = (b : Int) := fun e => h (Int.ofNat.inj e)
    rw [beq_eq_false_iff_ne.mpr h, beq_eq_false_iff_ne.mpr h2]
@[simp high] theorem oEq_N (a b : Nat) (h : AH) : oEq (.int (a : Int)) (.int (b : Int)) h = .ok (.bl (a == b)) h := by rw [oEq_int, beq_nat]
@[simp high] theorem oNe_N (a b : Nat) (h : AH) : oNe (.int (a : Int)) (.int (b : Int)) h = .ok (.bl (!(a == b))) h := by rw [oNe_int, beq_nat]
theorem fits {n : Nat} (h : n ≤ 16777216) : Fits n := by unfold Fits; rw [sizeLine_eq]; exact h
theorem fitsL {n : Nat} (h : n < 16777216) : FitsL n := by unfold FitsL; rw [sizeLine_eq]; exact h
@[simp] theorem fits_0 : Fits 0 := fits (by decide)
@[simp] theorem fits_1 : Fits (0 + 1) := fits (by decide)
@[simp] theorem fits_2 : Fits (0 + 1 + 1) := fits (by decide)
@[simp] theorem fits_3 : Fits (0 + 1 + 1 + 1) := fits (by decide)
@[simp] theorem fits_1' : Fits 1 := fits (by decide)
@[simp] theorem fits_2' : Fits 2 := fits (by decide)
@[simp] theorem fits_3' : Fits 3 := fits (by decide)
@[simp] theorem fits_4' : Fits 4 := fits (by decide)
@[simp] theorem fits_5' : Fits 5 := fits (by decide)
@[simp] theorem fits_8' : Fits 8 := fits (by decide)
@[simp] theorem powOk_18 : PowOk 10 18 := ⟨by decide, by decide, by decide⟩
@[simp] theorem powOk_15 : PowOk 10 15 := ⟨by decide, by decide, by decide⟩
@[simp] theorem powOk_60 : PowOk 10 60 := ⟨by decide, by decide, by decide⟩
@[simp] theorem powOk_6 : PowOk 10 6 := ⟨by decide, by decide, by decide⟩
@[simp] theorem divOk_2 : DivOk 2 := divB (by decide) (by decide)
@[simp] theorem divOk_3 : DivOk 3 := divB (by decide) (by decide)
@[simp] theorem divOk_7 : DivOk 7 := divB (by decide) (by decide)
@[simp] theorem divOk_32 : DivOk 32 := divB (by decide) (by decide)
@[simp] theorem divOk_61 : DivOk 61 := divB (by decide) (by decide)
theorem set_self {α : Type} {h : List α} {a : Nat} {o : α} (ha : h[a]? = some o) : h.set a o = h := by
  apply List.ext_getElem?
  intro j
  by_cases hj : a = j
  · subst hj
    rw [List.getElem?_set_self (List.getElem?_eq_some_iff.mp ha).1, ha]
  · rw [List.getElem?_set_ne hj]
/-- the new things behind h -/
theorem app_get {α : Type} {h g : List α} {i : Nat} : (h ++ g)[h.length + i]? = g[i]? := by
  rw [List.getElem?_append_right (by omega)]; simp
@[simp] theorem app_get0 {α : Type} {h g : List α} {n : Nat} (hn : h.length = n := by simp) : (h ++ g)[n]? = g[0]? := by
  subst hn
  rw [List.getElem?_append_right (by omega)]; simp
theorem app_get_l {α : Type} {h g : List α} {a : Nat} {o : α} (ha : h[a]? = some o) : (h ++ g)[a]? = some o := by
  rw [List.getElem?_append_left (List.getElem?_eq_some_iff.mp ha).1]; exact ha
theorem app_set_l {α : Type} {h g : List α} {a : Nat} {o : α} (ha : a < h.length) : (h ++ g).set a o = h.set a o ++ g := List.set_append_left _ _ ha
theorem app_set {α : Type} {h g : List α} {i n : Nat} {o : α} (hn : h.length = n) : (h ++ g).set (n + i) o = h ++ g.set i o := by
  subst hn
  rw [List.set_append_right _ _ (by omega)]; simp
theorem getD_set {p : List Nat} {i j v : Nat} (hi : i < p.length) : (p.set i v).getD j 0 = if i = j then v else p.getD j 0 := by
  simp only [List.getD_eq_getElem?_getD]
  by_cases h : i = j
  · subst h
    rw [List.getElem?_set_self hi, if_pos rfl]; rfl
  · rw [List.getElem?_set_ne h, if_neg h]
end Rf

set_option maxHeartbeats 1000000
/-! Reckoning with the later parts (RN .. RC). -/
namespace Rf
open PySem L2
@[simp] theorem eDict_ (e : AE) (h : AH) : eDict e h = .ok (.ref h.length) (h ++ [.dK []]) := rfl
@[simp] theorem eCallK_ (n m : Nat) (idx : List Nat) (F : List D → AH → ER) (ml mk : LM) (e : AE) (h : AH) : eCallK n m idx F ml mk e h = (ml e h).then fun ds h1 => (mk e h1).then fun es h2 => if ds.length = n ∧ es.length = m then F (permK idx ds es) h2 else .stuck := rfl
theorem cSorted_lst {r : Nat} {ns : List Int} {h : AH} (e : h[r]? = some (.lst (ns.map D.int))) : cSorted [.ref r] h = .ok (.ref h.length) (h ++ [.lst ((intSort ns).map D.int)]) := by
  simp [cSorted, e]
theorem cSorted_dK {r : Nat} {kvs : List (Key × D)} {ns : List Int} {h : AH} (e : h[r]? = some (.dK kvs)) (k : keysI kvs = some ns) (l : ns.length < 64) : cSorted [.ref r] h = .ok (.ref h.length) (h ++ [.lst ((intSort ns).map D.int)]) := by
  simp [cSorted, e, k, l]
theorem oDGet_ref {r : Nat} {kvs : List (Key × D)} {k : Int} {d : D} {h : AH} (e : h[r]? = some (.dK kvs)) (v : valD kvs (.inl k) = some d) : oDGet (.ref r) (.int k) h = .ok d h := by
  simp [oDGet, dictOf, keyD, e, v]
theorem oDNotIn_ref {r : Nat} {kvs : List (Key × D)} {k : Int} {h : AH} (e : h[r]? = some (.dK kvs)) : oDNotIn (.int k) (.ref r) h = .ok (.bl (!(valD kvs (.inl k)).isSome)) h := by
  simp [oDNotIn, dictOf, keyD, e]
theorem oDIn_ref {r : Nat} {kvs : List (Key × D)} {k : Int} {h : AH} (e : h[r]? = some (.dK kvs)) : oDIn (.int k) (.ref r) h = .ok (.bl (valD kvs (.inl k)).isSome) h := by
  simp [oDIn, dictOf, keyD, e]
theorem putD_ref {r : Nat} {kvs : List (Key × D)} {k : Int} {v : D} {h : AH} (e : h[r]? = some (.dK kvs)) (l : kvs.length < sizeLine) : putD (.ref r) (.int k) v h = some (h.set r (.dK (setD kvs (.inl k) v))) := by
  simp [putD, dictOf, keyD, e, l]
theorem iEnum1_tup {m : EM} {e : AE} {h h1 : AH} {ds : List D} (hm : m e h = .ok (.tup ds) h1) : iEnum1 m e h = .ok (stat (numD ds)) h1 := by simp [iEnum1, hm]
theorem eRev_ref {m : EM} {e : AE} {h h1 : AH} {r : Nat} {ds : List D} (hm : m e h = .ok (.ref r) h1) (er : h1[r]? = some (.lst ds)) : eRev m e h = .ok (.ref h1.length) (h1 ++ [.lst ds.reverse]) := by simp [eRev, hm, Rf.listOf, er]
end Rf

set_option maxHeartbeats 1000000
/-! General lemmas first written for k11. -/
namespace Rf
open PySem L2
theorem getD_get {α : Type} {l : List α} {i : Nat} {d : α} (h : i < l.length) : l.getD i d = l[i] := by simp [h]
theorem getD_mem {α : Type} {l : List α} {i : Nat} {d : α} (h : i < l.length) : l.getD i d ∈ l := by rw [getD_get h]; exact List.getElem_mem h
theorem nodup_getD {α : Type} {l : List α} (nd : l.Nodup) {i j : Nat} {d : α} (hi : i < l.length) (hj : j < l.length) (h : l.getD i d = l.getD j d) : i = j := by
  rw [getD_get hi, getD_get hj] at h
  exact (List.getElem_inj nd).mp h
theorem mem_getD {α : Type} {l : List α} {x d : α} (h : x ∈ l) : ∃ i, i < l.length ∧ l.getD i d = x := by
  obtain ⟨i, hi, e⟩ := List.getElem_of_mem h
  exact ⟨i, hi, by rw [getD_get hi, e]⟩
theorem map_getD {α β : Type} {f : α → β} {l : List α} {i : Nat} {d : α} {e : β} (h : i < l.length) : (l.map f).getD i e = f (l.getD i d) := by
  rw [getD_get (by simpa using h), getD_get h, List.getElem_map]
theorem sub_length : ∀ {l1 l2 : List Nat}, l1.Nodup → (∀ x ∈ l1, x ∈ l2) → l1.length ≤ l2.length
  | [], _, _, _ => Nat.zero_le _
  | x :: l, l2, nd, h => by
    have hx := h x List.mem_cons_self
    have ih := sub_length (l1 := l) (l2 := l2.erase x) (List.nodup_cons.mp nd).2 fun y hy => by
      have : y ≠ x := fun e => (List.nodup_cons.mp nd).1 (e ▸ hy)
      exact (List.mem_erase_of_ne this).mpr (h y (List.mem_cons_of_mem _ hy))
    rw [List.length_erase_of_mem hx] at ih
    have := List.length_pos_of_mem hx
    rw [List.length_cons]; omega
theorem getD_app {p : List Nat} {j v : Nat} : (p ++ [v]).getD j 0 = if j = p.length then v else p.getD j 0 := by
  simp only [List.getD_eq_getElem?_getD]
  by_cases h : j < p.length
  · rw [List.getElem?_append_left h, if_neg (by omega)]
  · by_cases h2 : j = p.length
    · subst h2; simp
    · rw [if_neg h2, List.getElem?_append_right (by omega), List.getElem?_eq_none (by simp; omega), List.getElem?_eq_none (by omega)]
theorem mapM_toP {us : List Nat} {h : AH} {k : Nat} : (us.map dN).mapM (D.toP h k) = some (us.map fun u : Nat => PyData.int (u : Int)) := by
  induction us with
  | nil => rfl
  | cons u us ih => rw [List.map_cons, List.mapM_cons, ih]; unfold dN D.toP; cases k <;> rfl
theorem toP_list {us : List Nat} {h : AH} {r : Nat} (hr : h[r]? = some (.lst (us.map dN))) : (D.ref r).toP h 20 = some (.list (us.map fun u : Nat => PyData.int (u : Int))) := by
  unfold D.toP
  rw [hr]
  show ((us.map dN).mapM (D.toP h 19)).map PyData.list = _
  rw [mapM_toP]; rfl
theorem eqv_int {a b : Int} : PyData.eqv (.int a) (.int b) = (a == b) := by simp [PyData.eqv]
theorem any_N (us : List Nat) (k : Nat) : (us.map fun u : Nat => PyData.int (u : Int)).any (fun z => PyData.eqv z (.int (k : Int))) = us.contains k := by
  induction us with
  | nil => rfl
  | cons u us ih =>
    rw [List.map_cons, List.any_cons, List.contains_cons, ih, eqv_int, beq_nat, Bool.beq_comm (a := k)]
theorem notIn_N {us : List Nat} {h : AH} {r k : Nat} (hr : h[r]? = some (.lst (us.map dN))) : oNotIn (.int (k : Int)) (.ref r) h = .ok (.bl (!us.contains k)) h := by
  unfold oNotIn
  have e1 : (D.int (k : Int)).toP h 20 = some (.int k) := rfl
  have e2 : Rf.listOf h (.ref r) = some (us.map dN) := by simp [Rf.listOf, hr]
  rw [toP_list hr, e1, e2]
  simp only [any_N]
theorem eqvAll_N : ∀ {us vs : List Nat}, PyData.eqvAll (us.map fun u : Nat => PyData.int (u : Int)) (vs.map fun u : Nat => PyData.int (u : Int)) = decide (us = vs)
  | [], [] => by simp [PyData.eqvAll]
  | [], v :: vs => by simp [PyData.eqvAll]
  | u :: us, [] => by simp [PyData.eqvAll]
  | u :: us, v :: vs => by
    rw [List.map_cons, List.map_cons, PyData.eqvAll, eqvAll_N, eqv_int, beq_nat]
    by_cases h : u = v
    · subst h; simp
    · simp [h]
theorem oEq_L {us vs : List Nat} {h : AH} {r q : Nat} (hr : h[r]? = some (.lst (us.map dN))) (hq : h[q]? = some (.lst (vs.map dN))) : oEq (.ref r) (.ref q) h = .ok (.bl (decide (us = vs))) h := by
  unfold oEq
  rw [toP_list hr, toP_list hq]
  simp only [PyData.eqv, eqvAll_N]
@[simp] theorem oMul_ref_ (r : Nat) (i : Int) (h : AH) : oMul (.ref r) (.int i) h = (match h[r]? with
    | some (.lst xs) => if RepOk xs.length i then .ok (.ref h.length) (h ++ [.lst (List.replicate i.toNat xs).flatten]) else .stuck
    | _ => .stuck) := rfl
theorem repOk_1 {n : Nat} (h : n ≤ 16777216) : RepOk 1 (n : Int) := ⟨by omega, by omega, by rw [sizeLine_eq]; omega⟩
theorem rep_zero (n : Nat) : (List.replicate n [D.int 0]).flatten = (List.replicate n 0).map dN := by
  induction n with
  | zero => rfl
  | succ n ih => rw [List.replicate_succ, List.replicate_succ, List.flatten_cons, ih]; rfl
theorem loopM {α : Type} {φ : α → D} {k : Nat} {b : SM} (P : Nat → AE → AH → Prop) (xs : List α) {e : AE} {h : AH} (p : P 0 e h)
    (st : ∀ (i : Nat) (x : α) (e : AE) (h : AH), xs[i]? = some x → P i e h → ∃ e' h', b (e.set k (some (φ x))) h = .nx e' h' ∧ P (i + 1) e' h') : ∃ e' h', sLoop (gVar k) b (xs.map φ) e h = .nx e' h' ∧ P xs.length e' h' := by
  have := loop_inv (g := gVar k) (b := b) P (xs.map φ) 0 e h p fun i d e h hd hp => by
    rw [List.getElem?_map] at hd
    cases hx : xs[i]? with
    | none => rw [hx] at hd; cases hd
    | some x =>
      rw [hx] at hd
      cases hd
      rw [Nat.zero_add] at hp
      obtain ⟨e', h', q, p'⟩ := st i x e h hx hp
      exact ⟨e', h', q, by rwa [Nat.zero_add]⟩
  simpa using this
theorem loopM_ret {α : Type} {φ : α → D} {k : Nat} {b : SM} (P : Nat → AE → AH → Prop) (R : D → AH → Prop) (xs : List α) {e : AE} {h : AH} (p : P 0 e h)
    (st : ∀ (i : Nat) (x : α) (e : AE) (h : AH), xs[i]? = some x → P i e h → (∃ e' h', b (e.set k (some (φ x))) h = .nx e' h' ∧ P (i + 1) e' h') ∨ ∃ d' h', b (e.set k (some (φ x))) h = .rt d' h' ∧ R d' h') :
    (∃ e' h', sLoop (gVar k) b (xs.map φ) e h = .nx e' h' ∧ P xs.length e' h') ∨ ∃ d' h', sLoop (gVar k) b (xs.map φ) e h = .rt d' h' ∧ R d' h' := by
  have := loop_ret (g := gVar k) (b := b) P R (xs.map φ) 0 e h p fun i d e h hd hp => by
    rw [List.getElem?_map] at hd
    cases hx : xs[i]? with
    | none => rw [hx] at hd; cases hd
    | some x =>
      rw [hx] at hd
      cases hd
      rw [Nat.zero_add] at hp
      rcases st i x e h hx hp with ⟨e', h', q, p'⟩ | z
      · exact .inl ⟨e', h', q, by rwa [Nat.zero_add]⟩
      · exact .inr z
  simpa using this
theorem min_ex {P : Nat → Prop} (q : ∃ m, P m) : ∃ m, P m ∧ ∀ m', P m' → m ≤ m' := by
  obtain ⟨m, hm⟩ := q
  induction m using Nat.strongRecOn with
  | _ m ih =>
    by_cases z : ∃ k, k < m ∧ P k
    · obtain ⟨k, hk, pk⟩ := z
      exact ih k hk pk
    · exact ⟨m, hm, fun m' pm => Nat.le_of_not_lt fun lt => z ⟨m', lt, pm⟩⟩
open Classical in
theorem while_ix {c : EM} {b : SM} (P : Nat → AE → AH → Prop) (T : AE → AH → Prop)
    (st : ∀ m e h, P m e h → (∃ h1, c e h = .ok (.bl false) h1 ∧ T e h1) ∨ ∃ h1, c e h = .ok (.bl true) h1 ∧ ∃ e' h', b e h1 = .nx e' h' ∧ ∃ m', m' < m ∧ P m' e' h') (m : Nat) (e : AE) (h : AH) (p : P m e h) : ∃ e' h', sWhile c b e h = .nx e' h' ∧ T e' h' := by
  let μ : AE → AH → Nat := fun e h => if q : ∃ m, P m e h then Classical.choose (min_ex q) else 0
  have hμ : ∀ m e h, P m e h → P (μ e h) e h ∧ μ e h ≤ m := fun m e h pm => by
    have q : ∃ m, P m e h := ⟨m, pm⟩
    have e1 : μ e h = Classical.choose (min_ex q) := dif_pos q
    have := Classical.choose_spec (min_ex q)
    rw [e1]
    exact ⟨this.1, this.2 m pm⟩
  refine while_inv (P := fun e h => ∃ m, P m e h) μ T (fun e h pe => ?_) (μ e h) e h (Nat.le_refl _) ⟨m, p⟩
  obtain ⟨m0, pm0⟩ := pe
  have h1 := hμ m0 e h pm0
  rcases st _ e h h1.1 with z | ⟨h1', hc, e', h', hb, m', lt, p'⟩
  · exact .inl z
  · exact .inr ⟨h1', hc, e', h', hb, ⟨m', p'⟩, Nat.lt_of_le_of_lt (hμ m' e' h' p').2 lt⟩
theorem gc_old {h h' : AH} {r : Nat} (hr : r < h.length) : gc h (.ok (.ref r) h') = .ok (.ref r) h' := by
  unfold gc
  dsimp only
  split
  · rw [if_neg (by unfold D.pure; exact Bool.false_ne_true), if_neg (by omega)]
  · rfl
theorem cast_ite {c : Prop} [Decidable c] {a b : Nat} : ((if c then a else b : Nat) : Int) = if c then (a : Int) else (b : Int) := by split <;> rfl
theorem loop_brk {g : GM} {b : SM} (P : Nat → AE → AH → Prop) (B : AE → AH → Prop) : ∀ (ds : List D) (k : Nat) (e : AE) (h : AH), P k e h →
    (∀ (i : Nat) (d : D) (e : AE) (h : AH), ds[i]? = some d → P (k + i) e h → (∃ e' h', (onlyNx (g d e h)).then b = .nx e' h' ∧ P (k + i + 1) e' h') ∨ ∃ e' h', (onlyNx (g d e h)).then b = .bk e' h' ∧ B e' h') →
    ∃ e' h', sLoop g b ds e h = .nx e' h' ∧ (P (k + ds.length) e' h' ∨ B e' h')
  | [], k, e, h, p, _ => ⟨e, h, rfl, .inl p⟩
  | d :: ds, k, e, h, p, st => by
    rcases st 0 d e h rfl p with ⟨e1, h1, q, p1⟩ | ⟨e1, h1, q, r⟩
    · obtain ⟨e2, h2, q2, p2⟩ := loop_brk P B ds (k + 1) e1 h1 p1 fun i d' e' h' hd hp => by
          have hp' : P (k + (i + 1)) e' h' := by rwa [show k + (i + 1) = k + 1 + i by omega]
          rcases st (i + 1) d' e' h' (by simpa using hd) hp' with ⟨e3, h3, a, c⟩ | z
          · exact .inl ⟨e3, h3, a, by rwa [show k + 1 + i + 1 = k + (i + 1) + 1 by omega]⟩
          · exact .inr z
      refine ⟨e2, h2, ?_, ?_⟩
      · unfold sLoop
        rw [q]
        exact q2
      · rw [List.length_cons, show k + (ds.length + 1) = k + 1 + ds.length by omega]; exact p2
    · refine ⟨e1, h1, ?_, .inr r⟩
      unfold sLoop
      rw [q]
      rfl
theorem loopN_brk {k : Nat} {b : SM} (P : Nat → AE → AH → Prop) (B : AE → AH → Prop) (n : Nat) {e : AE} {h : AH} (p : P 0 e h)
    (st : ∀ (i : Nat) (e : AE) (h : AH), i < n → P i e h → (∃ e' h', b (e.set k (some (dN i))) h = .nx e' h' ∧ P (i + 1) e' h') ∨ ∃ e' h', b (e.set k (some (dN i))) h = .bk e' h' ∧ B e' h') : ∃ e' h', sLoop (gVar k) b ((List.range n).map dN) e h = .nx e' h' ∧ (P n e' h' ∨ B e' h') := by
  have := loop_brk (g := gVar k) (b := b) P B ((List.range n).map dN) 0 e h p fun i d e h hd hp => by
    rw [List.getElem?_map] at hd
    by_cases hi : i < n
    · rw [List.getElem?_range hi] at hd
      cases hd
      rw [Nat.zero_add] at hp
      rcases st i e h hi hp with ⟨e', h', q, p'⟩ | z
      · exact .inl ⟨e', h', q, by rwa [Nat.zero_add]⟩
      · exact .inr z
    · rw [List.getElem?_eq_none (by simp; omega)] at hd; cases hd
  simpa using this
@[simp] theorem ci_ii (i : Int) (h : AH) : cIsi [.int i, .ty "int"] h = .ok (.bl true) h := by rw [cIsi_int _ _ _ (by decide)]; rfl
@[simp] theorem ci_ib (i : Int) (h : AH) : cIsi [.int i, .ty "bool"] h = .ok (.bl false) h := by rw [cIsi_int _ _ _ (by decide)]; rfl
@[simp] theorem ci_tt (ds : List D) (h : AH) : cIsi [.tup ds, .ty "tuple"] h = .ok (.bl true) h := by rw [cIsi_tup _ _ _ (by decide)]; rfl
@[simp] theorem oAdd_tup (xs ys : List D) (h : AH) : oAdd (.tup xs) (.tup ys) h = if Fits (xs.length + ys.length) then .ok (.tup (xs ++ ys)) h else .stuck := rfl
theorem oAdd_ref {r q : Nat} {xs ys : List D} {h : AH} (hr : h[r]? = some (.lst xs)) (hq : h[q]? = some (.lst ys)) : oAdd (.ref r) (.ref q) h = if Fits (xs.length + ys.length) then .ok (.ref h.length) (h ++ [.lst (xs ++ ys)]) else .stuck := by
  simp [oAdd, hr, hq]
theorem lc_inv {α : Type} {φ : α → D} {k : Nat} {te : EM} {e0 : AE} {ds : List D} (Q : Nat → List D → AH → Prop) : ∀ (r : List α) (i : Nat) (acc : List D) (h : AH), ds.drop i = r.map φ → acc.length + r.length ≤ sizeLine → Q i acc h →
    (∀ (j : Nat) (x : α) (acc : List D) (h : AH), r[j]? = some x → Q (i + j) acc h → ∃ d h', te (e0.set k (some (φ x))) h = .ok d h' ∧ Q (i + j + 1) (acc ++ [d]) h') →
    ∃ acc' h', lcN (stat ds) (gVar k) (eC (.bl true)) te e0 (r.length + 1) i acc h = .inr (acc', h') ∧ Q (i + r.length) acc' h'
  | [], i, acc, h, hd, _, q, _ => by
    have hi : ds[i]? = none := by
      have q : ds.length - i = 0 := by simpa using congrArg List.length hd
      have : ds.length ≤ i := by omega
      exact List.getElem?_eq_none_iff.mpr this
    refine ⟨acc, h, ?_, q⟩
    unfold lcN
    simp [stat, hi]
  | x :: r, i, acc, h, hd, hl, q, st => by
    obtain ⟨hi, hr⟩ := drop_cons (show ds.drop i = φ x :: r.map φ from hd)
    rw [List.length_cons] at hl ⊢
    obtain ⟨d, h1, e1, q1⟩ := st 0 x acc h rfl q
    obtain ⟨acc', h', e2, q2⟩ := lc_inv (φ := φ) (k := k) (te := te) (e0 := e0) (ds := ds) Q r (i + 1) (acc ++ [d]) h1 hr (by simp; omega) q1 fun j y acc h hy hq => by
      have hq' : Q (i + (j + 1)) acc h := by rwa [show i + (j + 1) = i + 1 + j by omega]
      obtain ⟨d, h', e, q⟩ := st (j + 1) y acc h (by simpa using hy) hq'
      exact ⟨d, h', e, by rwa [show i + 1 + j + 1 = i + (j + 1) + 1 by omega]⟩
    refine ⟨acc', h', ?_, by rwa [show i + (r.length + 1) = i + 1 + r.length by omega]⟩
    unfold lcN
    simp only [stat, hi, gVar_, eC_, e1]
    rw [if_pos (show FitsL acc.length from (by omega : acc.length < sizeLine))]
    exact e2
theorem eLc_inv {α : Type} {φ : α → D} {k : Nat} {mi : IM} {te : EM} {vs : List Nat} {e : AE} {h h1 : AH} (xs : List α) (hm : mi e h = .ok (stat (xs.map φ)) h1) (hn : xs.length ≤ 1000) (Q : Nat → List D → AH → Prop) (q : Q 0 [] h1)
    (st : ∀ (i : Nat) (x : α) (acc : List D) (h : AH), xs[i]? = some x → Q i acc h → ∃ d h', te ((wipeE e vs).set k (some (φ x))) h = .ok d h' ∧ Q (i + 1) (acc ++ [d]) h') :
    ∃ acc h', eLc mi (gVar k) (eC (.bl true)) te vs e h = .ok (.ref h'.length) (h' ++ [.lst acc]) ∧ Q xs.length acc h' := by
  obtain ⟨acc, h', e1, q1⟩ := lc_inv (φ := φ) (k := k) (te := te) (e0 := wipeE e vs) (ds := xs.map φ) Q xs 0 [] h1 rfl (by rw [sizeLine_eq]; simp; omega) q fun j x acc h hx hq => by
    rw [Nat.zero_add] at hq ⊢
    exact st j x acc h hx hq
  refine ⟨acc, h', ?_, by simpa using q1⟩
  unfold eLc
  rw [hm]
  have hn : (stat (xs.map φ)).n = xs.length := by simp [stat]
  simp only [hn, e1]
theorem sqE {a b : SM} {e e1 : AE} {h h1 : AH} {d : D} (ha : a e h = .nx e1 h1) (hb : ∃ h', b e1 h1 = .rt d h') : ∃ h', sSeq a b e h = .rt d h' := by
  obtain ⟨h', q⟩ := hb
  exact ⟨h', by rw [sSeq_, ha]; exact q⟩
theorem gc_bl {h h' : AH} {b : Bool} : ∃ h'', gc h (.ok (.bl b) h') = .ok (.bl b) h'' := by
  unfold gc
  dsimp only
  split
  · exact ⟨_, by rw [if_pos (by rfl)]⟩
  · exact ⟨_, rfl⟩
end Rf

set_option maxHeartbeats 1000000
/-! Perms as lists, labels, merges (first written for k11). -/
namespace Rf
open PySem L2
/-- a perm of n points -/
structure IsP (n : Nat) (p : List Nat) : Prop where
  len : p.length = n
  lt : ∀ i, i < n → p.getD i 0 < n
  inj : ∀ i j, i < n → j < n → p.getD i 0 = p.getD j 0 → i = j
theorem IsP.swap {n : Nat} {p : List Nat} (P : IsP n p) {a b : Nat} (ha : a < n) (hb : b < n) : IsP n ((p.set a (p.getD b 0)).set b (p.getD a 0)) := by
  have la : a < p.length := by rw [P.len]; exact ha
  have lb : b < (p.set a (p.getD b 0)).length := by rw [List.length_set, P.len]; exact hb
  have e : ∀ j, ((p.set a (p.getD b 0)).set b (p.getD a 0)).getD j 0 = p.getD (if b = j then a else if a = j then b else j) 0 := fun j => by
    rw [getD_set lb, getD_set la]
    split
    · rfl
    · split <;> rfl
  have l : ∀ j, j < n → (if b = j then a else if a = j then b else j) < n := fun j hj => by
    split
    · exact ha
    · split
      · exact hb
      · exact hj
  refine ⟨by simp [P.len], fun i hi => by rw [e]; exact P.lt _ (l i hi), fun i j hi hj h => ?_⟩
  rw [e, e] at h
  have q := P.inj _ _ (l i hi) (l j hj) h
  split at q <;> split at q <;> first
    | omega
    | (split at q <;> first
      | omega
      | (split at q <;> omega))
theorem IsP.range (n : Nat) : IsP n (List.range n) := by
  have e : ∀ i, i < n → (List.range n).getD i 0 = i := fun i hi => by simp [hi]
  exact ⟨by simp, fun i hi => by rw [e i hi]; exact hi, fun i j hi hj h => by rw [e i hi, e j hj] at h; exact h⟩
def Canon (L : List Nat) : Prop := ∀ j, j < L.length → L.getD j 0 ≤ j ∧ L.getD (L.getD j 0) 0 = L.getD j 0
theorem ext_getD {L M : List Nat} (l : L.length = M.length) (h : ∀ i, i < L.length → L.getD i 0 = M.getD i 0) : L = M := by
  apply List.ext_getElem l
  intro i h1 h2
  have := h i h1
  rwa [getD_get h1, getD_get h2] at this
theorem range_D {n i : Nat} (hi : i < n) : (List.range n).getD i 0 = i := by simp [hi]
theorem range_canon (n : Nat) : Canon (List.range n) := fun i hi => by
  rw [List.length_range] at hi
  rw [range_D hi, range_D hi]; exact ⟨Nat.le_refl _, rfl⟩
theorem range_eq {n : Nat} {f : Nat → Nat} {i j : Nat} (hi : i < n) (hj : j < n) (h : (List.range n).getD i 0 = (List.range n).getD j 0) : f i = f j := by
  rw [range_D hi, range_D hj] at h; rw [h]
/-- one merge -/
def mrg (L : List Nat) (a b : Nat) : List Nat := L.map fun c => if c = (if L.getD b 0 > L.getD a 0 then L.getD b 0 else L.getD a 0) then (if L.getD b 0 < L.getD a 0 then L.getD b 0 else L.getD a 0) else c
def cnt (L : List Nat) : Nat := ((List.range L.length).filter fun i => L.getD i 0 == i).length
section
variable {L : List Nat} {a b n : Nat}
theorem mrg_len : (mrg L a b).length = L.length := by simp [mrg]
theorem mrg_at {i : Nat} (hi : i < L.length) : (mrg L a b).getD i 0 = if L.getD i 0 = (if L.getD b 0 > L.getD a 0 then L.getD b 0 else L.getD a 0) then (if L.getD b 0 < L.getD a 0 then L.getD b 0 else L.getD a 0) else L.getD i 0 := by
  unfold mrg; rw [map_getD (d := 0) hi]
theorem mrg_lh : ∃ lo hi, lo ≤ hi ∧ ((lo = L.getD a 0 ∧ hi = L.getD b 0) ∨ (lo = L.getD b 0 ∧ hi = L.getD a 0)) ∧ ∀ i, i < L.length → (mrg L a b).getD i 0 = if L.getD i 0 = hi then lo else L.getD i 0 := by
  by_cases q : L.getD b 0 < L.getD a 0
  · refine ⟨L.getD b 0, L.getD a 0, by omega, .inr ⟨rfl, rfl⟩, fun i hi => ?_⟩
    rw [mrg_at hi, if_neg (show ¬ L.getD b 0 > L.getD a 0 by omega), if_pos q]
  · refine ⟨L.getD a 0, L.getD b 0, by omega, .inl ⟨rfl, rfl⟩, fun i hi => ?_⟩
    rw [mrg_at hi, if_neg q]
    by_cases q2 : L.getD b 0 > L.getD a 0
    · rw [if_pos q2]
    · rw [if_neg q2]
      have : L.getD a 0 = L.getD b 0 := by omega
      rw [this]
theorem mrg_same (h : L.getD a 0 = L.getD b 0) : mrg L a b = L := ext_getD mrg_len fun i hi => by
  rw [mrg_len] at hi
  obtain ⟨lo, up, h1, h2, h3⟩ := mrg_lh (L := L) (a := a) (b := b)
  rw [h3 i hi]
  split <;> omega
theorem mrg_canon (C : Canon L) (ha : a < L.length) (hb : b < L.length) : Canon (mrg L a b) := fun i hi => by
  rw [mrg_len] at hi
  have ci := C i hi
  have ca := C a ha
  have cb := C b hb
  obtain ⟨lo, up, h1, h2, h3⟩ := mrg_lh (L := L) (a := a) (b := b)
  have hl : lo < L.length ∧ L.getD lo 0 = lo := by
    rcases h2 with ⟨rfl, _⟩ | ⟨rfl, _⟩
    · exact ⟨by omega, ca.2⟩
    · exact ⟨by omega, cb.2⟩
  rw [h3 i hi]
  by_cases q : L.getD i 0 = up
  · rw [if_pos q, h3 _ hl.1, hl.2]
    refine ⟨by omega, ?_⟩
    split <;> rfl
  · rw [if_neg q, h3 _ (by omega), ci.2, if_neg q]
    exact ⟨ci.1, rfl⟩
/-- what a merge relates -/
theorem mrg_eq {i j : Nat} (hi : i < L.length) (hj : j < L.length) (h : (mrg L a b).getD i 0 = (mrg L a b).getD j 0) :
    L.getD i 0 = L.getD j 0 ∨ (L.getD i 0 = L.getD a 0 ∧ L.getD j 0 = L.getD b 0) ∨ (L.getD i 0 = L.getD b 0 ∧ L.getD j 0 = L.getD a 0) := by
  obtain ⟨lo, up, h1, h2, h3⟩ := mrg_lh (L := L) (a := a) (b := b)
  rw [h3 i hi, h3 j hj] at h
  split at h <;> split at h <;> omega
theorem mrg_keep {i j : Nat} (hi : i < L.length) (hj : j < L.length) (h : L.getD i 0 = L.getD j 0) : (mrg L a b).getD i 0 = (mrg L a b).getD j 0 := by
  rw [mrg_at hi, mrg_at hj, h]
theorem mrg_do (ha : a < L.length) (hb : b < L.length) : (mrg L a b).getD a 0 = (mrg L a b).getD b 0 := by
  obtain ⟨lo, up, h1, h2, h3⟩ := mrg_lh (L := L) (a := a) (b := b)
  rw [h3 a ha, h3 b hb]
  split <;> split <;> omega
theorem cnt_le : cnt L ≤ L.length := Nat.le_trans (List.length_filter_le _ _) (by simp)
theorem cnt_pos (C : Canon L) (h : 1 ≤ L.length) : 1 ≤ cnt L := by
  have := C 0 (by omega)
  exact List.length_pos_of_mem (a := 0) (List.mem_filter.mpr ⟨List.mem_range.mpr (by omega), by simp only [beq_iff_eq]; omega⟩)
/-- a merge of two classes leaves fewer -/
theorem mrg_cnt (C : Canon L) (ha : a < L.length) (hb : b < L.length) (h : L.getD a 0 ≠ L.getD b 0) : cnt (mrg L a b) + 1 ≤ cnt L := by
  have ca := C a ha
  have cb := C b hb
  obtain ⟨lo, M, h1', h2', h3⟩ := mrg_lh (L := L) (a := a) (b := b)
  have hMl : M < L.length := by omega
  have hMM : L.getD M 0 = M := by rcases h2' with ⟨_, e⟩ | ⟨_, e⟩ <;> rw [e] <;> omega
  have hMm : (mrg L a b).getD M 0 ≠ M := by
    rw [h3 M hMl, if_pos hMM]
    omega
  have := sub_length (l1 := M :: ((List.range (mrg L a b).length).filter fun i => (mrg L a b).getD i 0 == i)) (l2 := (List.range L.length).filter fun i => L.getD i 0 == i)
    (List.nodup_cons.mpr ⟨fun hm => hMm (by simpa using (List.mem_filter.mp hm).2), List.Pairwise.filter _ List.nodup_range⟩) fun x hx => by
      rcases List.mem_cons.mp hx with rfl | hx
      · exact List.mem_filter.mpr ⟨List.mem_range.mpr hMl, by simpa using hMM⟩
      · obtain ⟨h1, h2⟩ := List.mem_filter.mp hx
        rw [List.mem_range, mrg_len] at h1
        rw [beq_iff_eq] at h2
        refine List.mem_filter.mpr ⟨List.mem_range.mpr h1, ?_⟩
        rw [beq_iff_eq]
        rw [h3 x h1] at h2
        have cx := C x h1
        have ra := C a ha
        split at h2
        · rename_i e
          have lx : L.getD lo 0 = lo := by rcases h2' with ⟨e, _⟩ | ⟨e, _⟩ <;> rw [e] <;> omega
          rw [h2] at lx
          exact lx
        · exact h2
  rw [List.length_cons] at this
  exact this
end
/-! a perm meets each point; inverses are one -/
theorem IsP.surj {n : Nat} {p : List Nat} (P : IsP n p) {y : Nat} (hy : y < n) : ∃ i, i < n ∧ p.getD i 0 = y := by
  apply Classical.byContradiction
  intro no
  have nd : ((List.range n).map fun i => p.getD i 0).Nodup := by
    show List.Pairwise _ _
    rw [List.pairwise_map]
    exact List.nodup_range.imp_of_mem fun {a b} ha hb ne e => ne (P.inj a b (List.mem_range.mp ha) (List.mem_range.mp hb) e)
  have l := sub_length nd (l2 := (List.range n).erase y) fun x hx => by
    obtain ⟨i, hi, rfl⟩ := List.mem_map.mp hx
    rw [List.mem_range] at hi
    exact (List.mem_erase_of_ne fun e => no ⟨i, hi, e⟩).mpr (List.mem_range.mpr (P.lt i hi))
  rw [List.length_erase_of_mem (List.mem_range.mpr hy)] at l
  simp at l
  omega
def Inv (n : Nat) (p q : List Nat) : Prop := q.length = n ∧ ∀ i, i < n → q.getD (p.getD i 0) 0 = i
theorem Inv.uniq {n : Nat} {p q q' : List Nat} (P : IsP n p) (a : Inv n p q) (b : Inv n p q') : q = q' := ext_getD (by rw [a.1, b.1]) fun y hy => by
  obtain ⟨i, hi, rfl⟩ := P.surj (y := y) (by rw [← a.1]; exact hy)
  rw [a.2 i hi, b.2 i hi]
theorem Inv.isP {n : Nat} {p q : List Nat} (P : IsP n p) (a : Inv n p q) : IsP n q :=
  ⟨a.1, fun y hy => by
    obtain ⟨i, hi, rfl⟩ := P.surj hy
    rw [a.2 i hi]; exact hi, fun y z hy hz h => by
    obtain ⟨i, hi, rfl⟩ := P.surj hy
    obtain ⟨j, hj, rfl⟩ := P.surj hz
    rw [a.2 i hi, a.2 j hj] at h
    rw [h]⟩
theorem Inv.back {n : Nat} {p q : List Nat} (P : IsP n p) (a : Inv n p q) {y : Nat} (hy : y < n) : p.getD (q.getD y 0) 0 = y := by
  obtain ⟨i, hi, rfl⟩ := P.surj hy
  rw [a.2 i hi]
/-! [f x y for x in xs for y in ys], nothing else changes -/
theorem lcI_map {β : Type} {ψ : β → D} {k : Nat} {te : EM} {e0 : AE} {h1 : AH} (f : β → D) {ds : List D} : ∀ (r : List β) (i : Nat) (acc : List D), ds.drop i = r.map ψ → acc.length + r.length ≤ sizeLine →
    (∀ y ∈ r, ∀ acc, te (e0.set k (some (ψ y))) (h1 ++ [.lst acc]) = .ok (f y) (h1 ++ [.lst acc])) →
    lcI (stat ds) (gVar k) (eC (.bl true)) te e0 h1.length (r.length + 1) i (h1 ++ [.lst acc]) = some (h1 ++ [.lst (acc ++ r.map f)])
  | [], i, acc, hd, _, _ => by
    have hi : ds[i]? = none := by
      have q : ds.length - i = 0 := by simpa using congrArg List.length hd
      have : ds.length ≤ i := by omega
      exact List.getElem?_eq_none_iff.mpr this
    unfold lcI
    simp [stat, hi]
  | y :: r, i, acc, hd, hl, hf => by
    obtain ⟨hi, hr⟩ := drop_cons (show ds.drop i = ψ y :: r.map ψ from hd)
    rw [List.length_cons] at hl ⊢
    have ih := lcI_map (ψ := ψ) (k := k) (te := te) (e0 := e0) (h1 := h1) f (ds := ds) r (i + 1) (acc ++ [f y]) hr (by simp; omega) fun y hy => hf y (List.mem_cons_of_mem _ hy)
    unfold lcI
    have ap : app1 h1.length (f y) (h1 ++ [.lst acc]) = some (h1 ++ [.lst (acc ++ [f y])]) := by
      unfold app1
      rw [getLast_app]
      dsimp only
      rw [if_pos (show FitsL acc.length from (by omega : acc.length < sizeLine))]
      simp
    simp only [stat, hi, gVar_, eC_, hf y List.mem_cons_self acc, ap]
    simp only [stat] at ih
    rw [ih, List.map_cons, List.append_assoc]; rfl
theorem lcO_map {α β : Type} {φ : α → D} {ψ : β → D} {k k1 : Nat} {mi1 : IM} {te : EM} {vs1 : List Nat} {e0 : AE} {h1 : AH} (ys : α → List β) (f : α → β → D) {ds : List D} : ∀ (r : List α) (i : Nat) (acc : List D), ds.drop i = r.map φ → acc.length + (r.flatMap fun x => (ys x).map (f x)).length ≤ sizeLine →
    (∀ x ∈ r, ∀ acc, mi1 (e0.set k (some (φ x))) (h1 ++ [.lst acc]) = .ok (stat ((ys x).map ψ)) (h1 ++ [.lst acc])) →
    (∀ x ∈ r, ∀ y ∈ ys x, ∀ acc, te ((wipeE (e0.set k (some (φ x))) vs1).set k1 (some (ψ y))) (h1 ++ [.lst acc]) = .ok (f x y) (h1 ++ [.lst acc])) →
    lcO (stat ds) (gVar k) (eC (.bl true)) mi1 (gVar k1) (eC (.bl true)) te vs1 e0 h1.length (r.length + 1) i (h1 ++ [.lst acc]) = some (h1 ++ [.lst (acc ++ r.flatMap fun x => (ys x).map (f x))])
  | [], i, acc, hd, _, _, _ => by
    have hi : ds[i]? = none := by
      have q : ds.length - i = 0 := by simpa using congrArg List.length hd
      have : ds.length ≤ i := by omega
      exact List.getElem?_eq_none_iff.mpr this
    unfold lcO
    simp [stat, hi]
  | x :: r, i, acc, hd, hl, hm, hf => by
    obtain ⟨hi, hr⟩ := drop_cons (show ds.drop i = φ x :: r.map φ from hd)
    rw [List.flatMap_cons, List.length_append, List.length_map] at hl
    rw [List.length_cons]
    have ih := lcO_map (φ := φ) (ψ := ψ) (k := k) (k1 := k1) (mi1 := mi1) (te := te) (vs1 := vs1) (e0 := e0) (h1 := h1) ys f (ds := ds) r (i + 1) (acc ++ (ys x).map (f x)) hr (by simp at hl ⊢; omega) (fun y hy => hm y (List.mem_cons_of_mem _ hy)) fun y hy => hf y (List.mem_cons_of_mem _ hy)
    have ii := lcI_map (ψ := ψ) (k := k1) (te := te) (e0 := wipeE (e0.set k (some (φ x))) vs1) (h1 := h1) (f x) (ds := (ys x).map ψ) (ys x) 0 acc rfl (by omega) (hf x List.mem_cons_self)
    unfold lcO
    simp only [stat, hi, gVar_, eC_, hm x List.mem_cons_self acc]
    have hn : ((ys x).map ψ).length = (ys x).length := by simp
    simp only [stat, hn] at ii ⊢
    rw [ii]
    dsimp only
    simp only [stat] at ih
    rw [ih, List.flatMap_cons, List.append_assoc]
theorem eLc2_map {α β : Type} {φ : α → D} {ψ : β → D} {k k1 : Nat} {mi mi1 : IM} {te : EM} {vs vs1 : List Nat} {e : AE} {h h1 : AH} (xs : List α) (ys : α → List β) (f : α → β → D) (hm : mi e h = .ok (stat (xs.map φ)) h1) (hl : (xs.flatMap fun x => (ys x).map (f x)).length ≤ sizeLine)
    (hi : ∀ x ∈ xs, ∀ acc, mi1 ((wipeE e vs).set k (some (φ x))) (h1 ++ [.lst acc]) = .ok (stat ((ys x).map ψ)) (h1 ++ [.lst acc]))
    (hf : ∀ x ∈ xs, ∀ y ∈ ys x, ∀ acc, te ((wipeE ((wipeE e vs).set k (some (φ x))) vs1).set k1 (some (ψ y))) (h1 ++ [.lst acc]) = .ok (f x y) (h1 ++ [.lst acc])) :
    eLc2 mi (gVar k) (eC (.bl true)) mi1 (gVar k1) (eC (.bl true)) te vs vs1 e h = .ok (.ref h1.length) (h1 ++ [.lst (xs.flatMap fun x => (ys x).map (f x))]) := by
  unfold eLc2
  rw [hm]
  have := lcO_map (φ := φ) (ψ := ψ) (k := k) (k1 := k1) (mi1 := mi1) (te := te) (vs1 := vs1) (e0 := wipeE e vs) (h1 := h1) ys f (ds := xs.map φ) xs 0 [] rfl (by simpa using hl) hi hf
  have hn : (stat (xs.map φ)).n = xs.length := by simp [stat]
  simp only [hn, this, List.nil_append]
end Rf

set_option maxHeartbeats 1000000
/-! Dicts whose keys are numbers 0, 1, ..; sorted of numbers; what a deep list leaves. -/
namespace Rf
open PySem L2
section
variable {α : Type} {f : α → D} {ks : List (Nat × α)} {y z : Nat} {a : α}
def encK (f : α → D) (ks : List (Nat × α)) : List (Key × D) := ks.map fun p => (.inl (p.1 : Int), f p.2)
def lk (ks : List (Nat × α)) (y : Nat) : Option α := (ks.find? fun p => p.1 == y).map (·.2)
def stK (ks : List (Nat × α)) (y : Nat) (a : α) : List (Nat × α) := if (ks.any fun p => p.1 == y) = true then ks.map (fun p => if p.1 = y then (p.1, a) else p) else ks ++ [(y, a)]
theorem inl_eq {y z : Nat} : ((Sum.inl (y : Int) : Key) = Sum.inl (z : Int)) ↔ y = z := by
  constructor
  · intro h; have := Sum.inl.inj h; omega
  · rintro rfl; rfl
theorem encK_len : (encK f ks).length = ks.length := by simp [encK]
theorem valD_enc : valD (encK f ks) (.inl (y : Int)) = (lk ks y).map f := by
  unfold valD lk encK
  induction ks with
  | nil => rfl
  | cons p ks ih =>
    rw [List.map_cons]
    by_cases h : p.1 = y
    · rw [List.find?_cons_of_pos (by simp [inl_eq, h]), List.find?_cons_of_pos (by simpa using h)]; rfl
    · rw [List.find?_cons_of_neg (by simp only [decide_eq_true_eq, inl_eq]; exact h), List.find?_cons_of_neg (by simpa using h)]; exact ih
theorem any_enc : ((encK f ks).any fun kv => decide (kv.1 = .inl (y : Int))) = ks.any fun p => p.1 == y := by
  unfold encK
  rw [List.any_map]
  congr 1
  funext p
  by_cases h : p.1 = y
  · simp [Function.comp, h]
  · have : ¬ ((Sum.inl (p.1 : Int) : Key) = Sum.inl (y : Int)) := fun e => h (inl_eq.mp e)
    simp [Function.comp, h, this]
theorem setD_enc : setD (encK f ks) (.inl (y : Int)) (f a) = encK f (stK ks y a) := by
  unfold setD stK
  rw [any_enc]
  by_cases q : (ks.any fun p => p.1 == y) = true
  · rw [if_pos q, if_pos q]
    unfold encK
    rw [List.map_map, List.map_map]
    apply List.map_congr_left
    intro p _
    by_cases h : p.1 = y
    · simp [Function.comp, h]
    · have : ¬ ((Sum.inl (p.1 : Int) : Key) = Sum.inl (y : Int)) := fun e => h (inl_eq.mp e)
      simp [Function.comp, h, this]
  · rw [if_neg q, if_neg q]
    unfold encK
    rw [List.map_append]; rfl
theorem lk_none : lk ks y = none ↔ y ∉ ks.map (·.1) := by
  unfold lk
  rw [Option.map_eq_none_iff, List.find?_eq_none]
  constructor
  · intro h m
    obtain ⟨p, hp, e⟩ := List.mem_map.mp m
    exact h p hp (by simpa using e)
  · intro h p hp e
    exact h (List.mem_map.mpr ⟨p, hp, by simpa using e⟩)
theorem lk_some_mem (h : lk ks y = some a) : y ∈ ks.map (·.1) := by
  apply Classical.byContradiction
  intro q
  rw [lk_none.mpr q] at h
  cases h
theorem lk_stK : lk (stK ks y a) z = if z = y then some a else lk ks z := by
  unfold stK
  by_cases q : (ks.any fun p => p.1 == y) = true
  · rw [if_pos q]
    induction ks with
    | nil => simp at q
    | cons p ks ih =>
      unfold lk at *
      rw [List.map_cons]
      by_cases h : p.1 = y
      · rw [if_pos h]
        by_cases hz : z = y
        · rw [List.find?_cons_of_pos (by simp [h, hz]), if_pos hz]; rfl
        · rw [List.find?_cons_of_neg (by simp [h]; exact fun e => hz e.symm), if_neg hz, List.find?_cons_of_neg (by simp [h]; exact fun e => hz e.symm)]
          by_cases q2 : (ks.any fun p => p.1 == y) = true
          · rw [ih q2, if_neg hz]
          · congr 1
            have : ks.map (fun p => if p.1 = y then (p.1, a) else p) = ks := by
              rw [List.map_congr_left (g := id), List.map_id]
              intro p' hp'
              have : ¬ p'.1 = y := fun e => q2 (List.any_eq_true.mpr ⟨p', hp', by simpa using e⟩)
              simp [this]
            rw [this]
      · rw [if_neg h]
        have q2 : (ks.any fun p => p.1 == y) = true := by simpa [h] using q
        by_cases hz : p.1 = z
        · rw [List.find?_cons_of_pos (by simpa using hz), List.find?_cons_of_pos (by simpa using hz), if_neg (fun e => h (by rw [hz, e]))]
        · rw [List.find?_cons_of_neg (by simpa using hz), List.find?_cons_of_neg (by simpa using hz)]
          exact ih q2
  · rw [if_neg q]
    have nf : ks.find? (fun p => p.1 == y) = none := by
      rw [List.find?_eq_none]
      intro p hp e
      exact q (List.any_eq_true.mpr ⟨p, hp, e⟩)
    unfold lk
    rw [List.find?_append]
    by_cases hz : z = y
    · subst hz; rw [nf, if_pos rfl]; simp
    · rw [if_neg hz]
      have : [(y, a)].find? (fun p => p.1 == z) = none := by simp; exact fun e => hz e.symm
      rw [this, Option.or_none]
theorem keys_stK : (stK ks y a).map (·.1) = if y ∈ ks.map (·.1) then ks.map (·.1) else ks.map (·.1) ++ [y] := by
  unfold stK
  by_cases q : (ks.any fun p => p.1 == y) = true
  · rw [if_pos q, if_pos (by
      obtain ⟨p, hp, e⟩ := List.any_eq_true.mp q
      exact List.mem_map.mpr ⟨p, hp, by simpa using e⟩), List.map_map]
    apply List.map_congr_left
    intro p _
    by_cases h : p.1 = y <;> simp [Function.comp, h]
  · rw [if_neg q, if_neg (fun m => q (by
      obtain ⟨p, hp, e⟩ := List.mem_map.mp m
      exact List.any_eq_true.mpr ⟨p, hp, by simpa using e⟩)), List.map_append]; rfl
theorem keys_nodup (h : (ks.map (·.1)).Nodup) : ((stK ks y a).map (·.1)).Nodup := by
  rw [keys_stK]
  split
  · exact h
  · rename_i q
    exact List.nodup_append.mpr ⟨h, by simp, fun u hu v hv => by rw [List.mem_singleton] at hv; subst hv; exact fun e => q (e ▸ hu)⟩
theorem keysI_enc : keysI (encK f ks) = some ((ks.map (·.1)).map fun x : Nat => (x : Int)) := by
  unfold encK
  induction ks with
  | nil => rfl
  | cons p ks ih =>
    rw [List.map_cons, keysI, ih]; rfl
end
theorem IsP.nodup {n : Nat} {p : List Nat} (P : IsP n p) : p.Nodup := by
  show List.Pairwise _ _
  rw [List.pairwise_iff_getElem]
  intro i j hi hj lt e
  have := P.inj i j (by rw [← P.len]; exact hi) (by rw [← P.len]; exact hj) (by rw [getD_get hi, getD_get hj]; exact e)
  omega
/-- a perm made from 0, 1, .. by sending the points of S to points of S -/
theorem patchP {n m : Nat} {img : List Nat} (l : img.length = n) (S T : Nat → Nat) (hS : ∀ a, a < m → S a < n) (iS : ∀ a b, a < m → b < m → S a = S b → a = b) (iT : ∀ a b, a < m → b < m → T a = T b → a = b) (TS : ∀ a, a < m → ∃ b, b < m ∧ T a = S b)
    (h1 : ∀ a, a < m → img.getD (S a) 0 = T a) (h2 : ∀ x, x < n → (∀ a, a < m → S a ≠ x) → img.getD x 0 = x) : IsP n img := by
  refine ⟨l, fun x hx => ?_, fun x y hx hy e => ?_⟩
  · by_cases q : ∃ a, a < m ∧ S a = x
    · obtain ⟨a, ha, rfl⟩ := q
      rw [h1 a ha]
      obtain ⟨b, hb, e⟩ := TS a ha
      rw [e]; exact hS b hb
    · rw [h2 x hx fun a ha e => q ⟨a, ha, e⟩]; exact hx
  · by_cases q : ∃ a, a < m ∧ S a = x
    · obtain ⟨a, ha, rfl⟩ := q
      rw [h1 a ha] at e
      by_cases q2 : ∃ b, b < m ∧ S b = y
      · obtain ⟨b, hb, rfl⟩ := q2
        rw [h1 b hb] at e
        rw [iT a b ha hb e]
      · rw [h2 y hy fun a ha e => q2 ⟨a, ha, e⟩] at e
        obtain ⟨b, hb, e'⟩ := TS a ha
        exact absurd ⟨b, hb, by rw [← e', e]⟩ q2
    · rw [h2 x hx fun a ha e => q ⟨a, ha, e⟩] at e
      by_cases q2 : ∃ b, b < m ∧ S b = y
      · obtain ⟨b, hb, rfl⟩ := q2
        rw [h1 b hb] at e
        obtain ⟨c, hc, e'⟩ := TS b hb
        exact absurd ⟨c, hc, by rw [← e', e]⟩ q
      · rw [h2 y hy fun a ha e => q2 ⟨a, ha, e⟩] at e
        exact e
theorem dN_ints (L : List Nat) : L.map dN = (L.map fun x : Nat => (x : Int)).map D.int := by rw [List.map_map]; rfl
/-- sorted of numbers -/
theorem natSort (ks : List Nat) : ∃ L : List Nat, L.Perm ks ∧ L.Pairwise (· ≤ ·) ∧ (intSort (ks.map fun x : Nat => (x : Int))).map D.int = L.map dN := by
  have p := List.mergeSort_perm ks (fun a b => decide (a ≤ b))
  have u : (ks.mergeSort fun a b => decide (a ≤ b)).Pairwise (· ≤ ·) := by
    have := List.pairwise_mergeSort (le := fun a b : Nat => decide (a ≤ b)) (fun a b c h1 h2 => by simp at *; omega) (fun a b => by simp; omega) ks
    exact this.imp fun h => by simpa using h
  refine ⟨_, p, u, ?_⟩
  rw [dN_ints]
  congr 1
  refine (intSort_eq (p.map _) ?_).symm
  rw [List.pairwise_map]
  exact u.imp fun h => by omega
theorem gc_deep {h h' : AH} {i : Nat} {o : AO} (e : h'[i]? = some o) (f : o.flat = false) : gc h (.ok (.ref i) h') = .ok (.ref i) h' := by
  unfold gc
  dsimp only
  split
  · rw [if_neg (by unfold D.pure; exact Bool.false_ne_true), if_neg]
    rintro ⟨_, o', e', f'⟩
    rw [e] at e'
    cases e'
    rw [f] at f'
    cases f'
  · rfl
@[simp] theorem eChain_ (g g' : D → D → AH → ER) (a b c : EM) (env : AE) (h : AH) : eChain g g' a b c env h = (a env h).then fun d1 h1 => (b env h1).then fun d2 h2 => (g d1 d2 h2).then fun z h3 => onE z ((c env h3).then fun d3 h4 => g' d2 d3 h4) (.ok (.bl false) h3) := by
  unfold eChain onE
  rfl
@[simp] theorem oLt_tupN (u v : List Nat) (h : AH) : oLt (.tup (u.map dN)) (.tup (v.map dN)) h = .ok (.bl (HT.lexLt (u.map fun x : Nat => (x : Int)) (v.map fun x : Nat => (x : Int)))) h := by
  rw [dN_ints, dN_ints]
  simp only [oLt, intsOf_map]
theorem sqR {a b : SM} {e e1 : AE} {h h1 : AH} {R : D → AH → Prop} (ha : a e h = .nx e1 h1) (hb : ∃ d h', b e1 h1 = .rt d h' ∧ R d h') : ∃ d h', sSeq a b e h = .rt d h' ∧ R d h' := by
  obtain ⟨d, h', q, r⟩ := hb
  exact ⟨d, h', by rw [sSeq_, ha]; exact q, r⟩
theorem sqX {a b : SM} {e : AE} {h : AH} {R : D → AH → Prop} (ha : ∃ d h', a e h = .rt d h' ∧ R d h') : ∃ d h', sSeq a b e h = .rt d h' ∧ R d h' := by
  obtain ⟨d, h', q, r⟩ := ha
  exact ⟨d, h', by rw [sSeq_, q]; rfl, r⟩
end Rf

set_option maxHeartbeats 1000000
namespace Law
open PySem Rf L2
def Bag (N : Nat) (o : AO) : Prop := ∃ b0 b1 b2 : Int, o = .lst [.int b0, .int b1, .int b2] ∧ (0 ≤ b0 ∧ b0 < 10 ^ 60) ∧ (0 ≤ b1 ∧ b1 < 10 ^ 60) ∧ 0 ≤ b2 ∧ b2 ≤ N
theorem Bag.flat {N : Nat} {o : AO} (b : Bag N o) : o.flat = true := by
  obtain ⟨b0, b1, b2, rfl, _⟩ := b
  rfl
theorem Bag.mono {N M : Nat} {o : AO} (b : Bag N o) (h : N ≤ M) : Bag M o := by
  obtain ⟨b0, b1, b2, e, h0, h1, h2, h3⟩ := b
  exact ⟨b0, b1, b2, e, h0, h1, h2, by omega⟩
theorem take_spec {h : AH} {a N : Nat} {o : AO} (ha : h[a]? = some o) (hb : Bag N o) (hN : N ≤ 1000000000) {s : Int} (hs : 0 < s) (hs2 : s < 10 ^ 60) :
    ∃ (d : Nat) (o' : AO), c__law_take [.ref a, .int s] h = .ok (.int d) (h.set a o') ∧ (d : Int) < s ∧ Bag (N + 1) o' := by
  obtain ⟨b0, b1, b2, rfl, ⟨h00, h01⟩, ⟨h10, h11⟩, h20, h21⟩ := hb
  have hal : a < h.length := (List.getElem?_eq_some_iff.mp ha).1
  have e0 : (h.set a (.lst [.int b0, .int b1, .int (b2 + 1)]))[a]? = some (.lst [.int b0, .int b1, .int (b2 + 1)]) := List.getElem?_set_self hal
  have hd : DivOk s := divB hs (by omega)
  have c1 : CMulX 7919 (b2 + 1) := mulB (by omega) (by omega) (by omega) (by omega)
  have c2 : CMulX (b1 + 7919 * (b2 + 1)) 48271 := mulB (by omega) (by omega) (by omega) (by omega)
  have c3 : CMulX 104729 (b2 + 1) := mulB (by omega) (by omega) (by omega) (by omega)
  have c4 : CMulX ((b1 + 7919 * (b2 + 1)) * 48271 % 2147483647 / 3 + 104729 * (b2 + 1)) 69621 := mulB (by omega) (by omega) (by omega) (by omega)
  have hg := fun x => get_set ha x
  have m0 : 0 ≤ b0 % s ∧ b0 % s < s := ⟨Int.emod_nonneg _ (by omega), Int.emod_lt_of_pos _ hs⟩
  have q0 : 0 ≤ b0 / s ∧ b0 / s ≤ b0 := ⟨Int.ediv_nonneg h00 (by omega), Int.ediv_le_self _ h00⟩
  generalize hM : ((b1 + 7919 * (b2 + 1)) * 48271 % 2147483647 / 3 + 104729 * (b2 + 1)) * 69621 % 2147483629 / 7 = M
  have m1 : 0 ≤ M % s ∧ M % s < s := ⟨Int.emod_nonneg _ (by omega), Int.emod_lt_of_pos _ hs⟩
  by_cases q : 10 ^ 18 ≤ b1 ∧ 0 < b0
  · have q1 : (1000000000000000000 : Int) ≤ b1 := q.1
    refine ⟨(b0 % s).toNat, .lst [.int (b0 / s), .int b1, .int (b2 + 1)], ?_, by omega, b0 / s, b1, b2 + 1, rfl, by omega, by omega, by omega, by omega⟩
    have e : c__law_take [.ref a, .int s] h = gc h (.ok (.int (b0 % s)) (h.set a (.lst [.int (b0 / s), .int b1, .int (b2 + 1)]))) := by
      unfold c__law_take fsem
      simp [m__law_take, ha, hg, oMul_, oDiv_, oMod_, hd, c1, c2, c3, c4, hs, q1, q.2]
    rw [e, gc_set rfl rfl, Int.toNat_of_nonneg m0.1]
  · refine ⟨(M % s).toNat, .lst [.int b0, .int b1, .int (b2 + 1)], ?_, by omega, b0, b1, b2 + 1, rfl, by omega, by omega, by omega, by omega⟩
    have e : c__law_take [.ref a, .int s] h = gc h (.ok (.int (M % s)) (h.set a (.lst [.int b0, .int b1, .int (b2 + 1)]))) := by
      unfold c__law_take fsem
      by_cases q1 : (1000000000000000000 : Int) ≤ b1
      · have q2 : ¬ 0 < b0 := fun z => q ⟨q1, z⟩
        simp [m__law_take, ha, hg, oMul_, oDiv_, oMod_, hd, c1, c2, c3, c4, hs, q1, q2, hM]
      · simp [m__law_take, ha, hg, oMul_, oDiv_, oMod_, hd, c1, c2, c3, c4, hs, q1, hM]
    rw [e, gc_set rfl rfl, Int.toNat_of_nonneg m1.1]

theorem cell_spec {h : AH} {ns : List Int} (hl : ns.length ≤ 63) {k : Nat} (hk : k ≤ 100) : ∃ v : Int, c__law_cell [.rol (ns.map D.int), dN k] h = .ok (.int v) h ∧ 0 ≤ v ∧ v < 10 ^ 60 := by
  have ht : cutD (ns.map D.int) none (some 63) = ns.map D.int := by
    rw [show (63 : Int) = ((63 : Nat) : Int) from rfl, cutD_to, List.take_of_length_le (by simpa using hl)]
  have ha : (h ++ [AO.lst (ns.map D.int)])[h.length]? = some (.lst (ns.map D.int)) := by simp
  by_cases q : k < ns.length
  · refine ⟨ns[k] % 10 ^ 60, ?_, Int.emod_nonneg _ (by decide), Int.emod_lt_of_pos _ (by decide)⟩
    have ei : ∀ h, ixD (ns.map D.int) (k : Int) h = .ok (.int ns[k]) h := fun h => ixD_map (List.getElem?_eq_getElem q)
    have e : c__law_cell [.rol (ns.map D.int), dN k] h = gc h (.ok (.int (ns[k] % 10 ^ 60)) (h ++ [.lst (ns.map D.int)])) := by
      unfold c__law_cell fsem
      simp [m__law_cell, ht, q, ei, oMod_]
    rw [e, gc_app rfl]
  · have c1 : CMulX (ns.sum % 1000003) 7919 := mulB (by omega) (by omega) (by omega) (by omega)
    have c2 : CMulX 104729 (k : Int) := mulB (by omega) (by omega) (by omega) (by omega)
    refine ⟨(ns.sum % 1000003 * 7919 + 104729 * k) % 10 ^ 15, ?_, Int.emod_nonneg _ (by decide), Int.lt_trans (Int.emod_lt_of_pos _ (by decide)) (by decide)⟩
    have e : c__law_cell [.rol (ns.map D.int), dN k] h = gc h (.ok (.int ((ns.sum % 1000003 * 7919 + 104729 * k) % 10 ^ 15)) (h ++ [.lst (ns.map D.int)])) := by
      unfold c__law_cell fsem
      simp [m__law_cell, ht, q, oMod_, oMul_, c1, c2]
    rw [e, gc_app rfl]
theorem bag_spec {h : AH} {ns : List Int} (hl : ns.length ≤ 63) {k : Nat} (hk : k ≤ 100) : ∃ o, c__law_bag [.rol (ns.map D.int), dN k] h = .ok (.ref h.length) (h ++ [o]) ∧ Bag 6400 o := by
  obtain ⟨v, ev, h0, h1⟩ := cell_spec (h := h) hl hk
  refine ⟨.lst [.int v, .int v, .int (64 * k)], ?_, v, v, 64 * k, rfl, ⟨h0, h1⟩, ⟨h0, h1⟩, by omega, by omega⟩
  have c2 : CMulX 64 (k : Int) := mulB (by omega) (by omega) (by omega) (by omega)
  have e : c__law_bag [.rol (ns.map D.int), dN k] h = gc h (.ok (.ref (h.length + 0)) (h ++ [.lst [.int v, .int v, .int (64 * k)]])) := by
    unfold c__law_bag fsem
    simp [m__law_bag, ev, oMul_, c2]
  rw [e, gc_new (i := 0) rfl rfl]
theorem shuffled_spec {h : AH} {a N : Nat} {o : AO} (ha : h[a]? = some o) (hb : Bag N o) {n : Nat} (h1 : 1 ≤ n) (hn : n ≤ 1000) (hN : N + n ≤ 1000000000) :
    ∃ (p : List Nat) (o' : AO), c__law_shuffled [.ref a, dN n] h = .ok (.ref h.length) (h.set a o' ++ [.lst (p.map dN)]) ∧ IsP n p ∧ Bag (N + n) o' := by
  have hal := (List.getElem?_eq_some_iff.mp ha).1
  obtain ⟨e', h', q, x3, x4, x5, p, o', rfl, rfl, P, B⟩ := loopN (k := 3) (b := lb__law_shuffled_1)
    (fun i e h' => ∃ x3 x4 x5 p o', e = [some (.ref a), some (dN n), some (.ref h.length), x3, x4, x5] ∧ h' = h.set a o' ++ [.lst (p.map dN)] ∧ IsP n p ∧ Bag (N + i) o')
    (n - 1) (e := [some (.ref a), some (dN n), some (.ref h.length), none, none, none]) (h := h ++ [.lst ((List.range n).map dN)])
    ⟨none, none, none, List.range n, o, rfl, by rw [set_self ha], IsP.range n, hb⟩ (by
      rintro i e h' hi ⟨x3, x4, x5, p, o', rfl, rfl, P, B⟩
      have ha' : (h.set a o' ++ [AO.lst (p.map dN)])[a]? = some o' := app_get_l (get_set ha o')
      obtain ⟨d, o2, ed, hd, B2⟩ := take_spec (s := (n : Int) - (i : Nat)) ha' B (by omega) (by omega) (by omega)
      have hio : i + d < n := by omega
      refine ⟨_, _, ?_, some (dN i), some (dN (i + d)), some (dN (p.getD i 0)), (p.set i (p.getD (i + d) 0)).set (i + d) (p.getD i 0), o2, rfl, rfl, P.swap (by omega) hio, B2⟩
      have e1 : (h.set a o' ++ [AO.lst (p.map dN)]).set a o2 = h.set a o2 ++ [AO.lst (p.map dN)] := by rw [app_set_l (by simpa using hal), List.set_set]
      rw [e1] at ed
      have lp := P.len
      have x1 : ∀ h, ixD (p.map dN) (i : Int) h = .ok (dN (p.getD i 0)) h := fun h => ixD_N (by omega)
      have x2 : ∀ h, ixD (p.map dN) ((i : Int) + (d : Int)) h = .ok (dN (p.getD (i + d) 0)) h := fun h => ixD_N (i := i + d) (by omega)
      have y1 : ∀ (ds : List D) r v h, ds.length = n → putO (some (.lst ds)) r (i : Int) v h = some (h.set r (.lst (ds.set i v))) := fun ds r v h hl => putO_nat (by omega)
      have y2 : ∀ (ds : List D) r v h, ds.length = n → putO (some (.lst ds)) r ((i : Int) + (d : Int)) v h = some (h.set r (.lst (ds.set (i + d) v))) := fun ds r v h hl => putO_nat (i := i + d) (by omega)
      simp [lb__law_shuffled_1, ed, x1, x2, y1, y2, lp, dN])
  refine ⟨p, o', ?_, P, B.mono (by omega)⟩
  have r1 : RgB ((n - 1 : Nat) : Int) := rgB_nat (by omega)
  have r2 : RgOk 0 (n : Int) := rgOk_nat (by omega)
  have r3 : (n : Int) - 1 = ((n - 1 : Nat) : Int) := by omega
  have e : c__law_shuffled [.ref a, dN n] h = gc h (.ok (.ref (h.length + 0)) (h.set a o' ++ [.lst (p.map dN)])) := by
    unfold c__law_shuffled fsem
    simp [m__law_shuffled, r1, r2, r3, rg_zero, q]
  rw [e, gc_set_new B.flat (i := 0) rfl (by simp)]
end Law

set_option maxHeartbeats 1000000
namespace Law
open PySem Rf L2
theorem lc_inverse {p : List Nat} (hn : p.length ≤ 1000) {x1 x2 x3 x4 : Option D} {h : AH} : lc_inverse_1 [some (.tup (p.map dN)), x1, x2, x3, x4] h = .ok (.ref h.length) (h ++ [.lst ((List.replicate p.length 0).map dN)]) := by
  unfold lc_inverse_1
  rw [eLc_map (φ := dN) p (fun _ => dN 0) (h1 := h) (iVal_tup (by simp)) (by rw [sizeLine_eq]; omega)]
  · simp [List.map_const']
  · intro x hx
    simp [wipeE, dN]
theorem inverseP_spec {p : List Nat} {n : Nat} (P : IsP n p) (hL : n ≤ 1000) {h : AH} :
    ∃ (q : List Nat), c_inverse [.tup (p.map dN)] h = .ok (.tup (q.map dN)) h ∧ q.length = n ∧ ∀ i, i < n → q.getD (p.getD i 0) 0 = i := by
  have lp := P.len
  obtain ⟨e', h', w, x2, x3, x4, q, rfl, rfl, ql, qi⟩ := loop_inv (g := gTup 2 (gCons (gVar 3) (gCons (gVar 4) gNils))) (b := lb_inverse_1)
    (fun i e h' => ∃ x2 x3 x4 q, e = [some (.tup (p.map dN)), some (.ref h.length), x2, x3, x4] ∧ h' = h ++ [.lst (q.map dN)] ∧ q.length = n ∧ ∀ k, k < i → q.getD (p.getD k 0) 0 = k)
    (numD (p.map dN)) 0 [some (.tup (p.map dN)), some (.ref h.length), none, none, none] (h ++ [.lst ((List.replicate n 0).map dN)])
    ⟨none, none, none, List.replicate n 0, rfl, rfl, by simp, fun k hk => absurd hk (by omega)⟩ (by
      rintro i d e h' hd ⟨x2, x3, x4, q, rfl, rfl, ql, qi⟩
      rw [Nat.zero_add] at qi ⊢
      rw [numD_at, List.getElem?_map] at hd
      have hi : i < n := by
        rw [← lp]
        refine Nat.lt_of_not_le fun hle => ?_
        rw [List.getElem?_eq_none (by omega)] at hd
        cases hd
      rw [getD_some (a := 0) (by omega)] at hd
      have hp := P.lt i hi
      obtain rfl : D.tup [dN i, dN (p.getD i 0)] = d := by simpa using hd
      refine ⟨_, _, ?_, x2, some (dN i), some (dN (p.getD i 0)), q.set (p.getD i 0) i, rfl, rfl, by simpa using ql, fun k hk => ?_⟩
      · have y1 : ∀ r h, putO (some (.lst (q.map dN))) r ((p.getD i 0 : Nat) : Int) (dN i) h = some (h.set r (.lst ((q.set (p.getD i 0) i).map dN))) := fun r h => putO_N (by omega)
        simp only [dN] at y1
        simp [lb_inverse_1, dN, y1, -List.getD_eq_getElem?_getD]
      · rw [getD_set (by omega)]
        by_cases hk2 : k = i
        · subst hk2; rw [if_pos rfl]
        · rw [if_neg fun e => hk2 (P.inj _ _ (by omega) hi e.symm)]
          exact qi k (by omega))
  have ln : (numD (p.map dN)).length = n := by simp [numD, lp]
  rw [ln, Nat.zero_add] at qi
  refine ⟨q, ?_, ql, qi⟩
  have l0 := fun x1 x2 x3 x4 h => lc_inverse (p := p) (by omega) (x1 := x1) (x2 := x2) (x3 := x3) (x4 := x4) (h := h)
  rw [lp] at l0
  have e : c_inverse [.tup (p.map dN)] h = gc h (.ok (.tup (q.map dN)) (h ++ [.lst (q.map dN)])) := by
    unfold c_inverse fsem
    have sf := sFor_stat (mi := iEnum1 (eVar 0)) (g := gTup 2 (gCons (gVar 3) (gCons (gVar 4) gNils))) (b := lb_inverse_1) (e := [some (.tup (p.map dN)), some (.ref h.length), none, none, none]) (h := h ++ [.lst ((List.replicate n 0).map dN)]) (iEnum1_tup (h1 := h ++ [.lst ((List.replicate n 0).map dN)]) (ds := p.map dN) rfl)
    rw [w] at sf
    have d0 : dN 0 = D.int 0 := rfl
    simp only [List.map_replicate] at l0 sf
    simp [m_inverse, l0, sf]
  rw [e, gc_app (by simp)]
end Law

set_option maxHeartbeats 1000000
namespace Law
open Rf
/-! ### what the perms reach -/
inductive Rch (ps : List (List Nat)) (s : Nat) : Nat → Prop
  | refl : Rch ps s s
  | step {x : Nat} {p : List Nat} : Rch ps s x → p ∈ ps → Rch ps s (p.getD x 0)
abbrev Ps (n : Nat) (ps : List (List Nat)) : Prop := ∀ p ∈ ps, IsP n p
theorem Rch.lt {n : Nat} {ps : List (List Nat)} (P : Ps n ps) {s x : Nat} (hs : s < n) (r : Rch ps s x) : x < n := by
  induction r with
  | refl => exact hs
  | step _ hp ih => exact (P _ hp).lt _ ih
theorem Rch.trans {ps : List (List Nat)} {s x y : Nat} (r : Rch ps s x) (q : Rch ps x y) : Rch ps s y := by
  induction q with
  | refl => exact r
  | step _ hp ih => exact .step ih hp
theorem Rch.mono {ps qs : List (List Nat)} {s x : Nat} (r : Rch ps s x) (h : ∀ p ∈ ps, p ∈ qs) : Rch qs s x := by
  induction r with
  | refl => exact .refl
  | step _ hp ih => exact .step ih (h _ hp)
open Classical in
theorem Rch.back {n : Nat} {p : List Nat} (P : IsP n p) {x : Nat} (hx : x < n) : Rch [p] (p.getD x 0) x := by
  apply Classical.byContradiction
  intro no
  have Pp : Ps n [p] := fun q hq => by rw [List.mem_singleton] at hq; subst hq; exact P
  have key : ∀ y, Rch [p] x y → Rch [p] (p.getD x 0) (p.getD y 0) := fun y r => by
    induction r with
    | refl => exact .refl
    | step _ hp ih => rw [List.mem_singleton] at hp; subst hp; exact .step ih (by simp)
  let S := (List.range n).filter fun y => decide (Rch [p] x y)
  have mS : ∀ y, y ∈ S ↔ y < n ∧ Rch [p] x y := fun y => by simp [S]
  let I := S.map fun y => p.getD y 0
  have ndS : S.Nodup := List.Pairwise.filter _ List.nodup_range
  have ndI : I.Nodup := by
    show (S.map fun y => p.getD y 0).Pairwise (· ≠ ·)
    rw [List.pairwise_map]
    exact ndS.imp_of_mem fun {a b} ha hb hab e => hab (P.inj a b ((mS a).mp ha).1 ((mS b).mp hb).1 e)
  have hxS : x ∈ S := (mS x).mpr ⟨hx, .refl⟩
  have sub : ∀ z ∈ I, z ∈ S.erase x := fun z hz => by
    obtain ⟨y, hy, rfl⟩ := List.mem_map.mp hz
    obtain ⟨yn, ry⟩ := (mS y).mp hy
    have r1 := key y ry
    have ne : p.getD y 0 ≠ x := fun e => no (by rw [e] at r1; exact r1)
    exact (List.mem_erase_of_ne ne).mpr ((mS _).mpr ⟨P.lt _ yn, .step ry (by simp)⟩)
  have l := sub_length ndI sub
  rw [List.length_erase_of_mem hxS, List.length_map] at l
  have := List.length_pos_of_mem hxS
  omega
theorem Rch.symm {n : Nat} {ps : List (List Nat)} (P : Ps n ps) {s x : Nat} (hs : s < n) (r : Rch ps s x) : Rch ps x s := by
  induction r with
  | refl => exact .refl
  | step r1 hp ih =>
    exact (Rch.mono (Rch.back (P _ hp) (r1.lt P hs)) fun q hq => by rw [List.mem_singleton] at hq; subst hq; exact hp).trans ih
/-! the orbit, in order -/
open Classical in
noncomputable def orb (ps : List (List Nat)) (n s : Nat) : List Nat := (List.range n).filter fun y => decide (Rch ps s y)
theorem mem_orb {ps : List (List Nat)} {n s y : Nat} : y ∈ orb ps n s ↔ y < n ∧ Rch ps s y := by simp [orb]
theorem orb_eq {ps : List (List Nat)} {n s : Nat} (P : Ps n ps) (hs : s < n) {t : Nat} (r : Rch ps s t) : orb ps n t = orb ps n s := by
  unfold orb
  apply List.filter_congr
  intro y hy
  rw [decide_eq_decide]
  exact ⟨fun q => r.trans q, fun q => (r.symm P hs).trans q⟩
/-- the first point of its orbit -/
def Hd (ps : List (List Nat)) (x : Nat) : Prop := ∀ z, z < x → ¬ Rch ps z x
open Classical in
noncomputable def heads (ps : List (List Nat)) (n k : Nat) : List Nat := (List.range k).filter fun x => decide (Hd ps x)
noncomputable def orbs (ps : List (List Nat)) (n k : Nat) : List (List Nat) := (heads ps n k).map (orb ps n)
open Classical in
theorem orbs_succ {ps : List (List Nat)} {n k : Nat} : orbs ps n (k + 1) = if Hd ps k then orbs ps n k ++ [orb ps n k] else orbs ps n k := by
  unfold orbs heads
  rw [List.range_succ, List.filter_append, List.map_append]
  by_cases h : Hd ps k
  · rw [if_pos h, List.filter_cons, if_pos (decide_eq_true h)]; rfl
  · rw [if_neg h, List.filter_cons, if_neg (by simpa using h)]; simp
theorem orbs_le {ps : List (List Nat)} {n k : Nat} : (orbs ps n k).length ≤ k := by
  unfold orbs heads
  rw [List.length_map]
  exact Nat.le_trans (List.length_filter_le _ _) (by simp)
open Classical in
/-- one orbit alone -/
theorem orbs_one {ps : List (List Nat)} {n : Nat} (P : Ps n ps) (hn : 1 ≤ n) : ((orbs ps n n).length = 1) ↔ (orb ps n 0).length = n := by
  obtain ⟨m, rfl⟩ : ∃ m, n = m + 1 := ⟨n - 1, by omega⟩
  have h0 : heads ps (m + 1) (m + 1) = 0 :: ((List.range m).map Nat.succ).filter fun x => decide (Hd ps x) := by
    unfold heads
    rw [List.range_succ_eq_map, List.filter_cons, if_pos (decide_eq_true (show Hd ps 0 from fun z hz => absurd hz (by omega)))]
  have e1 : (orbs ps (m + 1) (m + 1)).length = 1 ↔ ∀ x, 0 < x → x < m + 1 → ∃ z, z < x ∧ Rch ps z x := by
    unfold orbs
    rw [List.length_map, h0, List.length_cons]
    constructor
    · intro h x hx hxn
      have e : (((List.range m).map Nat.succ).filter fun x => decide (Hd ps x)) = [] := List.eq_nil_of_length_eq_zero (by omega)
      rw [List.filter_eq_nil_iff] at e
      have := e x (List.mem_map.mpr ⟨x - 1, by rw [List.mem_range]; omega, by omega⟩)
      rw [decide_eq_true_eq] at this
      apply Classical.byContradiction
      exact fun no => this fun z hz r => no ⟨z, hz, r⟩
    · intro h
      have e : (((List.range m).map Nat.succ).filter fun x => decide (Hd ps x)) = [] := by
        rw [List.filter_eq_nil_iff]
        intro x mx
        rw [decide_eq_true_eq]
        obtain ⟨y, hy, rfl⟩ := List.mem_map.mp mx
        rw [List.mem_range] at hy
        obtain ⟨z, hz, r⟩ := h (y + 1) (by omega) (by omega)
        exact fun q => q z hz r
      rw [e]; rfl
  have e2 : (orb ps (m + 1) 0).length = m + 1 ↔ ∀ x, x < m + 1 → Rch ps 0 x := by
    unfold orb
    constructor
    · intro h x hx
      have e := List.length_filter_eq_length_iff.mp (show _ = (List.range (m + 1)).length by rw [List.length_range]; exact h)
      simpa using e x (by simpa using hx)
    · intro h
      rw [List.filter_eq_self.mpr (fun x hx => by simpa using h x (by simpa using hx)), List.length_range]
  rw [e1, e2]
  constructor
  · intro h x
    induction x using Nat.strongRecOn with
    | _ x ih =>
      intro hx
      by_cases h0 : x = 0
      · subst h0; exact .refl
      · obtain ⟨z, hz, r⟩ := h x (by omega) hx
        exact (ih z hz (by omega)).trans r
  · intro h x h0 hx
    exact ⟨0, h0, h x hx⟩
/-! a line that holds all that is reached -/
theorem line_orb {ps : List (List Nat)} {n s : Nat} {L : List Nat} (hs : s ∈ L) (hn : ∀ x ∈ L, x < n) (cl : ∀ x ∈ L, ∀ p ∈ ps, p.getD x 0 ∈ L) (rc : ∀ x ∈ L, Rch ps s x) (nd : L.Nodup) : L.Perm (orb ps n s) := by
  refine (List.perm_ext_iff_of_nodup nd (by unfold orb; exact List.Pairwise.filter _ List.nodup_range)).mpr fun x => ?_
  rw [mem_orb]
  refine ⟨fun hx => ⟨hn x hx, rc x hx⟩, fun q => ?_⟩
  have r := q.2
  clear q
  induction r with
  | refl => exact hs
  | step _ hp ih => exact cl _ ih _ hp
end Law

set_option maxHeartbeats 1000000
namespace Law
open Rf
/-! ### labels made by merging each point with its images -/
structure Tg (ps : List (List Nat)) (n : Nat) (R : List Nat) : Prop where
  len : R.length = n
  can : Canon R
  snd : ∀ i j, i < n → j < n → R.getD i 0 = R.getD j 0 → Rch ps i j
theorem Tg.start (ps : List (List Nat)) (n : Nat) : Tg ps n (List.range n) := ⟨by simp, range_canon n, fun i j hi hj h => by
  rw [range_D hi, range_D hj] at h; rw [h]; exact .refl⟩
theorem Tg.step {ps : List (List Nat)} {n : Nat} {R p : List Nat} (P : Ps n ps) (T : Tg ps n R) (hp : p ∈ ps) {k : Nat} (hk : k < n) : Tg ps n (mrg R k (p.getD k 0)) := by
  have hq := (P p hp).lt k hk
  have l := T.len
  refine ⟨by rw [mrg_len, l], mrg_canon T.can (by omega) (by omega), fun i j hi hj h => ?_⟩
  have st : Rch ps k (p.getD k 0) := .step .refl hp
  rcases mrg_eq (by omega) (by omega) h with e | ⟨e1, e2⟩ | ⟨e1, e2⟩
  · exact T.snd i j hi hj e
  · exact ((T.snd i k hi hk e1).trans st).trans (T.snd _ j hq hj e2.symm)
  · exact ((T.snd i _ hi hq e1).trans (st.symm P hk)).trans (T.snd k j hk hj e2.symm)
/-- all pairs done -/
structure TgE (ps : List (List Nat)) (n : Nat) (R : List Nat) : Prop extends Tg ps n R where
  all : ∀ p ∈ ps, ∀ k, k < n → R.getD k 0 = R.getD (p.getD k 0) 0
theorem TgE.iff {ps : List (List Nat)} {n : Nat} {R : List Nat} (P : Ps n ps) (T : TgE ps n R) {i j : Nat} (hi : i < n) (hj : j < n) : R.getD i 0 = R.getD j 0 ↔ Rch ps i j := by
  refine ⟨T.snd i j hi hj, fun r => ?_⟩
  clear hj
  induction r with
  | refl => rfl
  | step r1 hp ih => rw [ih]; exact T.all _ hp _ (r1.lt P hi)
theorem TgE.head {ps : List (List Nat)} {n : Nat} {R : List Nat} (P : Ps n ps) (T : TgE ps n R) {x : Nat} (hx : x < n) : R.getD x 0 = x ↔ Hd ps x := by
  have cx := T.can x (by rw [T.len]; exact hx)
  constructor
  · intro e z hz r
    have := (T.iff P (i := z) (j := x) (by omega) hx).mpr r
    have cz := T.can z (by rw [T.len]; omega)
    omega
  · intro h
    apply Classical.byContradiction
    intro ne
    have lt : R.getD x 0 < x := by omega
    exact h _ lt ((T.iff P (i := R.getD x 0) (j := x) (by omega) hx).mp cx.2)
open Classical in
theorem TgE.orb {ps : List (List Nat)} {n : Nat} {R : List Nat} (P : Ps n ps) (T : TgE ps n R) {x : Nat} (hx : x < n) (e : R.getD x 0 = x) : ((List.range n).filter fun k => R.getD k 0 == x) = orb ps n x := by
  unfold Law.orb
  apply List.filter_congr
  intro k hk
  rw [List.mem_range] at hk
  have := T.iff P hx hk
  rw [e] at this
  by_cases q : Rch ps x k
  · rw [decide_eq_true q, beq_iff_eq]; exact (this.mpr q).symm
  · rw [decide_eq_false q, beq_eq_false_iff_ne]; exact fun h => q (this.mp h.symm)
def clsTo (R : List Nat) (n i : Nat) : List (List Nat) := ((List.range i).filter fun x => R.getD x 0 == x).map fun x => (List.range n).filter fun k => R.getD k 0 == x
theorem clsTo_succ {R : List Nat} {n i : Nat} : clsTo R n (i + 1) = if R.getD i 0 = i then clsTo R n i ++ [(List.range n).filter fun k => R.getD k 0 == i] else clsTo R n i := by
  unfold clsTo
  rw [List.range_succ, List.filter_append, List.map_append]
  by_cases h : R.getD i 0 = i
  · rw [if_pos h, List.filter_cons, if_pos (by rw [h]; simp)]; rfl
  · rw [if_neg h, List.filter_cons, if_neg (by simpa using h)]; simp
theorem clsTo_le {R : List Nat} {n i : Nat} : (clsTo R n i).length ≤ i := by
  unfold clsTo
  rw [List.length_map]
  exact Nat.le_trans (List.length_filter_le _ _) (by simp)
theorem TgE.orbs {ps : List (List Nat)} {n : Nat} {R : List Nat} (P : Ps n ps) (T : TgE ps n R) : ∀ i, i ≤ n → clsTo R n i = orbs ps n i
  | 0, _ => by unfold clsTo Law.orbs heads; rfl
  | i + 1, hi => by
    rw [clsTo_succ, orbs_succ, T.orbs P i (by omega)]
    by_cases h : R.getD i 0 = i
    · rw [if_pos h, if_pos ((T.head P (by omega)).mp h), T.orb P (by omega) h]
    · rw [if_neg h, if_neg fun q => h ((T.head P (by omega)).mpr q)]
end Law

set_option maxHeartbeats 1000000
namespace Law
open Rf
/-! ### words, their order -/
def lx : List Nat → List Nat → Prop
  | x :: xs, y :: ys => x < y ∨ (x = y ∧ lx xs ys)
  | _, _ => False
theorem lx_irr : ∀ a : List Nat, ¬ lx a a
  | [], h => h.elim
  | x :: xs, h => by
    rcases h with h | ⟨_, h⟩
    · omega
    · exact lx_irr xs h
theorem lx_trans : ∀ {a b c : List Nat}, lx a b → lx b c → lx a c
  | x :: xs, y :: ys, z :: zs, h1, h2 => by
    rcases h1 with h1 | ⟨rfl, h1⟩
    · rcases h2 with h2 | ⟨rfl, h2⟩
      · exact .inl (by omega)
      · exact .inl h1
    · rcases h2 with h2 | ⟨rfl, h2⟩
      · exact .inl h2
      · exact .inr ⟨rfl, lx_trans h1 h2⟩
  | [], _, _, h, _ => h.elim
  | _ :: _, [], _, h, _ => h.elim
  | _ :: _, _ :: _, [], _, h => h.elim
theorem lx_tot : ∀ {a b : List Nat}, a.length = b.length → a = b ∨ lx a b ∨ lx b a
  | [], [], _ => .inl rfl
  | x :: xs, y :: ys, h => by
    rcases Nat.lt_trichotomy x y with l | rfl | l
    · exact .inr (.inl (.inl l))
    · rcases lx_tot (a := xs) (b := ys) (by simpa using h) with rfl | l | l
      · exact .inl rfl
      · exact .inr (.inl (.inr ⟨rfl, l⟩))
      · exact .inr (.inr (.inr ⟨rfl, l⟩))
    · exact .inr (.inr (.inl l))
  | [], _ :: _, h => by cases h
  | _ :: _, [], h => by cases h
theorem lx_snoc : ∀ {a b : List Nat} {k j : Nat}, a.length = b.length → (lx (a ++ [k]) (b ++ [j]) ↔ lx a b ∨ (a = b ∧ k < j))
  | [], [], k, j, _ => by simp [lx]
  | x :: xs, y :: ys, k, j, h => by
    have ih := lx_snoc (a := xs) (b := ys) (k := k) (j := j) (by simpa using h)
    simp only [List.cons_append, lx, ih, List.cons.injEq]
    constructor
    · rintro (q | ⟨rfl, q | ⟨rfl, q⟩⟩)
      · exact .inl (.inl q)
      · exact .inl (.inr ⟨rfl, q⟩)
      · exact .inr ⟨⟨rfl, rfl⟩, q⟩
    · rintro ((q | ⟨rfl, q⟩) | ⟨⟨rfl, rfl⟩, q⟩)
      · exact .inl q
      · exact .inr ⟨rfl, .inl q⟩
      · exact .inr ⟨rfl, .inr ⟨rfl, q⟩⟩
  | [], _ :: _, _, _, h => by cases h
  | _ :: _, [], _, _, h => by cases h
theorem lx_least {Q : List Nat → Prop} : ∀ (l : Nat), (∃ c, c.length = l ∧ Q c) → ∃ c, (c.length = l ∧ Q c) ∧ ∀ c', c'.length = l → Q c' → c = c' ∨ lx c c'
  | 0, ⟨c, hc, q⟩ => ⟨c, ⟨hc, q⟩, fun c' h' _ => .inl (by rw [List.eq_nil_of_length_eq_zero hc, List.eq_nil_of_length_eq_zero h'])⟩
  | l + 1, ⟨c, hc, q⟩ => by
    have ex : ∃ k, ∃ t : List Nat, t.length = l ∧ Q (k :: t) := by
      cases c with
      | nil => cases hc
      | cons k t => exact ⟨k, t, by simpa using hc, q⟩
    obtain ⟨k, pk, mk⟩ := min_ex ex
    obtain ⟨t, ⟨lt, qt⟩, mt⟩ := lx_least (Q := fun t => Q (k :: t)) l pk
    refine ⟨k :: t, ⟨by simp [lt], qt⟩, fun c' h' q' => ?_⟩
    cases c' with
    | nil => cases h'
    | cons k' t' =>
      have l' : t'.length = l := by simpa using h'
      have := mk k' ⟨t', l', q'⟩
      by_cases e : k = k'
      · subst e
        rcases mt t' l' q' with rfl | z
        · exact .inl rfl
        · exact .inr (.inr ⟨rfl, z⟩)
      · exact .inr (.inl (by omega))
/-- by length, then as written -/
def wlt (a b : List Nat) : Prop := a.length < b.length ∨ (a.length = b.length ∧ lx a b)
def wle (a b : List Nat) : Prop := a = b ∨ wlt a b
theorem wlt_irr {a : List Nat} : ¬ wlt a a := fun h => by
  rcases h with h | ⟨_, h⟩
  · omega
  · exact lx_irr a h
theorem wlt_trans {a b c : List Nat} (h1 : wlt a b) (h2 : wlt b c) : wlt a c := by
  rcases h1 with h1 | ⟨e1, h1⟩
  · rcases h2 with h2 | ⟨e2, h2⟩
    · exact .inl (by omega)
    · exact .inl (by omega)
  · rcases h2 with h2 | ⟨e2, h2⟩
    · exact .inl (by omega)
    · exact .inr ⟨by omega, lx_trans h1 h2⟩
theorem wle_lt {a b c : List Nat} (h1 : wle a b) (h2 : wlt b c) : wlt a c := by
  rcases h1 with rfl | h1
  · exact h2
  · exact wlt_trans h1 h2
theorem wlt_le {a b c : List Nat} (h1 : wlt a b) (h2 : wle b c) : wlt a c := by
  rcases h2 with rfl | h2
  · exact h1
  · exact wlt_trans h1 h2
theorem wle_trans {a b c : List Nat} (h1 : wle a b) (h2 : wle b c) : wle a c := by
  rcases h2 with rfl | h2
  · exact h1
  · exact .inr (wle_lt h1 h2)
theorem wle_anti {a b : List Nat} (h1 : wle a b) (h2 : wle b a) : a = b := by
  rcases h1 with h1 | h1
  · exact h1
  · exact absurd (wlt_le h1 h2) wlt_irr
theorem wle_len {a b : List Nat} (h : wle a b) : a.length ≤ b.length := by
  rcases h with rfl | h | ⟨h, _⟩ <;> omega
theorem wlt_snoc {a b : List Nat} {k j : Nat} (h : wlt a b ∨ (a = b ∧ k < j)) : wlt (a ++ [k]) (b ++ [j]) := by
  rcases h with (h | ⟨e, h⟩) | ⟨rfl, h⟩
  · exact .inl (by simpa using h)
  · exact .inr ⟨by simpa using e, (lx_snoc e).mpr (.inl h)⟩
  · exact .inr ⟨by simp, (lx_snoc rfl).mpr (.inr ⟨rfl, h⟩)⟩
theorem wle_snoc {a b : List Nat} {k : Nat} (h : wle a b) : wle (a ++ [k]) (b ++ [k]) := by
  rcases h with rfl | h
  · exact .inl rfl
  · exact .inr (wlt_snoc (.inl h))
theorem wlt_app {a : List Nat} {k : Nat} : wlt a (a ++ [k]) := .inl (by simp)
/-! ### walks -/
def mv (ms : List (List Nat)) (k x : Nat) : Nat := (ms.getD k []).getD x 0
def walk (ms : List (List Nat)) (s : Nat) (c : List Nat) : Nat := c.foldl (fun x k => mv ms k x) s
def Wd (ms : List (List Nat)) (c : List Nat) : Prop := ∀ k ∈ c, k < ms.length
theorem walk_snoc {ms : List (List Nat)} {s k : Nat} {c : List Nat} : walk ms s (c ++ [k]) = mv ms k (walk ms s c) := by unfold walk; rw [List.foldl_append]; rfl
theorem Wd.snoc {ms : List (List Nat)} {c : List Nat} {k : Nat} : Wd ms (c ++ [k]) ↔ Wd ms c ∧ k < ms.length := by
  unfold Wd
  constructor
  · exact fun h => ⟨fun x hx => h x (List.mem_append_left _ hx), h k (by simp)⟩
  · rintro ⟨h1, h2⟩ x hx
    rcases List.mem_append.mp hx with hx | hx
    · exact h1 x hx
    · rw [List.mem_singleton] at hx; subst hx; exact h2
/-- the first word to y -/
structure Fst (ms : List (List Nat)) (s y : Nat) (c : List Nat) : Prop where
  wd : Wd ms c
  to : walk ms s c = y
  le : ∀ c', Wd ms c' → walk ms s c' = y → wle c c'
section
variable {ms : List (List Nat)} {s y n : Nat} {c : List Nat}
theorem Fst.uniq {c' : List Nat} (F : Fst ms s y c) (G : Fst ms s y c') : c = c' := wle_anti (F.le c' G.wd G.to) (G.le c F.wd F.to)
theorem Fst.nil : Fst ms s s [] := ⟨fun k hk => absurd hk (by simp), rfl, fun c' _ _ => by
  cases c' with
  | nil => exact .inl rfl
  | cons k t => exact .inr (.inl (by simp))⟩
theorem Fst.init {k : Nat} (F : Fst ms s y (c ++ [k])) : Fst ms s (walk ms s c) c := by
  have w := Wd.snoc.mp F.wd
  refine ⟨w.1, rfl, fun c' w' e => ?_⟩
  have h := F.le (c' ++ [k]) (Wd.snoc.mpr ⟨w', w.2⟩) (by rw [walk_snoc, e, ← walk_snoc]; exact F.to)
  by_cases q : wle c c'
  · exact q
  · exfalso
    have tot : wlt c' c := by
      by_cases l : c.length = c'.length
      · rcases lx_tot l with rfl | z | z
        · exact absurd (.inl rfl) q
        · exact absurd (.inr (.inr ⟨l, z⟩)) q
        · exact .inr ⟨l.symm, z⟩
      · rcases Nat.lt_or_ge c.length c'.length with z | z
        · exact absurd (.inr (.inl z)) q
        · exact .inl (by omega)
    exact absurd (wlt_le (wlt_snoc (.inl tot)) h) wlt_irr
theorem Fst.ex (w : Wd ms c) : ∃ c0, Fst ms s (walk ms s c) c0 := by
  obtain ⟨l, ⟨c1, ⟨l1, w1, e1⟩⟩, ml⟩ := min_ex (P := fun l => ∃ c', c'.length = l ∧ Wd ms c' ∧ walk ms s c' = walk ms s c) ⟨c.length, c, rfl, w, rfl⟩
  obtain ⟨c0, ⟨l0, w0, e0⟩, m0⟩ := lx_least (Q := fun c' => Wd ms c' ∧ walk ms s c' = walk ms s c) l ⟨c1, l1, w1, e1⟩
  refine ⟨c0, w0, e0, fun c' w' e' => ?_⟩
  have := ml c'.length ⟨c', rfl, w', e'⟩
  by_cases q : c'.length = l
  · rcases m0 c' q ⟨w', e'⟩ with rfl | z
    · exact .inl rfl
    · exact .inr (.inr ⟨by omega, z⟩)
  · exact .inr (.inl (by omega))
theorem Fst.take (F : Fst ms s y c) : ∀ i, i ≤ c.length → Fst ms s (walk ms s (c.take i)) (c.take i) := by
  have key : ∀ d (c : List Nat) y, Fst ms s y c → d ≤ c.length → Fst ms s (walk ms s (c.take (c.length - d))) (c.take (c.length - d)) := by
    intro d
    induction d with
    | zero => intro c y F _; rw [Nat.sub_zero, List.take_length, F.to]; exact F
    | succ d ih =>
      intro c y F hd
      rcases List.eq_nil_or_concat c with rfl | ⟨a, k, rfl⟩
      · simp at hd
      · rw [List.concat_eq_append] at F hd ⊢
        have := ih a _ F.init (by simp at hd; omega)
        rw [show (a ++ [k]).length - (d + 1) = a.length - d by simp, List.take_append_of_le_length (by omega)]
        exact this
  intro i hi
  have := key (c.length - i) c y F (by omega)
  rwa [show c.length - (c.length - i) = i by omega] at this
theorem Fst.len (F : Fst ms s y c) (hn : ∀ c', Wd ms c' → walk ms s c' < n) : c.length < n := by
  have nd : ((List.range (c.length + 1)).map fun i => walk ms s (c.take i)).Nodup := by
    show List.Pairwise _ _
    rw [List.pairwise_map]
    refine List.nodup_range.imp_of_mem fun {a b} ha hb ne e => ?_
    rw [List.mem_range] at ha hb
    have f1 := F.take a (by omega)
    have f2 := F.take b (by omega)
    rw [e] at f1
    have := congrArg List.length (f1.uniq f2)
    rw [List.length_take, List.length_take] at this
    omega
  have := sub_length nd (l2 := List.range n) fun x hx => by
    obtain ⟨i, hi, rfl⟩ := List.mem_map.mp hx
    rw [List.mem_range] at hi ⊢
    exact hn _ (F.take i (by omega)).wd
  simp at this
  omega
end
/-! ### a line worked off -/
def Und (at_ j i k : Nat) : Prop := at_ < i ∨ (i = at_ ∧ j ≤ k)
structure BS (ms : List (List Nat)) (s : Nat) (L : List Nat) (W : List (List Nat)) (at_ j : Nat) : Prop where
  len : W.length = L.length
  pos : 0 < L.length
  s0 : L.getD 0 0 = s
  w0 : W.getD 0 [] = []
  wd : ∀ i, i < L.length → Wd ms (W.getD i []) ∧ walk ms s (W.getD i []) = L.getD i 0
  nd : L.Nodup
  up : ∀ i i', i < i' → i' < L.length → wlt (W.getD i []) (W.getD i' [])
  don : ∀ i k, i < L.length → k < ms.length → ¬ Und at_ j i k → ∃ i', i' < L.length ∧ L.getD i' 0 = mv ms k (L.getD i 0) ∧ wle (W.getD i' []) (W.getD i [] ++ [k])
  low : ∀ i' i k, i' < L.length → i < L.length → k < ms.length → Und at_ j i k → wlt (W.getD i' []) (W.getD i [] ++ [k])
section
variable {ms : List (List Nat)} {s at_ j : Nat} {L : List Nat} {W : List (List Nat)}
theorem getDW_app {v : List Nat} {i : Nat} : (W ++ [v]).getD i [] = if i = W.length then v else W.getD i [] := by
  simp only [List.getD_eq_getElem?_getD]
  by_cases h : i < W.length
  · rw [List.getElem?_append_left h, if_neg (by omega)]
  · by_cases h2 : i = W.length
    · subst h2; simp
    · rw [if_neg h2, List.getElem?_append_right (by omega), List.getElem?_eq_none (by simp; omega), List.getElem?_eq_none (by omega)]
theorem BS.start : BS ms s [s] [[]] 0 0 := by
  refine ⟨rfl, by simp, rfl, rfl, fun i hi => ?_, by simp, fun i i' h1 h2 => ?_, fun i k hi hk u => ?_, fun i' i k h1 h2 hk u => ?_⟩
  · obtain rfl : i = 0 := by simpa using hi
    exact ⟨fun k hk => absurd hk (by simp), rfl⟩
  · simp at h2; omega
  · exact absurd (show Und 0 0 i k by unfold Und; omega) u
  · obtain rfl : i' = 0 := by simpa using h1
    obtain rfl : i = 0 := by simpa using h2
    exact .inl (by simp)
theorem BS.skip (B : BS ms s L W at_ j) (ha : at_ < L.length) (hj : j < ms.length) (h : mv ms j (L.getD at_ 0) ∈ L) : BS ms s L W at_ (j + 1) := by
  refine ⟨B.len, B.pos, B.s0, B.w0, B.wd, B.nd, B.up, fun i k hi hk u => ?_, fun i' i k h1 h2 hk u => B.low i' i k h1 h2 hk (by unfold Und at *; omega)⟩
  by_cases e : i = at_ ∧ k = j
  · obtain ⟨rfl, rfl⟩ := e
    obtain ⟨i', hi', e'⟩ := mem_getD (d := 0) h
    exact ⟨i', hi', e', .inr (B.low i' i k hi' hi hk (.inr ⟨rfl, Nat.le_refl _⟩))⟩
  · exact B.don i k hi hk (by unfold Und at *; omega)
theorem BS.put (B : BS ms s L W at_ j) (ha : at_ < L.length) (hj : j < ms.length) (h : mv ms j (L.getD at_ 0) ∉ L) : BS ms s (L ++ [mv ms j (L.getD at_ 0)]) (W ++ [W.getD at_ [] ++ [j]]) at_ (j + 1) := by
  have lw := B.len
  have gL : ∀ i, i < L.length → (L ++ [mv ms j (L.getD at_ 0)]).getD i 0 = L.getD i 0 := fun i hi => by rw [getD_app, if_neg (by omega)]
  have gW : ∀ i, i < L.length → (W ++ [W.getD at_ [] ++ [j]]).getD i [] = W.getD i [] := fun i hi => by rw [getDW_app, if_neg (by omega)]
  have nL : (L ++ [mv ms j (L.getD at_ 0)]).getD L.length 0 = mv ms j (L.getD at_ 0) := by rw [getD_app, if_pos rfl]
  have nW : (W ++ [W.getD at_ [] ++ [j]]).getD L.length [] = W.getD at_ [] ++ [j] := by rw [getDW_app, if_pos lw.symm]
  have ll : (L ++ [mv ms j (L.getD at_ 0)]).length = L.length + 1 := by simp
  have uj : Und at_ j at_ j := .inr ⟨rfl, Nat.le_refl _⟩
  refine ⟨by simp [lw], by simp, by rw [gL 0 B.pos]; exact B.s0, by rw [gW 0 B.pos]; exact B.w0, fun i hi => ?_, ?_, fun i i' h1 h2 => ?_, fun i k hi hk u => ?_, fun i' i k h1 h2 hk u => ?_⟩
  · rw [ll] at hi
    by_cases e : i = L.length
    · subst e
      rw [nL, nW]
      have := B.wd at_ ha
      exact ⟨Wd.snoc.mpr ⟨this.1, hj⟩, by rw [walk_snoc, this.2]⟩
    · rw [gL i (by omega), gW i (by omega)]; exact B.wd i (by omega)
  · exact List.nodup_append.mpr ⟨B.nd, by simp, fun a ha b hb => by rw [List.mem_singleton] at hb; subst hb; exact fun e => h (e ▸ ha)⟩
  · rw [ll] at h2
    rw [gW i (by omega)]
    by_cases e : i' = L.length
    · subst e
      rw [nW]
      exact B.low i at_ j (by omega) ha hj uj
    · rw [gW i' (by omega)]
      exact B.up i i' h1 (by omega)
  · rw [ll] at hi ⊢
    by_cases e : i = L.length
    · exact absurd (.inl (by omega)) u
    rw [gL i (by omega), gW i (by omega)]
    by_cases e2 : i = at_ ∧ k = j
    · obtain ⟨rfl, rfl⟩ := e2
      exact ⟨L.length, by omega, nL, by rw [nW]; exact .inl rfl⟩
    · obtain ⟨i', hi', e', w'⟩ := B.don i k (by omega) hk (by unfold Und at *; omega)
      exact ⟨i', by omega, by rw [gL i' hi']; exact e', by rw [gW i' hi']; exact w'⟩
  · rw [ll] at h1 h2
    by_cases e : i = L.length
    · subst e
      rw [nW]
      by_cases e' : i' = L.length
      · subst e'; rw [nW]; exact wlt_app
      · rw [gW i' (by omega)]
        exact wlt_trans (B.low i' at_ j (by omega) ha hj uj) wlt_app
    · rw [gW i (by omega)]
      have un : Und at_ j i k := by unfold Und at *; omega
      by_cases e' : i' = L.length
      · subst e'
        rw [nW]
        refine wlt_snoc ?_
        rcases u with u | ⟨rfl, u⟩
        · exact .inl (B.up at_ i u (by omega))
        · exact .inr ⟨rfl, by omega⟩
      · rw [gW i' (by omega)]
        exact B.low i' i k (by omega) (by omega) hk un
theorem BS.next (B : BS ms s L W at_ ms.length) : BS ms s L W (at_ + 1) 0 :=
  ⟨B.len, B.pos, B.s0, B.w0, B.wd, B.nd, B.up, fun i k hi hk u => B.don i k hi hk (by unfold Und at *; omega), fun i' i k h1 h2 hk u => B.low i' i k h1 h2 hk (by unfold Und at *; omega)⟩
theorem BS.word (B : BS ms s L W at_ j) : ∀ (r : List Nat), Wd ms r.reverse →
    (∃ i, i < L.length ∧ L.getD i 0 = walk ms s r.reverse ∧ wle (W.getD i []) r.reverse) ∨ ∃ i k, i < L.length ∧ k < ms.length ∧ Und at_ j i k ∧ wle (W.getD i [] ++ [k]) r.reverse
  | [], _ => .inl ⟨0, B.pos, B.s0, .inl B.w0⟩
  | k :: r, w => by
    rw [List.reverse_cons] at w ⊢
    obtain ⟨w1, hk⟩ := Wd.snoc.mp w
    rcases B.word r w1 with ⟨i, hi, e, l⟩ | ⟨i, k', hi, hk', u, l⟩
    · by_cases u : Und at_ j i k
      · exact .inr ⟨i, k, hi, hk, u, wle_snoc l⟩
      · obtain ⟨i', hi', e', w'⟩ := B.don i k hi hk u
        exact .inl ⟨i', hi', by rw [walk_snoc, ← e, e'], wle_trans w' (wle_snoc l)⟩
    · exact .inr ⟨i, k', hi, hk', u, wle_trans l (.inr wlt_app)⟩
theorem BS.fst (B : BS ms s L W at_ j) {i : Nat} (hi : i < L.length) : Fst ms s (L.getD i 0) (W.getD i []) :=
  ⟨(B.wd i hi).1, (B.wd i hi).2, fun c' w' e => by
    have := B.word c'.reverse (by rwa [List.reverse_reverse])
    rw [List.reverse_reverse] at this
    rcases this with ⟨i', hi', e', l⟩ | ⟨i', k, hi', hk, u, l⟩
    · rw [e] at e'
      rw [nodup_getD B.nd hi' hi e'] at l
      exact l
    · exact .inr (wlt_le (B.low i i' k hi hi' hk u) l)⟩
theorem BS.all (B : BS ms s L W L.length 0) {c : List Nat} (w : Wd ms c) : walk ms s c ∈ L := by
  have := B.word c.reverse (by rwa [List.reverse_reverse])
  rw [List.reverse_reverse] at this
  rcases this with ⟨i', hi', e', l⟩ | ⟨i', k, hi', hk, u, l⟩
  · rw [← e']; exact getD_mem hi'
  · unfold Und at u; omega
end
end Law

set_option maxHeartbeats 1000000
namespace Law
open PySem Rf L2
def dC (c : List Nat) : D := .tup (c.map dN)
/-! ### the points known -/
def kn (n : Nat) (L : List Nat) : List D := (List.range n).map fun x => D.bl (decide (x ∈ L))
theorem kn_nil (n : Nat) : List.replicate n (D.bl false) = kn n [] := by
  unfold kn
  simp [List.map_const']
theorem kn_len {n : Nat} {L : List Nat} : (kn n L).length = n := by simp [kn]
theorem kn_at {n x : Nat} {L : List Nat} (hx : x < n) (h : AH) : ixD (kn n L) (x : Int) h = .ok (.bl (decide (x ∈ L))) h := by
  unfold kn
  exact ixD_map (f := fun x => D.bl (decide (x ∈ L))) (List.getElem?_range hx)
theorem kn_set {n x : Nat} {L : List Nat} (hx : x < n) : (kn n L).set x (.bl true) = kn n (L ++ [x]) := by
  apply List.ext_getElem?
  intro j
  by_cases hj : j < n
  · unfold kn
    by_cases e : x = j
    · subst e
      rw [List.getElem?_set_self (by simpa using hx), List.getElem?_map, List.getElem?_range hx]
      simp
    · rw [List.getElem?_set_ne e, List.getElem?_map, List.getElem?_map, List.getElem?_range hj]
      have : ¬ j = x := fun h => e h.symm
      simp [this]
  · rw [List.getElem?_eq_none (by rw [List.length_set, kn_len]; omega), List.getElem?_eq_none (by rw [kn_len]; omega)]
theorem kn_put {n x : Nat} {L : List Nat} {r : Nat} {h : AH} (hx : x < n) : putO (some (.lst (kn n L))) r (x : Int) (.bl true) h = some (h.set r (.lst (kn n (L ++ [x])))) := by
  rw [putO_nat (by rw [kn_len]; exact hx), kn_set hx]
/-! ### spread -/
def SK (h : AH) (n : Nat) (L : List Nat) : AH := h ++ [.lst [.bl false], .lst (kn n L), .lst (L.map dN)]
section
variable {h : AH} {n : Nat} {L : List Nat}
theorem SK_1 : (SK h n L)[h.length + 1]? = some (.lst (kn n L)) := by unfold SK; rw [app_get]; rfl
theorem SK_2 : (SK h n L)[h.length + 2]? = some (.lst (L.map dN)) := by unfold SK; rw [app_get]; rfl
theorem SK_app (x : Nat) : ((SK h n L).set (h.length + 1) (.lst (kn n (L ++ [x])))).set (h.length + 2) (.lst (L.map dN ++ [dN x])) = SK h n (L ++ [x]) := by
  unfold SK
  rw [app_set rfl, app_set rfl]
  simp
theorem SK_1' {o : AO} : ((SK h n L).set (h.length + 1) o)[h.length + 2]? = some (.lst (L.map dN)) := by
  unfold SK; rw [app_set rfl, app_get]; rfl
end
structure SL (ps : List (List Nat)) (n s : Nat) (L : List Nat) (at_ : Nat) : Prop where
  sm : s ∈ L
  lt : ∀ x ∈ L, x < n
  nd : L.Nodup
  rc : ∀ x ∈ L, Rch ps s x
  le : at_ ≤ L.length
  cl : ∀ i, i < at_ → ∀ p ∈ ps, p.getD (L.getD i 0) 0 ∈ L
theorem SL.push {ps : List (List Nat)} {n s at_ y : Nat} {L : List Nat} (S : SL ps n s L at_) (hy : y < n) (ny : y ∉ L) (r : Rch ps s y) : SL ps n s (L ++ [y]) at_ :=
  ⟨List.mem_append_left _ S.sm, fun x hx => by
    rcases List.mem_append.mp hx with hx | hx
    · exact S.lt x hx
    · rw [List.mem_singleton] at hx; subst hx; exact hy,
   List.nodup_append.mpr ⟨S.nd, by simp, fun a ha b hb => by rw [List.mem_singleton] at hb; subst hb; exact fun e => ny (e ▸ ha)⟩, fun x hx => by
    rcases List.mem_append.mp hx with hx | hx
    · exact S.rc x hx
    · rw [List.mem_singleton] at hx; subst hx; exact r,
   by have := S.le; simp; omega, fun i hi p hp => by
    have := S.le
    rw [getD_app, if_neg (by omega)]
    exact List.mem_append_left _ (S.cl i hi p hp)⟩
theorem SL.len {ps : List (List Nat)} {n s at_ : Nat} {L : List Nat} (S : SL ps n s L at_) : L.length ≤ n := by
  have := sub_length S.nd (l2 := List.range n) fun x hx => by rw [List.mem_range]; exact S.lt x hx
  simpa using this
theorem spread_spec {ps : List (List Nat)} {n s : Nat} (P : Ps n ps) (hs : s < n) (hn : n ≤ 1000) {h : AH} :
    ∃ L : List Nat, c_spread [.tup (ps.map dC), dN n, dN s] h = .ok (.ref h.length) (h ++ [.lst (L.map dN)]) ∧ L.Perm (orb ps n s) := by
  obtain ⟨e', h', w, L, x6, x7, rfl, rfl, S⟩ := while_ix (c := wc_spread_1) (b := lb_spread_1)
    (fun m e h' => ∃ L at_ x6 x7, e = [some (.tup (ps.map dC)), some (dN n), some (dN s), some (.ref (h.length + 1)), some (.ref (h.length + 2)), some (dN at_), x6, x7] ∧ h' = SK h n L ∧ SL ps n s L at_ ∧ m = n - at_)
    (fun e h' => ∃ L x6 x7, e = [some (.tup (ps.map dC)), some (dN n), some (dN s), some (.ref (h.length + 1)), some (.ref (h.length + 2)), some (dN L.length), x6, x7] ∧ h' = SK h n L ∧ SL ps n s L L.length)
    (by
      rintro m e h' ⟨L, at_, x6, x7, rfl, rfl, S, rfl⟩
      have hL := S.len
      have hle := S.le
      by_cases c : at_ < L.length
      · refine .inr ⟨SK h n L, ?_, ?_⟩
        · simp [wc_spread_1, SK_2, c]
        · obtain ⟨e', h', w, L', x6, x7, rfl, rfl, S', hc, hi⟩ := loopM (φ := dC) (k := 6) (b := lb_spread_2)
            (fun i e h' => ∃ L' x6 x7, e = [some (.tup (ps.map dC)), some (dN n), some (dN s), some (.ref (h.length + 1)), some (.ref (h.length + 2)), some (dN at_), x6, x7] ∧ h' = SK h n L' ∧ SL ps n s L' at_ ∧ at_ < L'.length ∧ ∀ p ∈ ps.take i, p.getD (L'.getD at_ 0) 0 ∈ L')
            ps (e := [some (.tup (ps.map dC)), some (dN n), some (dN s), some (.ref (h.length + 1)), some (.ref (h.length + 2)), some (dN at_), x6, x7]) (h := SK h n L)
            ⟨L, x6, x7, rfl, rfl, S, c, fun p hp => absurd hp (by simp)⟩ (by
              rintro i p e h' hp ⟨L', x6, x7, rfl, rfl, S', c', hi⟩
              have hpm : p ∈ ps := List.mem_of_getElem? hp
              have Pp := P p hpm
              have hat : L'.getD at_ 0 ∈ L' := getD_mem c'
              have tk : ps.take (i + 1) = ps.take i ++ [p] := by rw [List.take_add_one, hp]; rfl
              have lt1 := S'.lt _ hat
              have r1 := S'.rc _ hat
              have x1 : ∀ h, ixD (L'.map dN) (at_ : Int) h = .ok (dN (L'.getD at_ 0)) h := fun h => ixD_N c'
              have hL' := S'.len
              generalize hv : L'.getD at_ 0 = v at x1 lt1 r1 hi
              have x2 : ∀ h, ixD (p.map dN) (v : Int) h = .ok (dN (p.getD v 0)) h := fun h => ixD_N (by rw [Pp.len]; exact lt1)
              have hy : p.getD v 0 < n := Pp.lt v lt1
              have ry : Rch ps s (p.getD v 0) := .step r1 hpm
              generalize hyy : p.getD v 0 = y at x2 hy ry
              simp only [dN] at x1 x2
              by_cases q : y ∈ L'
              · refine ⟨_, _, ?_, L', some (dC p), some (dN y), rfl, rfl, S', c', fun p' hp' => ?_⟩
                · simp [lb_spread_2, SK_1, SK_2, dC, x1, x2, kn_at hy, q]
                · rw [tk] at hp'
                  rw [hv]
                  rcases List.mem_append.mp hp' with z | z
                  · exact hi p' z
                  · rw [List.mem_singleton] at z; subst z; rw [hyy]; exact q
              · refine ⟨_, _, ?_, L' ++ [y], some (dC p), some (dN y), rfl, rfl, S'.push hy q ry, by simp; omega, fun p' hp' => ?_⟩
                · have ap : ∀ r v h, appO (some (.lst (L'.map dN))) r v h = .ok .non (h.set r (.lst (L'.map dN ++ [v]))) := fun r v h => appO_lst (by rw [List.length_map, sizeLine_eq]; omega)
                  have e1 := SK_app (h := h) (n := n) (L := L') y
                  simp only [dN] at e1 ap
                  simp [lb_spread_2, SK_1, SK_2, dC, x1, x2, kn_at hy, q, kn_put hy, SK_1', ap, -List.append_assoc]
                  exact e1
                · rw [tk] at hp'
                  rw [getD_app, if_neg (by omega), hv]
                  rcases List.mem_append.mp hp' with z | z
                  · exact List.mem_append_left _ (hi p' z)
                  · rw [List.mem_singleton] at z; subst z; rw [hyy]; simp)
          rw [List.take_length] at hi
          have hL' := S'.len
          refine ⟨[some (.tup (ps.map dC)), some (dN n), some (dN s), some (.ref (h.length + 1)), some (.ref (h.length + 2)), some (dN (at_ + 1)), x6, x7], SK h n L', ?_, n - (at_ + 1), by omega, L', at_ + 1, x6, x7, rfl, rfl, ⟨S'.sm, S'.lt, S'.nd, S'.rc, by omega, fun i hi' p hp => ?_⟩, rfl⟩
          · simp [lb_spread_1, w]
          · by_cases e : i = at_
            · subst e; exact hi p hp
            · exact S'.cl i (by omega) p hp
      · obtain rfl : at_ = L.length := by omega
        refine .inl ⟨SK h n L, ?_, L, x6, x7, rfl, rfl, S⟩
        simp [wc_spread_1, SK_2])
    n [some (.tup (ps.map dC)), some (dN n), some (dN s), some (.ref (h.length + 1)), some (.ref (h.length + 2)), some (dN 0), none, none] (SK h n [s])
    ⟨[s], 0, none, none, rfl, rfl, ⟨by simp, fun x hx => by rw [List.mem_singleton] at hx; subst hx; exact hs, by simp, fun x hx => by rw [List.mem_singleton] at hx; subst hx; exact .refl, by simp, fun i hi => absurd hi (by omega)⟩, rfl⟩
  refine ⟨L, ?_, line_orb S.sm S.lt (fun x hx p hp => ?_) S.rc S.nd⟩
  · have r1 : RepOk 1 (n : Int) := repOk_1 (by omega)
    have e : c_spread [.tup (ps.map dC), dN n, dN s] h = gc h (.ok (.ref (h.length + 2)) (SK h n L)) := by
      unfold c_spread fsem
      have k1 : ∀ r h, putO (some (.lst (kn n []))) r (s : Int) (.bl true) h = some (h.set r (.lst (kn n [s]))) := fun r h => kn_put hs
      rw [show dN 0 = D.int 0 from rfl] at w
      simp only [SK, List.map_cons, List.map_nil] at w
      simp [m_spread, r1, kn_nil, k1, w]
      rfl
    rw [e]
    unfold SK
    rw [gc_new (i := 2) (o := .lst (L.map dN)) rfl (by simp)]
  · obtain ⟨i, hi, rfl⟩ := mem_getD (d := 0) hx
    exact S.cl i hi p hp
end Law

set_option maxHeartbeats 1000000
namespace Law
open PySem Rf L2
theorem dN_int (L : List Nat) : L.map dN = (L.map fun x : Nat => (x : Int)).map D.int := by rw [List.map_map]; rfl
theorem orb_up {ps : List (List Nat)} {n s : Nat} : (orb ps n s).Pairwise (· < ·) := by unfold orb; exact List.Pairwise.filter _ List.pairwise_lt_range
theorem sort_orb {ps : List (List Nat)} {n s : Nat} {L : List Nat} (p : L.Perm (orb ps n s)) : (intSort (L.map fun x : Nat => (x : Int))).map D.int = (orb ps n s).map dN := by
  rw [dN_int]
  congr 1
  refine (intSort_eq ((p.map _).symm) ?_).symm
  rw [List.pairwise_map]
  exact orb_up.imp fun h => by omega
theorem orbit_spec {ps : List (List Nat)} {n s : Nat} (P : Ps n ps) (hs : s < n) (hn : n ≤ 1000) {h : AH} :
    c_orbit [.tup (ps.map dC), dN n, dN s] h = .ok (dC (orb ps n s)) h := by
  obtain ⟨L, w, pm⟩ := spread_spec P hs hn (h := h)
  have e1 := cSorted_lst (r := h.length) (ns := L.map fun x : Nat => (x : Int)) (h := h ++ [.lst (L.map dN)]) (by rw [← dN_int]; simp)
  rw [sort_orb pm] at e1
  have e : c_orbit [.tup (ps.map dC), dN n, dN s] h = gc h (.ok (dC (orb ps n s)) (h ++ [.lst (L.map dN), .lst ((orb ps n s).map dN)])) := by
    unfold c_orbit fsem
    generalize hH : h ++ [AO.lst (L.map dN)] = H at w e1
    have : h ++ [AO.lst (L.map dN), AO.lst ((orb ps n s).map dN)] = H ++ [AO.lst ((orb ps n s).map dN)] := by rw [← hH]; simp
    rw [this]
    simp [m_orbit, w, e1, dC]
  rw [e, gc_app (by simp [dC])]
theorem trans_spec {ps : List (List Nat)} {n : Nat} (P : Ps n ps) (h1 : 1 ≤ n) (hn : n ≤ 1000) {h : AH} :
    c_is_transitive [.tup (ps.map dC), dN n] h = .ok (.bl (decide ((orbs ps n n).length = 1))) h := by
  obtain ⟨L, w, pm⟩ := spread_spec (s := 0) P (by omega) hn (h := h)
  have e : c_is_transitive [.tup (ps.map dC), dN n] h = gc h (.ok (.bl (decide ((orbs ps n n).length = 1))) (h ++ [.lst (L.map dN)])) := by
    unfold c_is_transitive fsem
    rw [show dN 0 = D.int 0 from rfl] at w
    have : decide ((orbs ps n n).length = 1) = (L.length == n) := by
      rw [pm.length_eq]
      by_cases q : (orb ps n 0).length = n
      · rw [decide_eq_true ((orbs_one P h1).mpr q)]; simp [q]
      · rw [decide_eq_false fun z => q ((orbs_one P h1).mp z)]; simp [q]
    simp [m_is_transitive, w, this]
  rw [e, gc_app (by simp)]
open Classical in
/-- the points known behind the first k -/
noncomputable def knO (ps : List (List Nat)) (n k : Nat) : List Nat := (List.range n).filter fun y => decide (∃ z, z < k ∧ Rch ps z y)
theorem kn_ext {n : Nat} {L M : List Nat} (h : ∀ x, x < n → (x ∈ L ↔ x ∈ M)) : kn n L = kn n M := by
  unfold kn
  apply List.map_congr_left
  intro x hx
  rw [List.mem_range] at hx
  simp [h x hx]
theorem mem_knO {ps : List (List Nat)} {n k x : Nat} : x ∈ knO ps n k ↔ x < n ∧ ∃ z, z < k ∧ Rch ps z x := by simp [knO]
def OK (h : AH) (n : Nat) (L : List Nat) (os : List (List Nat)) : AH := h ++ [.lst [.bl false], .lst (kn n L), .lst (os.map dC)]
section
variable {h : AH} {n : Nat} {L : List Nat} {os : List (List Nat)}
theorem OK_1 : (OK h n L os)[h.length + 1]? = some (.lst (kn n L)) := by unfold OK; rw [app_get]; rfl
theorem OK_2 : (OK h n L os)[h.length + 2]? = some (.lst (os.map dC)) := by unfold OK; rw [app_get]; rfl
theorem OK_s1 {M : List Nat} : (OK h n L os).set (h.length + 1) (.lst (kn n M)) = OK h n M os := by unfold OK; rw [app_set rfl]; rfl
theorem OK_s2 {o : List Nat} : (OK h n L os).set (h.length + 2) (.lst (os.map dC ++ [dC o])) = OK h n L (os ++ [o]) := by unfold OK; rw [app_set rfl]; simp
end
theorem orbits_spec {ps : List (List Nat)} {n : Nat} (P : Ps n ps) (hn : n ≤ 1000) {h : AH} :
    c_orbits [.tup (ps.map dC), dN n] h = .ok (.tup ((orbs ps n n).map dC)) h := by
  obtain ⟨e', h', w, x4, x5, x6, rfl, rfl⟩ := loopN (k := 4) (b := lb_orbits_1)
    (fun i e h' => ∃ x4 x5 x6, e = [some (.tup (ps.map dC)), some (dN n), some (.ref (h.length + 1)), some (.ref (h.length + 2)), x4, x5, x6] ∧ h' = OK h n (knO ps n i) (orbs ps n i))
    n (e := [some (.tup (ps.map dC)), some (dN n), some (.ref (h.length + 1)), some (.ref (h.length + 2)), none, none, none]) (h := OK h n [] [])
    ⟨none, none, none, rfl, by
      have e1 : knO ps n 0 = [] := by unfold knO; rw [List.filter_eq_nil_iff]; simp
      rw [e1]; rfl⟩ (by
      rintro i e h' hi ⟨x4, x5, x6, rfl, rfl⟩
      have k1 := fun L h => kn_at (L := L) hi h
      by_cases q : i ∈ knO ps n i
      · obtain ⟨z, hz, r⟩ := (mem_knO.mp q).2
        have e1 : orbs ps n (i + 1) = orbs ps n i := by rw [orbs_succ, if_neg fun H => H z hz r]
        have e2 : kn n (knO ps n (i + 1)) = kn n (knO ps n i) := kn_ext fun x hx => by
          rw [mem_knO, mem_knO]
          constructor
          · rintro ⟨_, z', hz', r'⟩
            by_cases e : z' = i
            · subst e; exact ⟨hx, z, hz, r.trans r'⟩
            · exact ⟨hx, z', by omega, r'⟩
          · rintro ⟨_, z', hz', r'⟩; exact ⟨hx, z', by omega, r'⟩
        refine ⟨_, OK h n (knO ps n i) (orbs ps n i), ?_, some (dN i), x5, x6, rfl, by rw [e1]; unfold OK; rw [e2]⟩
        have k2 := k1 (knO ps n i)
        rw [decide_eq_true q] at k2
        simp [lb_orbits_1, OK_1, k2]
      · have hd : Hd ps i := fun z hz r => q (mem_knO.mpr ⟨hi, z, hz, r⟩)
        have e1 : orbs ps n (i + 1) = orbs ps n i ++ [orb ps n i] := by rw [orbs_succ, if_pos hd]
        have k2 := k1 (knO ps n i)
        rw [decide_eq_false q] at k2
        have ow := fun h => orbit_spec P hi hn (h := h)
        obtain ⟨e', h', w, x6, rfl, rfl⟩ := loopM (φ := dN) (k := 6) (b := lb_orbits_2)
          (fun j e h' => ∃ x6, e = [some (.tup (ps.map dC)), some (dN n), some (.ref (h.length + 1)), some (.ref (h.length + 2)), some (dN i), some (dC (orb ps n i)), x6] ∧ h' = OK h n (knO ps n i ++ (orb ps n i).take j) (orbs ps n i))
          (orb ps n i) (e := [some (.tup (ps.map dC)), some (dN n), some (.ref (h.length + 1)), some (.ref (h.length + 2)), some (dN i), some (dC (orb ps n i)), x6]) (h := OK h n (knO ps n i) (orbs ps n i))
          ⟨x6, rfl, by rw [List.take_zero, List.append_nil]⟩ (by
            rintro j x e h' hx ⟨x6, rfl, rfl⟩
            have hxn := (mem_orb.mp (List.mem_of_getElem? hx)).1
            refine ⟨_, _, ?_, some (dN x), rfl, rfl⟩
            have tk : (orb ps n i).take (j + 1) = (orb ps n i).take j ++ [x] := by rw [List.take_add_one, hx]; rfl
            rw [tk, ← List.append_assoc]
            simp [lb_orbits_2, OK_1, kn_put hxn, OK_s1, -List.append_assoc])
        rw [List.take_length] at w
        have e2 : kn n (knO ps n (i + 1)) = kn n (knO ps n i ++ orb ps n i) := kn_ext fun x hx => by
          rw [List.mem_append, mem_knO, mem_knO, mem_orb]
          constructor
          · rintro ⟨_, z', hz', r'⟩
            by_cases e : z' = i
            · subst e; exact .inr ⟨hx, r'⟩
            · exact .inl ⟨hx, z', by omega, r'⟩
          · rintro (⟨_, z', hz', r'⟩ | ⟨_, r⟩)
            · exact ⟨hx, z', by omega, r'⟩
            · exact ⟨hx, i, by omega, r⟩
        have e3 : OK h n (knO ps n (i + 1)) (orbs ps n (i + 1)) = OK h n (knO ps n i ++ orb ps n i) (orbs ps n i ++ [orb ps n i]) := by rw [e1]; unfold OK; rw [e2]
        refine ⟨_, _, ?_, some (dN i), some (dC (orb ps n i)), x6, rfl, e3.symm⟩
        have ol := orbs_le (ps := ps) (n := n) (k := i)
        have ap : ∀ r v h, appO (some (.lst ((orbs ps n i).map dC))) r v h = .ok .non (h.set r (.lst ((orbs ps n i).map dC ++ [v]))) := fun r v h => appO_lst (by rw [List.length_map, sizeLine_eq]; omega)
        generalize orb ps n i = o at w ow ⊢
        have w' := w
        simp only [dC] at w'
        simp [lb_orbits_1, OK_1, OK_2, k2, ow, dC, w', ap]
        exact OK_s2)
  have r1 : RepOk 1 (n : Int) := repOk_1 (by omega)
  have r2 : RgB (n : Int) := rgB_nat (by omega)
  have e : c_orbits [.tup (ps.map dC), dN n] h = gc h (.ok (.tup ((orbs ps n n).map dC)) (OK h n (knO ps n n) (orbs ps n n))) := by
    unfold c_orbits fsem
    simp only [OK, List.map_nil] at w
    simp [m_orbits, r1, r2, rg_zero, kn_nil, w]
    rfl
  rw [e]
  unfold OK
  rw [gc_app (by simp; exact pures_map fun c _ => by simp [dC])]
end Law

set_option maxHeartbeats 1000000
namespace Law
open PySem Rf L2
/-- the two ends of a merge -/
theorem mrg_ends (L : List Nat) (a b : Nat) : ∃ lo up : Nat, (∀ h, cMin2 [.int (L.getD a 0 : Nat), .int (L.getD b 0 : Nat)] h = .ok (.int lo) h) ∧ (∀ h, cMax2 [.int (L.getD a 0 : Nat), .int (L.getD b 0 : Nat)] h = .ok (.int up) h) ∧
    (L.getD a 0 = L.getD b 0 → lo = up) ∧ (lo = up → L.getD a 0 = L.getD b 0) ∧ mrg L a b = L.map fun c => if c = up then lo else c := by
  refine ⟨if L.getD b 0 < L.getD a 0 then L.getD b 0 else L.getD a 0, if L.getD b 0 > L.getD a 0 then L.getD b 0 else L.getD a 0, fun h => ?_, fun h => ?_, fun e => ?_, fun e => ?_, rfl⟩
  · rw [cMin2_int, cast_ite]
    by_cases q : L.getD b 0 < L.getD a 0
    · rw [if_pos q, if_pos (by omega)]
    · rw [if_neg q, if_neg (by omega)]
  · rw [cMax2_int, cast_ite]
    by_cases q : L.getD b 0 > L.getD a 0
    · rw [if_pos q, if_pos (by omega)]
    · rw [if_neg q, if_neg (by omega)]
  · rw [if_neg (by omega), if_neg (by omega)]
  · split at e <;> split at e <;> omega
/-- on lists -/
theorem mergedL_spec {L : List Nat} (hl : L.length ≤ 1000) {a b : Nat} (ha : a < L.length) (hb : b < L.length) {h : AH} {r : Nat} (hr : h[r]? = some (.lst (L.map dN))) :
    ∃ r' g, c__law_merged [.ref r, dN a, dN b] h = .ok (.ref r') (h ++ g) ∧ (h ++ g)[r']? = some (.lst ((mrg L a b).map dN)) ∧ (r' = r ∨ h.length ≤ r') := by
  obtain ⟨lo, up, m1, m2, m3, m3', m4⟩ := mrg_ends L a b
  have x1 : ∀ h, ixD (L.map dN) (a : Int) h = .ok (dN (L.getD a 0)) h := fun h => ixD_N ha
  have x2 : ∀ h, ixD (L.map dN) (b : Int) h = .ok (dN (L.getD b 0)) h := fun h => ixD_N hb
  simp only [dN] at x1 x2
  by_cases c : lo = up
  · rw [mrg_same (m3' c)]
    refine ⟨r, [], ?_, by simpa using hr, .inl rfl⟩
    have e : c__law_merged [.ref r, dN a, dN b] h = gc h (.ok (.ref r) h) := by
      unfold c__law_merged fsem
      simp [m__law_merged, hr, x1, x2, m1, m2, c, -List.getD_eq_getElem?_getD]
    rw [e, gc_old (List.getElem?_eq_some_iff.mp hr).1, List.append_nil]
  · have l0 : lc__law_merged_1 [some (.ref r), some (dN a), some (dN b), some (dN lo), some (dN up), none] h = .ok (.ref h.length) (h ++ [.lst ((mrg L a b).map dN)]) := by
      unfold lc__law_merged_1
      rw [eLc_pureL (φ := dN) (r := r) L (fun _ => true) (fun c => dN (if c = up then lo else c)) (h1 := h) (by have := iVal_ref (m := eVar 0) (e := [some (.ref r), some (dN a), some (dN b), some (dN lo), some (dN up), none]) (h := h) (h1 := h) (r := r) (ds := L.map dN) (by simp) hr; simpa using this) hr (by rw [sizeLine_eq]; omega) (fun _ _ => rfl)]
      · rw [m4, List.map_map, List.filter_eq_self.mpr (by simp)]; rfl
      · intro x hx
        by_cases q : x = up
        · simp [wipeE, q]
        · simp [wipeE, q]
    simp only [dN] at l0
    refine ⟨h.length, [.lst ((mrg L a b).map dN)], ?_, by simp, .inr (Nat.le_refl _)⟩
    have e : c__law_merged [.ref r, dN a, dN b] h = gc h (.ok (.ref (h.length + 0)) (h ++ [.lst ((mrg L a b).map dN)])) := by
      unfold c__law_merged fsem
      simp [m__law_merged, hr, x1, x2, m1, m2, c, l0, -List.getD_eq_getElem?_getD]
    rw [e, gc_new (i := 0) rfl (by simp)]

theorem together_spec {ps : List (List Nat)} {n : Nat} (P : Ps n ps) (hn : n ≤ 1000) {h : AH} :
    ∃ R, c__law_together [.tup (ps.map dC), dN n] h = .ok (.ref h.length) (h ++ [.lst (R.map dN)]) ∧ TgE ps n R := by
  obtain ⟨e', h', w, x3, x4, r, g, R, rfl, rfl, hr, hrl, T, al⟩ := loopM (φ := dC) (k := 3) (b := lb__law_together_1)
    (fun i e h' => ∃ x3 x4 r g R, e = [some (.tup (ps.map dC)), some (dN n), some (.ref r), x3, x4] ∧ h' = h ++ g ∧ (h ++ g)[r]? = some (.lst (R.map dN)) ∧ h.length ≤ r ∧ Tg ps n R ∧ ∀ p ∈ ps.take i, ∀ k, k < n → R.getD k 0 = R.getD (p.getD k 0) 0)
    ps (e := [some (.tup (ps.map dC)), some (dN n), some (.ref h.length), none, none]) (h := h ++ [.lst ((List.range n).map dN)])
    ⟨none, none, h.length, [.lst ((List.range n).map dN)], List.range n, rfl, rfl, by simp, Nat.le_refl _, Tg.start ps n, fun p hp => absurd hp (by simp)⟩ (by
      rintro i p e h' hp ⟨x3, x4, r, g, R, rfl, rfl, hr, hrl, T, al⟩
      have hpm : p ∈ ps := List.mem_of_getElem? hp
      have Pp := P p hpm
      have tk : ps.take (i + 1) = ps.take i ++ [p] := by rw [List.take_add_one, hp]; rfl
      obtain ⟨e', h', w, x4, r, g, R, rfl, rfl, hr, hrl, T, al, al2⟩ := loopN (k := 4) (b := lb__law_together_2)
        (fun k e h' => ∃ x4 r g R, e = [some (.tup (ps.map dC)), some (dN n), some (.ref r), some (dC p), x4] ∧ h' = h ++ g ∧ (h ++ g)[r]? = some (.lst (R.map dN)) ∧ h.length ≤ r ∧ Tg ps n R ∧ (∀ p ∈ ps.take i, ∀ k, k < n → R.getD k 0 = R.getD (p.getD k 0) 0) ∧ ∀ k', k' < k → R.getD k' 0 = R.getD (p.getD k' 0) 0)
        n (e := [some (.tup (ps.map dC)), some (dN n), some (.ref r), some (dC p), x4]) (h := h ++ g)
        ⟨x4, r, g, R, rfl, rfl, hr, hrl, T, al, fun k' hk' => absurd hk' (by omega)⟩ (by
          rintro k e h' hk ⟨x4, r, g, R, rfl, rfl, hr, hrl, T, al, al2⟩
          have hq := Pp.lt k hk
          have lR := T.len
          have x1 : ∀ h, ixD (p.map dN) (k : Int) h = .ok (dN (p.getD k 0)) h := fun h => ixD_N (by rw [Pp.len]; exact hk)
          obtain ⟨r', g', ew, hr', hrl'⟩ := mergedL_spec (L := R) (by omega) (a := k) (b := p.getD k 0) (by omega) (by omega) hr
          rw [List.append_assoc] at ew hr'
          refine ⟨[some (.tup (ps.map dC)), some (dN n), some (.ref r'), some (dC p), some (dN k)], h ++ (g ++ g'), ?_, some (dN k), r', g ++ g', mrg R k (p.getD k 0), rfl, rfl, hr', (by
            rcases hrl' with rfl | z
            · exact hrl
            · rw [List.length_append] at z; omega), T.step P hpm hk, fun q hq k' hk' => ?_, fun k' hk' => ?_⟩
          · simp only [dN] at x1
            simp [lb__law_together_2, dC, x1, ew, -List.getD_eq_getElem?_getD]
          · exact mrg_keep (by omega) (by have := (P q (List.mem_of_mem_take hq)).lt k' hk'; omega) (al q hq k' hk')
          · by_cases e : k' = k
            · subst e
              exact mrg_do (by omega) (by omega)
            · exact mrg_keep (by omega) (by have := Pp.lt k' (by omega); omega) (al2 k' (by omega)))
      have r2 : RgB (n : Int) := rgB_nat (by omega)
      refine ⟨_, _, ?_, some (dC p), x4, r, g, R, rfl, rfl, hr, hrl, T, fun q hq => ?_⟩
      · simp [lb__law_together_1, r2, rg_zero, w]
      · rw [tk] at hq
        rcases List.mem_append.mp hq with hq | hq
        · exact al q hq
        · rw [List.mem_singleton] at hq; subst hq; exact al2)
  rw [List.take_length] at al
  refine ⟨R, ?_, T, al⟩
  have r2 : RgOk 0 (n : Int) := rgOk_nat (by omega)
  have e : c__law_together [.tup (ps.map dC), dN n] h = gc h (.ok (.ref (h.length + (r - h.length))) (h ++ g)) := by
    unfold c__law_together fsem
    simp [m__law_together, r2, rg_zero, w]
    rw [show h.length + (r - h.length) = r by omega]
  rw [e, gc_new (i := r - h.length) (o := .lst (R.map dN)) (by rw [List.getElem?_append_right hrl] at hr; exact hr) (by simp)]
theorem lc_orbits {R : List Nat} {n x : Nat} (hR : R.length = n) (hn : n ≤ 1000) {e0 e3 e5 : Option D} {h : AH} {r : Nat} (hr : h[r]? = some (.lst (R.map dN))) :
    lc__law_orbits_1 [e0, some (dN n), some (.ref r), e3, some (dN x), e5] h = .ok (.ref h.length) (h ++ [.lst (((List.range n).filter fun k => R.getD k 0 == x).map dN)]) := by
  unfold lc__law_orbits_1
  rw [eLc_pure (φ := dN) (List.range n) (fun k => R.getD k 0 == x) dN (h1 := h) (iRange1_nat (by simp) (by omega)) (by rw [List.length_range, sizeLine_eq]; omega)]
  · intro k hk
    rw [List.mem_range] at hk
    have x1 : ∀ h, ixD (R.map dN) (k : Int) h = .ok (dN (R.getD k 0)) h := fun h => ixD_N (by omega)
    simp [wipeE, x1, hr, dN, -List.getD_eq_getElem?_getD]
  · intro k hk _
    simp [wipeE]
def LO (h : AH) (R : List Nat) (os : List (List Nat)) (g : AH) : AH := h ++ (.lst (R.map dN) :: .lst (os.map dC) :: g)
section
variable {h g : AH} {R : List Nat} {os : List (List Nat)}
theorem LO_0 : (LO h R os g)[h.length]? = some (.lst (R.map dN)) := by unfold LO; rw [app_get0]; rfl
theorem LO_1 : (LO h R os g)[h.length + 1]? = some (.lst (os.map dC)) := by unfold LO; rw [app_get]; rfl
theorem LO_s {o : List Nat} : (LO h R os g).set (h.length + 1) (.lst (os.map dC ++ [dC o])) = LO h R (os ++ [o]) g := by unfold LO; rw [app_set rfl]; simp
theorem LO_app {x : AO} : LO h R os g ++ [x] = LO h R os (g ++ [x]) := by unfold LO; simp
end
theorem lorbits_spec {ps : List (List Nat)} {n : Nat} (P : Ps n ps) (hn : n ≤ 1000) {h : AH} :
    c__law_orbits [.tup (ps.map dC), dN n] h = .ok (.tup ((orbs ps n n).map dC)) h := by
  obtain ⟨R, wt, T⟩ := together_spec P hn (h := h)
  have lR := T.len
  obtain ⟨e', h', w, x4, x5, g, rfl, rfl⟩ := loopN (k := 4) (b := lb__law_orbits_1)
    (fun i e h' => ∃ x4 x5 g, e = [some (.tup (ps.map dC)), some (dN n), some (.ref h.length), some (.ref (h.length + 1)), x4, x5] ∧ h' = LO h R (clsTo R n i) g)
    n (e := [some (.tup (ps.map dC)), some (dN n), some (.ref h.length), some (.ref (h.length + 1)), none, none]) (h := LO h R [] [])
    ⟨none, none, [], rfl, rfl⟩ (by
      rintro i e h' hi ⟨x4, x5, g, rfl, rfl⟩
      have x1 : ∀ h, ixD (R.map dN) (i : Int) h = .ok (dN (R.getD i 0)) h := fun h => ixD_N (by omega)
      by_cases c : R.getD i 0 = i
      · have lc := lc_orbits lR hn (x := i) (e0 := some (.tup (ps.map dC))) (e3 := some (.ref (h.length + 1))) (e5 := x5) (h := LO h R (clsTo R n i) g) LO_0
        refine ⟨[some (.tup (ps.map dC)), some (dN n), some (.ref h.length), some (.ref (h.length + 1)), some (dN i), x5], LO h R (clsTo R n (i + 1)) (g ++ [.lst (((List.range n).filter fun k => R.getD k 0 == i).map dN)]), ?_, some (dN i), x5, _, rfl, rfl⟩
        have ap : ∀ r v h, appO (some (.lst ((clsTo R n i).map dC))) r v h = .ok .non (h.set r (.lst ((clsTo R n i).map dC ++ [v]))) := fun r v h => appO_lst (by have := clsTo_le (R := R) (n := n) (i := i); rw [List.length_map, sizeLine_eq]; omega)
        rw [clsTo_succ, if_pos c, ← LO_s, ← LO_app]
        rw [c] at x1
        generalize (List.range n).filter (fun k => R.getD k 0 == i) = o at lc ⊢
        have z1 : (LO h R (clsTo R n i) g ++ [AO.lst (o.map dN)])[h.length + 1]? = some (.lst ((clsTo R n i).map dC)) := app_get_l LO_1
        simp only [dN] at x1 lc z1
        simp [lb__law_orbits_1, LO_0, LO_1, x1, lc, z1, ap, dC, -List.append_assoc]
      · refine ⟨[some (.tup (ps.map dC)), some (dN n), some (.ref h.length), some (.ref (h.length + 1)), some (dN i), x5], LO h R (clsTo R n (i + 1)) g, ?_, some (dN i), x5, _, rfl, rfl⟩
        rw [clsTo_succ, if_neg c]
        simp only [dN] at x1
        simp [lb__law_orbits_1, LO_0, x1, c, -List.getD_eq_getElem?_getD])
  rw [T.orbs P n (Nat.le_refl _)] at w
  have r1 : RgB (n : Int) := rgB_nat (by omega)
  have e : c__law_orbits [.tup (ps.map dC), dN n] h = gc h (.ok (.tup ((orbs ps n n).map dC)) (LO h R (orbs ps n n) g)) := by
    unfold c__law_orbits fsem
    have w0 : LO h R [] [] = h ++ [.lst (R.map dN), .lst []] := rfl
    rw [w0] at w
    simp [m__law_orbits, wt, r1, rg_zero, w, LO_1]
  rw [e]
  unfold LO
  rw [gc_app (by simp; exact pures_map fun c _ => by simp [dC])]
end Law

set_option maxHeartbeats 1000000
namespace Law
open PySem Rf L2
theorem whole_spec (i : Int) (h : AH) : c__law_is_whole [.int i] h = .ok (.bl true) h := by
  have e : c__law_is_whole [.int i] h = gc h (.ok (.bl true) h) := by
    unfold c__law_is_whole fsem
    simp [m__law_is_whole]
  rw [e, gc_same (by simp)]
def dI (l : List Int) : D := .tup (l.map D.int)
theorem dC_dI (c : List Nat) : dC c = dI (c.map fun x : Nat => (x : Int)) := by unfold dC dI; rw [dN_int]
theorem dI_pure (l : List Int) : (dI l).pure = true := by simp [dI]
theorem row_spec {L : List Int} (hl : L.length ≤ 100000) {h : AH} : c__law_is_row [dI L, dI L] h = .ok (.bl true) h := by
  obtain ⟨e', h', w, x2, rfl, rfl⟩ := loopN (k := 2) (b := lb__law_is_row_1)
    (fun i e h' => ∃ x2, e = [some (dI L), some (dI L), x2] ∧ h = h')
    L.length (e := [some (dI L), some (dI L), none]) (h := h) ⟨none, rfl, rfl⟩ (by
      rintro i e h' hi ⟨x2, rfl, rfl⟩
      have x1 : ∀ h, ixD (L.map D.int) (i : Int) h = .ok (.int (L.getD i 0)) h := fun h => ixD_map (getD_some hi)
      refine ⟨_, _, ?_, some (dN i), rfl, rfl⟩
      simp [lb__law_is_row_1, dI, x1, whole_spec, -List.getD_eq_getElem?_getD])
  have r1 : RgB (L.length : Int) := rgB_nat (by omega)
  have e : c__law_is_row [dI L, dI L] h = gc h (.ok (.bl true) h) := by
    unfold c__law_is_row fsem
    simp only [dI] at w
    simp [m__law_is_row, dI, r1, rg_zero, w]
  rw [e, gc_same (by simp)]
/-- rows against the rows due, a tuple or a list -/
theorem rows_spec {A : List (List Int)} (hA : A.length ≤ 100000) (ha : ∀ l ∈ A, l.length ≤ 100000) {y : D} {h : AH} (hy1 : cLen [y] h = .ok (.int (A.length : Nat)) h) (hy2 : ∀ i, i < A.length → oIx y (.int (i : Nat)) h = .ok (dI (A.getD i [])) h) :
    c__law_is_rows [.tup (A.map dI), y] h = .ok (.bl true) h := by
  obtain ⟨e', h', w, x2, rfl, rfl⟩ := loopN (k := 2) (b := lb__law_is_rows_1)
    (fun i e h' => ∃ x2, e = [some (.tup (A.map dI)), some y, x2] ∧ h = h')
    A.length (e := [some (.tup (A.map dI)), some y, none]) (h := h) ⟨none, rfl, rfl⟩ (by
      rintro i e h' hi ⟨x2, rfl, rfl⟩
      have x1 : ∀ h, ixD (A.map dI) (i : Int) h = .ok (dI (A.getD i [])) h := fun h => ixD_map (getD_some hi)
      have rw1 := row_spec (L := A.getD i []) (ha _ (getD_mem hi)) (h := h)
      have y2 := hy2 i hi
      refine ⟨_, _, ?_, some (dN i), rfl, rfl⟩
      generalize A.getD i [] = l at x1 rw1 y2
      simp [lb__law_is_rows_1, x1, y2, rw1])
  have r1 : RgB (A.length : Int) := rgB_nat (by omega)
  have e : c__law_is_rows [.tup (A.map dI), y] h = gc h (.ok (.bl true) h) := by
    unfold c__law_is_rows fsem
    simp [m__law_is_rows, hy1, r1, rg_zero, w]
  rw [e, gc_same (by simp)]
theorem rows_tup {A : List (List Int)} (hA : A.length ≤ 100000) (ha : ∀ l ∈ A, l.length ≤ 100000) {h : AH} : c__law_is_rows [.tup (A.map dI), .tup (A.map dI)] h = .ok (.bl true) h :=
  rows_spec hA ha (by simp) fun i hi => by rw [oIx_tup_]; exact ixD_map (getD_some hi)
theorem truth_spec (b : Bool) (h : AH) : c__law_is_truth [.bl b, .bl b] h = .ok (.bl true) h := by
  have e : c__law_is_truth [.bl b, .bl b] h = gc h (.ok (.bl true) h) := by
    unfold c__law_is_truth fsem
    have q : oEq (.bl b) (.bl b) h = .ok (.bl true) h := by simp [oEq, D.toP, PyData.eqv]
    have q2 : cIsi [.bl b, .ty "bool"] h = .ok (.bl true) h := by rw [cIsi_bl _ _ _ (by decide)]; rfl
    simp [m__law_is_truth, q, q2]
  rw [e, gc_same (by simp)]
theorem orb_len {ps : List (List Nat)} {n s : Nat} : (orb ps n s).length ≤ n := by unfold orb; exact Nat.le_trans (List.length_filter_le _ _) (by simp)
theorem orbits_hold {ps : List (List Nat)} {n : Nat} (P : Ps n ps) (h1 : 1 ≤ n) (hn : n ≤ 1000) {h : AH} :
    c__law_orbits_hold [.tup (ps.map dC), dN n] h = .ok (.bl true) h := by
  have wl := lorbits_spec P hn (h := h)
  have wo := orbits_spec P hn (h := h)
  have wt := trans_spec P h1 hn (h := h)
  have ol := orbs_le (ps := ps) (n := n) (k := n)
  have oe : (orbs ps n n).map dC = ((orbs ps n n).map fun c => c.map fun x : Nat => (x : Int)).map dI := by
    rw [List.map_map]
    exact List.map_congr_left fun c _ => dC_dI c
  have mo : ∀ o ∈ orbs ps n n, ∃ x, x < n ∧ o = orb ps n x := fun o ho => by
    unfold orbs heads at ho
    obtain ⟨x, hx, rfl⟩ := List.mem_map.mp ho
    exact ⟨x, List.mem_range.mp (List.mem_filter.mp hx).1, rfl⟩
  have wr : c__law_is_rows [.tup ((orbs ps n n).map dC), .tup ((orbs ps n n).map dC)] h = .ok (.bl true) h := by
    rw [oe]
    refine rows_tup (by rw [List.length_map]; omega) fun l hl => ?_
    obtain ⟨o, ho, rfl⟩ := List.mem_map.mp hl
    obtain ⟨x, hx, rfl⟩ := mo o ho
    have := orb_len (ps := ps) (n := n) (s := x)
    rw [List.length_map]; omega
  obtain ⟨e', h', w, x3, x4, rfl, rfl⟩ := loopM (φ := dC) (k := 3) (b := lb__law_orbits_hold_1)
    (fun i e h' => ∃ x3 x4, e = [some (.tup (ps.map dC)), some (dN n), some (.tup ((orbs ps n n).map dC)), x3, x4] ∧ h = h')
    (orbs ps n n) (e := [some (.tup (ps.map dC)), some (dN n), some (.tup ((orbs ps n n).map dC)), none, none]) (h := h) ⟨none, none, rfl, rfl⟩ (by
      rintro i o e h' ho ⟨x3, x4, rfl, rfl⟩
      obtain ⟨x, hx, rfl⟩ := mo o (List.mem_of_getElem? ho)
      obtain ⟨e', h', w, x4, rfl, rfl⟩ := loopM (φ := dN) (k := 4) (b := lb__law_orbits_hold_2)
        (fun j e h' => ∃ x4, e = [some (.tup (ps.map dC)), some (dN n), some (.tup ((orbs ps n n).map dC)), some (dC (orb ps n x)), x4] ∧ h = h')
        (orb ps n x) (e := [some (.tup (ps.map dC)), some (dN n), some (.tup ((orbs ps n n).map dC)), some (dC (orb ps n x)), x4]) (h := h) ⟨x4, rfl, rfl⟩ (by
          rintro j y e h' hy ⟨x4, rfl, rfl⟩
          obtain ⟨yn, r⟩ := mem_orb.mp (List.mem_of_getElem? hy)
          have w1 := orbit_spec P yn hn (h := h)
          rw [orb_eq P hx r] at w1
          have w2 : c__law_is_row [dC (orb ps n x), dC (orb ps n x)] h = .ok (.bl true) h := by
            rw [dC_dI]
            exact row_spec (by have := orb_len (ps := ps) (n := n) (s := x); rw [List.length_map]; omega)
          refine ⟨_, _, ?_, some (dN y), rfl, rfl⟩
          simp [lb__law_orbits_hold_2, w1, w2])
      refine ⟨_, _, ?_, some (dC (orb ps n x)), x4, rfl, rfl⟩
      simp only [dC] at w
      simp [lb__law_orbits_hold_1, dC, w])
  have e : c__law_orbits_hold [.tup (ps.map dC), dN n] h = gc h (.ok (.bl true) h) := by
    unfold c__law_orbits_hold fsem
    have tr := truth_spec (decide ((orbs ps n n).length = 1)) h
    have eq1 : ((orbs ps n n).length == 1) = decide ((orbs ps n n).length = 1) := rfl
    generalize orbs ps n n = os at *
    have ei : oEq (.int (os.length : Int)) (.int 1) h = .ok (.bl (decide (os.length = 1))) h := by
      have := oEq_N os.length 1 h
      rw [eq1] at this
      exact this
    simp [m__law_orbits_hold, wl, wo, wt, wr, w, tr, ei, -oEq_int]
  rw [e, gc_same (by simp)]
end Law

set_option maxHeartbeats 1000000
namespace Law
open PySem Rf L2
/-! ### the moves, in the order of their codes -/
open Classical in
noncomputable def invP (n : Nat) (p : List Nat) : List Nat := if h : ∃ q, Inv n p q then Classical.choose h else []
theorem invP_eq {n : Nat} {p q : List Nat} (P : IsP n p) (h : Inv n p q) : invP n p = q := by
  have e : ∃ q, Inv n p q := ⟨q, h⟩
  unfold invP
  rw [dif_pos e]
  exact Inv.uniq P (Classical.choose_spec e) h
theorem cinv_spec {n : Nat} {p : List Nat} (P : IsP n p) (hn : n ≤ 1000) {h : AH} : c_inverse [dC p] h = .ok (dC (invP n p)) h := by
  obtain ⟨q, e, l, i⟩ := inverseP_spec P hn (h := h)
  rw [invP_eq P ⟨l, i⟩]
  exact e
theorem invP_inv {n : Nat} {p : List Nat} (P : IsP n p) (hn : n ≤ 1000) : Inv n p (invP n p) := by
  obtain ⟨q, e, l, i⟩ := inverseP_spec P hn (h := [])
  rw [invP_eq P ⟨l, i⟩]
  exact ⟨l, i⟩
noncomputable def msOf (n : Nat) (ps : List (List Nat)) : List (List Nat) := ps.flatMap fun p => [p, invP n p]
theorem msOf_len {n : Nat} : ∀ {ps : List (List Nat)}, (msOf n ps).length = 2 * ps.length
  | [] => rfl
  | p :: ps => by
    have := msOf_len (n := n) (ps := ps)
    unfold msOf at *
    rw [List.flatMap_cons, List.length_append, this, List.length_cons]
    simp; omega
theorem msOf_app {n : Nat} {ps qs : List (List Nat)} : msOf n (ps ++ qs) = msOf n ps ++ msOf n qs := by unfold msOf; rw [List.flatMap_append]
theorem msOf_isP {n : Nat} {ps : List (List Nat)} (P : Ps n ps) (hn : n ≤ 1000) : ∀ m ∈ msOf n ps, IsP n m := fun m hm => by
  unfold msOf at hm
  obtain ⟨p, hp, h⟩ := List.mem_flatMap.mp hm
  rcases List.mem_cons.mp h with rfl | h
  · exact P _ hp
  · rw [List.mem_singleton] at h
    subst h
    exact (invP_inv (P p hp) hn).isP (P p hp)
def stepD (c : Nat) : D := .tup [.int ((c : Int) / 2), .int (1 - 2 * ((c : Int) % 2))]
/-- the moves as the program keeps them -/
noncomputable def mvD (n : Nat) (ps : List (List Nat)) : List D := (List.range (2 * ps.length)).map fun c => .tup [stepD c, dC ((msOf n ps).getD c [])]
theorem msOf_at {n : Nat} : ∀ {ps : List (List Nat)} {k : Nat}, k < ps.length → (msOf n ps).getD (2 * k) [] = ps.getD k [] ∧ (msOf n ps).getD (2 * k + 1) [] = invP n (ps.getD k [])
  | [], k, h => absurd h (by simp)
  | p :: ps, 0, _ => ⟨rfl, rfl⟩
  | p :: ps, k + 1, h => by
    have ih := msOf_at (n := n) (ps := ps) (k := k) (by simpa using h)
    have e : msOf n (p :: ps) = p :: invP n p :: msOf n ps := by unfold msOf; rw [List.flatMap_cons]; rfl
    rw [e]
    exact ih
theorem pairs_flat {α : Type} (g : Nat → α) : ∀ m, ((List.range m).flatMap fun k => [g (2 * k), g (2 * k + 1)]) = (List.range (2 * m)).map g
  | 0 => rfl
  | m + 1 => by
    rw [List.range_succ, List.flatMap_append, pairs_flat g m, show 2 * (m + 1) = 2 * m + 1 + 1 by omega, List.range_succ, List.range_succ, List.map_append, List.map_append, List.append_assoc]; rfl
theorem flatMap_congr' {α β : Type} {f g : α → List β} : ∀ {xs : List α}, (∀ x ∈ xs, f x = g x) → xs.flatMap f = xs.flatMap g
  | [], _ => rfl
  | x :: xs, h => by rw [List.flatMap_cons, List.flatMap_cons, h x List.mem_cons_self, flatMap_congr' fun y hy => h y (List.mem_cons_of_mem _ hy)]
theorem mvD_len {n : Nat} {ps : List (List Nat)} : (mvD n ps).length = 2 * ps.length := by simp [mvD]
/-- perms[k] one way or back -/
theorem step_perm {ps : List (List Nat)} {n : Nat} (P : Ps n ps) (hn : n ≤ 1000) {k : Nat} (hk : k < ps.length) {b : Bool} {h : AH} :
    c_step_perm [.tup (ps.map dC), dN k, .int (if b then 1 else -1)] h = .ok (dC ((msOf n ps).getD (if b then 2 * k else 2 * k + 1) [])) h := by
  have m := msOf_at (n := n) hk
  have x1 : ∀ h, ixD (ps.map dC) (k : Int) h = .ok (dC (ps.getD k [])) h := fun h => ixD_map (getD_some hk)
  have ci := cinv_spec (P _ (getD_mem (d := []) hk)) hn (h := h)
  have e : c_step_perm [.tup (ps.map dC), dN k, .int (if b then 1 else -1)] h = gc h (.ok (dC ((msOf n ps).getD (if b then 2 * k else 2 * k + 1) [])) h) := by
    unfold c_step_perm fsem
    cases b with
    | true =>
      simp only [if_true]
      rw [m.1]
      simp [m_step_perm, x1, -List.getD_eq_getElem?_getD]
    | false =>
      simp only [Bool.false_eq_true, if_false]
      rw [m.2]
      generalize ps.getD k [] = p at x1 ci ⊢
      simp [m_step_perm, x1, ci]
  rw [e, gc_same (by simp [dC])]
theorem moves_spec {ps : List (List Nat)} {n : Nat} (P : Ps n ps) (hn : n ≤ 1000) (hp : ps.length ≤ 1000) {x1 x2 x3 x4 x5 x6 x7 x8 x9 x10 x11 x12 x13 : Option D} {h : AH} :
    lc_way_1 [some (.tup (ps.map dC)), x1, x2, x3, x4, x5, x6, x7, x8, x9, x10, x11, x12, x13] h = .ok (.ref h.length) (h ++ [.lst (mvD n ps)]) := by
  have fl : ((List.range ps.length).flatMap fun k => [true, false].map fun b => D.tup [.tup [dN k, .int (if b then 1 else -1)], dC ((msOf n ps).getD (if b then 2 * k else 2 * k + 1) [])]) = mvD n ps := by
    unfold mvD
    rw [← pairs_flat (fun c => D.tup [stepD c, dC ((msOf n ps).getD c [])])]
    refine flatMap_congr' fun k _ => ?_
    have a1 : ((2 * k : Nat) : Int) / 2 = k := by omega
    have a2 : 1 - 2 * (((2 * k : Nat) : Int) % 2) = 1 := by omega
    have a3 : ((2 * k + 1 : Nat) : Int) / 2 = k := by omega
    have a4 : 1 - 2 * (((2 * k + 1 : Nat) : Int) % 2) = -1 := by omega
    simp only [List.map_cons, List.map_nil, stepD, a1, a2, a3, a4, if_true, Bool.false_eq_true, if_false]
  have r1 : RgB (ps.length : Int) := rgB_nat (by omega)
  unfold lc_way_1
  rw [eLc2_map (φ := dN) (ψ := fun b : Bool => D.int (if b then 1 else -1)) (List.range ps.length) (fun _ => [true, false]) (fun k b => D.tup [.tup [dN k, .int (if b then 1 else -1)], dC ((msOf n ps).getD (if b then 2 * k else 2 * k + 1) [])]) (h1 := h) (iRange1_nat (by simp) (by omega)) (by rw [fl, mvD_len, sizeLine_eq]; omega)]
  · rw [fl]
  · intro k hk acc
    refine iVal_tup (ds := [.int 1, .int (-1)]) ?_
    simp [wipeE]
  · intro k hk b hb acc
    have sp := step_perm P hn (List.mem_range.mp hk) (b := b) (h := h ++ [.lst acc])
    generalize (msOf n ps).getD (if b then 2 * k else 2 * k + 1) [] = q at sp
    simp [wipeE, sp, -List.append_assoc]
end Law

set_option maxHeartbeats 1000000
namespace Law
open PySem Rf L2
/-! ### way -/
/-- where a word came from -/
def ent (ms : List (List Nat)) (s : Nat) (c : List Nat) : D := match c.reverse with
  | [] => .tup [dN s, .non]
  | k :: r => .tup [dN (walk ms s r.reverse), stepD k]
theorem ent_nil {ms : List (List Nat)} {s : Nat} : ent ms s [] = .tup [dN s, .non] := rfl
theorem ent_snoc {ms : List (List Nat)} {s k : Nat} {c : List Nat} : ent ms s (c ++ [k]) = .tup [dN (walk ms s c), stepD k] := by
  unfold ent
  rw [List.reverse_append]
  simp
theorem ent_tup {ms : List (List Nat)} {s : Nat} {c : List Nat} : (ent ms s c).isNon = false := by
  unfold ent
  split <;> rfl
theorem stepD_pure (c : Nat) : (stepD c).pure = true := by simp [stepD]
theorem ent_pure {ms : List (List Nat)} {s : Nat} {c : List Nat} : (ent ms s c).pure = true := by
  unfold ent
  split
  · simp
  · simp [stepD_pure]
theorem getDD_set {C : List D} {i j : Nat} {v : D} (hi : i < C.length) : (C.set i v).getD j .non = if i = j then v else C.getD j .non := by
  simp only [List.getD_eq_getElem?_getD]
  by_cases h : i = j
  · subst h
    rw [List.getElem?_set_self hi, if_pos rfl]; rfl
  · rw [List.getElem?_set_ne h, if_neg h]
structure CM (ms : List (List Nat)) (s n : Nat) (L : List Nat) (W : List (List Nat)) (C : List D) : Prop where
  len : C.length = n
  non : ∀ x, x < n → x ∉ L → C.getD x .non = .non
  ent : ∀ i, i < L.length → C.getD (L.getD i 0) .non = ent ms s (W.getD i [])
theorem CM.pure {ms : List (List Nat)} {s n : Nat} {L : List Nat} {W : List (List Nat)} {C : List D} (M : CM ms s n L W C) : pures C = true := pures_iff.mpr fun d hd => by
  obtain ⟨x, hx, rfl⟩ := List.getElem_of_mem hd
  rw [← getD_get (d := D.non)]
  by_cases q : x ∈ L
  · obtain ⟨i, hi, rfl⟩ := mem_getD (d := 0) q
    rw [M.ent i hi]; exact ent_pure
  · rw [M.non x (by rw [← M.len]; exact hx) q]; rfl
theorem CM.isNon {ms : List (List Nat)} {s n : Nat} {L : List Nat} {W : List (List Nat)} {C : List D} (M : CM ms s n L W C) {x : Nat} (hx : x < n) : (C.getD x .non).isNon = decide (x ∉ L) := by
  by_cases q : x ∈ L
  · obtain ⟨i, hi, rfl⟩ := mem_getD (d := 0) q
    rw [M.ent i hi, ent_tup, decide_eq_false fun h => h q]
  · rw [M.non x hx q, decide_eq_true q]; rfl
theorem CM.put {ms : List (List Nat)} {s n y : Nat} {L : List Nat} {W : List (List Nat)} {C : List D} (M : CM ms s n L W C) (lw : W.length = L.length) (hL : ∀ x ∈ L, x < n) (hy : y < n) (ny : y ∉ L) {c : List Nat} {d : D} (e : d = Law.ent ms s c) : CM ms s n (L ++ [y]) (W ++ [c]) (C.set y d) := by
  have lc : y < C.length := by rw [M.len]; exact hy
  refine ⟨by rw [List.length_set, M.len], fun x hx nx => ?_, fun i hi => ?_⟩
  · rw [getDD_set lc, if_neg fun e => nx (by rw [← e]; simp)]
    exact M.non x hx fun h => nx (List.mem_append_left _ h)
  · rw [List.length_append] at hi
    by_cases q : i = L.length
    · subst q
      rw [getD_app, if_pos rfl, getDW_app, if_pos lw.symm, getDD_set lc, if_pos rfl, e]
    · have hi' : i < L.length := by simp at hi; omega
      rw [getD_app, if_neg q, getDW_app, if_neg (by omega), getDD_set lc, if_neg fun e => ny (by rw [e]; exact getD_mem hi')]
      exact M.ent i hi'
theorem walk_lt {ms : List (List Nat)} {n : Nat} (P : ∀ m ∈ ms, IsP n m) {s : Nat} (hs : s < n) : ∀ (r : List Nat), Wd ms r.reverse → walk ms s r.reverse < n
  | [], _ => hs
  | k :: r, w => by
    rw [List.reverse_cons] at w ⊢
    obtain ⟨w1, w2⟩ := Wd.snoc.mp w
    rw [walk_snoc]
    exact (P _ (getD_mem w2)).lt _ (walk_lt P hs r w1)
theorem walk_lt' {ms : List (List Nat)} {n : Nat} (P : ∀ m ∈ ms, IsP n m) {s : Nat} (hs : s < n) (c : List Nat) (w : Wd ms c) : walk ms s c < n := by
  have := walk_lt P hs c.reverse (by rwa [List.reverse_reverse])
  rwa [List.reverse_reverse] at this
theorem BS.lt {ms : List (List Nat)} {n s at_ j : Nat} {L : List Nat} {W : List (List Nat)} (B : BS ms s L W at_ j) (P : ∀ m ∈ ms, IsP n m) (hs : s < n) : ∀ x ∈ L, x < n := fun x hx => by
  obtain ⟨i, hi, rfl⟩ := mem_getD (d := 0) hx
  have := B.wd i hi
  rw [← this.2]
  exact walk_lt' P hs _ this.1
theorem BS.ll {ms : List (List Nat)} {n s at_ j : Nat} {L : List Nat} {W : List (List Nat)} (B : BS ms s L W at_ j) (P : ∀ m ∈ ms, IsP n m) (hs : s < n) : L.length ≤ n := by
  have := sub_length B.nd (l2 := List.range n) fun x hx => by rw [List.mem_range]; exact B.lt P hs x hx
  simpa using this
theorem BS.pre {ms : List (List Nat)} {s at_ j k i : Nat} {L : List Nat} {W : List (List Nat)} {c : List Nat} (B : BS ms s L W at_ j) (hi : i < L.length) (e : W.getD i [] = c ++ [k]) : ∃ i', i' < L.length ∧ L.getD i' 0 = walk ms s c ∧ W.getD i' [] = c := by
  have F := B.fst hi
  rw [e] at F
  have G := F.init
  have := B.word c.reverse (by rw [List.reverse_reverse]; exact G.wd)
  rw [List.reverse_reverse] at this
  rcases this with ⟨i', hi', e', l⟩ | ⟨i', k', hi', hk, u, l⟩
  · have F' := B.fst hi'
    rw [e'] at F'
    exact ⟨i', hi', e', F'.uniq G⟩
  · have := B.low i i' k' hi hi' hk u
    rw [e] at this
    exact absurd (wlt_trans (wlt_le this l) wlt_app) wlt_irr
theorem steps_back {ms : List (List Nat)} {s n at_ j : Nat} {L : List Nat} {W : List (List Nat)} {C : List D} (B : BS ms s L W at_ j) (M : CM ms s n L W C) (hlt : ∀ x ∈ L, x < n) (hW : ∀ i, i < L.length → (W.getD i []).length < 1000) {i : Nat} (hi : i < L.length) {h : AH} {r : Nat} (hr : h[r]? = some (.lst C)) :
    c__steps_back [.ref r, dN s, dN (L.getD i 0)] h = .ok (.tup ((W.getD i []).map stepD)) h := by
  have hrl := (List.getElem?_eq_some_iff.mp hr).1
  obtain ⟨e', h', w, x4, x5, rfl, rfl⟩ := while_ix (c := wc__steps_back_1) (b := lb__steps_back_1)
    (fun m e h' => ∃ i' rest x5, e = [some (.ref r), some (dN s), some (dN (L.getD i 0)), some (.ref h.length), some (dN (L.getD i' 0)), x5] ∧ h' = h ++ [.lst (rest.reverse.map stepD)] ∧ i' < L.length ∧ W.getD i [] = W.getD i' [] ++ rest ∧ m = (W.getD i' []).length)
    (fun e h' => ∃ x4 x5, e = [some (.ref r), some (dN s), some (dN (L.getD i 0)), some (.ref h.length), x4, x5] ∧ h' = h ++ [.lst ((W.getD i []).reverse.map stepD)])
    (by
      rintro m e h' ⟨i', rest, x5, rfl, rfl, hi', ew, rfl⟩
      by_cases q : L.getD i' 0 = s
      · have z : i' = 0 := nodup_getD B.nd hi' B.pos (by rw [q, B.s0])
        subst z
        rw [B.w0, List.nil_append] at ew
        refine .inl ⟨_, ?_, some (dN (L.getD 0 0)), x5, rfl, by rw [ew]⟩
        rw [q]
        simp [wc__steps_back_1]
      · refine .inr ⟨h ++ [.lst (rest.reverse.map stepD)], ?_, ?_⟩
        · simp [wc__steps_back_1, q, -List.getD_eq_getElem?_getD]
        · rcases List.eq_nil_or_concat (W.getD i' []) with z | ⟨c, k, z⟩
          · exfalso
            have := (B.wd i' hi').2
            rw [z] at this
            exact q this.symm
          · rw [List.concat_eq_append] at z
            obtain ⟨i2, hi2, e2, w2⟩ := B.pre hi' z
            have en := M.ent i' hi'
            rw [z, ent_snoc, ← e2] at en
            have hl := hlt _ (getD_mem (d := 0) hi')
            have x1 : ∀ h, ixD C ((L.getD i' 0 : Nat) : Int) h = .ok (.tup [dN (L.getD i2 0), stepD k]) h := fun h => by
              rw [← en]; exact ixD_some (getD_some (by rw [M.len]; exact hl))
            refine ⟨[some (.ref r), some (dN s), some (dN (L.getD i 0)), some (.ref h.length), some (dN (L.getD i2 0)), some (stepD k)], h ++ [.lst ((k :: rest).reverse.map stepD)], ?_, (W.getD i2 []).length, by rw [w2, z]; simp, i2, k :: rest, some (stepD k), rfl, rfl, hi2, by rw [ew, z, w2]; simp, rfl⟩
            have hr' : (h ++ [AO.lst (rest.reverse.map stepD)])[r]? = some (.lst C) := app_get_l hr
            have hwl := hW i hi
            rw [ew, List.length_append] at hwl
            have ap : ∀ r v h, appO (some (.lst (rest.reverse.map stepD))) r v h = .ok .non (h.set r (.lst (rest.reverse.map stepD ++ [v]))) := fun r v h => appO_lst (by rw [List.length_map, List.length_reverse, sizeLine_eq]; omega)
            generalize L.getD i' 0 = u at x1 ⊢
            generalize L.getD i2 0 = u2 at x1 ⊢
            generalize hsk : stepD k = sk at x1 ⊢
            simp only [List.map_reverse] at ap hr'
            simp [lb__steps_back_1, hr', x1, ap]
            exact hsk.symm)
    (W.getD i []).length [some (.ref r), some (dN s), some (dN (L.getD i 0)), some (.ref h.length), some (dN (L.getD i 0)), none] (h ++ [.lst []])
    ⟨i, [], none, rfl, rfl, hi, by simp, rfl⟩
  have e : c__steps_back [.ref r, dN s, dN (L.getD i 0)] h = gc h (.ok (.tup ((W.getD i []).map stepD)) (h ++ [.lst ((W.getD i []).reverse.map stepD), .lst ((W.getD i []).map stepD)])) := by
    unfold c__steps_back fsem
    generalize L.getD i 0 = u at w ⊢
    have er : ((W.getD i []).reverse.map stepD).reverse = (W.getD i []).map stepD := by rw [← List.map_reverse, List.reverse_reverse]
    generalize (W.getD i []).reverse.map stepD = fd at w er ⊢
    generalize (W.getD i []).map stepD = fd2 at er ⊢
    have rv := eRev_ref (m := eVar 3) (e := [some (.ref r), some (dN s), some (dN u), some (.ref h.length), x4, x5]) (h := h ++ [.lst fd]) (h1 := h ++ [.lst fd]) (r := h.length) (ds := fd) rfl (by simp)
    rw [er] at rv
    simp at rv
    simp [m__steps_back, w, rv]
  rw [e, gc_app (by simp; exact pures_map fun c _ => stepD_pure c)]
/-! the breadth-first line -/
def WK (h : AH) (mvs C : List D) (L : List Nat) : AH := h ++ [.lst mvs, .lst [.non], .lst C, .lst (L.map dN)]
section
variable {h : AH} {mvs C : List D} {L : List Nat}
theorem WK_0 : (WK h mvs C L)[h.length]? = some (.lst mvs) := by unfold WK; rw [app_get0]; rfl
theorem WK_2 : (WK h mvs C L)[h.length + 2]? = some (.lst C) := by unfold WK; rw [app_get]; rfl
theorem WK_3 : (WK h mvs C L)[h.length + 3]? = some (.lst (L.map dN)) := by unfold WK; rw [app_get]; rfl
theorem WK_s2 {C' : List D} : (WK h mvs C L).set (h.length + 2) (.lst C') = WK h mvs C' L := by unfold WK; rw [app_set rfl]; rfl
theorem WK_s3 {x : Nat} : (WK h mvs C L).set (h.length + 3) (.lst (L.map dN ++ [dN x])) = WK h mvs C (L ++ [x]) := by unfold WK; rw [app_set rfl]; simp
end
theorem getD_rep {n i : Nat} {d e : D} (hi : i < n) : (List.replicate n d).getD i e = d := by simp [hi]
theorem way_spec {ps : List (List Nat)} {n s g : Nat} (P : Ps n ps) (hn : n ≤ 100) (hp : ps.length ≤ 100) (hs : s < n) (hg : g < n) {h : AH} :
    (c_way [.tup (ps.map dC), dN n, dN s, dN g] h = .ok .non h ∧ ∀ c, Wd (msOf n ps) c → walk (msOf n ps) s c ≠ g) ∨
    ∃ c, c_way [.tup (ps.map dC), dN n, dN s, dN g] h = .ok (.tup (c.map stepD)) h ∧ Fst (msOf n ps) s g c := by
  have Pm := msOf_isP P (by omega)
  have lm := msOf_len (n := n) (ps := ps)
  have mw := fun x1 x2 x3 x4 x5 x6 x7 x8 x9 x10 x11 x12 x13 h => moves_spec P (by omega) (by omega) (x1 := x1) (x2 := x2) (x3 := x3) (x4 := x4) (x5 := x5) (x6 := x6) (x7 := x7) (x8 := x8) (x9 := x9) (x10 := x10) (x11 := x11) (x12 := x12) (x13 := x13) (h := h)
  have lmv : (mvD n ps).length = (msOf n ps).length := by rw [mvD_len, lm]
  have amv : ∀ k, k < (msOf n ps).length → (mvD n ps)[k]? = some (.tup [stepD k, dC ((msOf n ps).getD k [])]) := fun k hk => by
    unfold mvD
    rw [List.getElem?_map, List.getElem?_range (by omega)]; rfl
  generalize msOf n ps = ms at *
  generalize mvD n ps = mvs at *
  have hM : ms.length ≤ 200 := by omega
  clear lm
  obtain ⟨e', h', w, L, W, C, at_, x10, x11, x12, x13, rfl, rfl, B, M, fin⟩ := while_ix (c := wc_way_1) (b := lb_way_1)
    (fun m e h' => ∃ L W C at_ x10 x11 x12 x13, e = [some (.tup (ps.map dC)), some (dN n), some (dN s), some (dN g), some (.ref h.length), none, none, some (.ref (h.length + 2)), some (.ref (h.length + 3)), some (dN at_), x10, x11, x12, x13] ∧ h' = WK h mvs C L ∧ BS ms s L W at_ 0 ∧ CM ms s n L W C ∧ at_ ≤ L.length ∧ m = n - at_)
    (fun e h' => ∃ L W C at_ x10 x11 x12 x13, e = [some (.tup (ps.map dC)), some (dN n), some (dN s), some (dN g), some (.ref h.length), none, none, some (.ref (h.length + 2)), some (.ref (h.length + 3)), some (dN at_), x10, x11, x12, x13] ∧ h' = WK h mvs C L ∧ BS ms s L W at_ 0 ∧ CM ms s n L W C ∧ (at_ = L.length ∨ g ∈ L))
    (by
      rintro m e h' ⟨L, W, C, at_, x10, x11, x12, x13, rfl, rfl, B, M, hle, rfl⟩
      have hL := B.ll Pm hs
      have cg : ∀ h, ixD C (g : Int) h = .ok (C.getD g .non) h := fun h => ixD_some (getD_some (by rw [M.len]; exact hg))
      have ng := M.isNon hg
      by_cases c1 : at_ < L.length
      · by_cases c2 : g ∈ L
        · refine .inl ⟨WK h mvs C L, ?_, L, W, C, at_, x10, x11, x12, x13, rfl, rfl, B, M, .inr c2⟩
          rw [decide_eq_false fun z => z c2] at ng
          generalize C.getD g .non = d at cg ng
          simp [wc_way_1, WK_3, WK_2, c1, cg, ng]
        · refine .inr ⟨WK h mvs C L, ?_, ?_⟩
          · rw [decide_eq_true c2] at ng
            generalize C.getD g .non = d at cg ng
            simp [wc_way_1, WK_3, WK_2, c1, cg, ng]
          · have hv := B.lt Pm hs _ (getD_mem (d := 0) c1)
            have x1 : ∀ h, ixD (L.map dN) (at_ : Int) h = .ok (dN (L.getD at_ 0)) h := fun h => ixD_N c1
            obtain ⟨v, ev⟩ : ∃ v, v = L.getD at_ 0 := ⟨_, rfl⟩
            rw [← ev] at x1 hv
            obtain ⟨e', h', w, L', W', C', x11, x12, x13, rfl, rfl, B', M', c1', ev'⟩ := liveL_inv (g := gTup 2 (gCons (gVar 11) (gCons (gVar 12) gNils))) (b := lb_way_2) (r := h.length) (ds := mvs)
              (fun j e h' => ∃ L' W' C' x11 x12 x13, e = [some (.tup (ps.map dC)), some (dN n), some (dN s), some (dN g), some (.ref h.length), none, none, some (.ref (h.length + 2)), some (.ref (h.length + 3)), some (dN at_), some (dN v), x11, x12, x13] ∧ h' = WK h mvs C' L' ∧ BS ms s L' W' at_ j ∧ CM ms s n L' W' C' ∧ at_ < L'.length ∧ v = L'.getD at_ 0)
              (e := [some (.tup (ps.map dC)), some (dN n), some (dN s), some (dN g), some (.ref h.length), none, none, some (.ref (h.length + 2)), some (.ref (h.length + 3)), some (dN at_), some (dN v), x11, x12, x13]) (h := WK h mvs C L)
              (by rintro j e h' ⟨L', W', C', x11, x12, x13, rfl, rfl, _⟩; exact WK_0)
              ⟨L, W, C, x11, x12, x13, rfl, rfl, B, M, c1, ev⟩ (by
                rintro j d e h' hd ⟨L', W', C', x11, x12, x13, rfl, rfl, B', M', c1', ev'⟩
                have hj : j < ms.length := by rw [← lmv]; exact (List.getElem?_eq_some_iff.mp hd).1
                rw [amv j hj] at hd
                cases hd
                have Pj := Pm _ (getD_mem (d := []) hj)
                have hy : mv ms j v < n := Pj.lt v hv
                have x2 : ∀ h, ixD ((ms.getD j []).map dN) (v : Int) h = .ok (dN (mv ms j v)) h := fun h => ixD_N (by rw [Pj.len]; exact hv)
                have lL' := B'.ll Pm hs
                have cy : ∀ h, ixD C' ((mv ms j v : Nat) : Int) h = .ok (C'.getD (mv ms j v) .non) h := fun h => ixD_some (getD_some (by rw [M'.len]; exact hy))
                have ny := M'.isNon hy
                by_cases q : mv ms j v ∈ L'
                · rw [decide_eq_false fun z => z q] at ny
                  refine ⟨_, _, ?_, L', W', C', some (stepD j), some (dC (ms.getD j [])), some (dN (mv ms j v)), rfl, rfl, B'.skip c1' hj (by rw [← ev']; exact q), M', c1', ev'⟩
                  generalize C'.getD (mv ms j v) .non = dd at cy ny
                  generalize mv ms j v = y at x2 cy
                  generalize ms.getD j [] = m at x2
                  generalize stepD j = sj
                  simp [lb_way_2, WK_2, dC, x2, cy, ny]
                · rw [decide_eq_true q] at ny
                  have Bp := B'.put c1' hj (by rw [← ev']; exact q)
                  rw [← ev'] at Bp
                  have en : D.tup [dN v, stepD j] = ent ms s (W'.getD at_ [] ++ [j]) := by rw [ent_snoc, (B'.wd at_ c1').2, ev']
                  refine ⟨_, _, ?_, L' ++ [mv ms j v], _, C'.set (mv ms j v) (.tup [dN v, stepD j]), some (stepD j), some (dC (ms.getD j [])), some (dN (mv ms j v)), rfl, rfl, Bp, M'.put B'.len (B'.lt Pm hs) hy q en, by simp; omega, by rw [getD_app, if_neg (by omega)]; exact ev'⟩
                  have lC := M'.len
                  have pc : ∀ r v' h, putO (some (.lst C')) r ((mv ms j v : Nat) : Int) v' h = some (h.set r (.lst (C'.set (mv ms j v) v'))) := fun r v' h => putO_nat (by omega)
                  have ap : ∀ r v h, appO (some (.lst (L'.map dN))) r v h = .ok .non (h.set r (.lst (L'.map dN ++ [v]))) := fun r v h => appO_lst (by rw [List.length_map, sizeLine_eq]; omega)
                  generalize C'.getD (mv ms j v) .non = dd at cy ny
                  generalize mv ms j v = y at x2 cy pc ⊢
                  generalize ms.getD j [] = m at x2
                  generalize stepD j = sj
                  simp only [dN] at x2 cy pc ap
                  simp [lb_way_2, WK_2, WK_3, dC, x2, cy, ny, pc, WK_s2, ap]
                  exact WK_s3)
            rw [lmv] at B'
            have lL' := B'.ll Pm hs
            refine ⟨[some (.tup (ps.map dC)), some (dN n), some (dN s), some (dN g), some (.ref h.length), none, none, some (.ref (h.length + 2)), some (.ref (h.length + 3)), some (dN (at_ + 1)), some (dN v), x11, x12, x13], WK h mvs C' L', ?_, n - (at_ + 1), by omega, L', W', C', at_ + 1, some (dN v), x11, x12, x13, rfl, rfl, B'.next, M', by omega, rfl⟩
            simp only [dN] at x1 w
            simp [lb_way_1, WK_3, WK_0, x1, w]
      · refine .inl ⟨WK h mvs C L, ?_, L, W, C, at_, x10, x11, x12, x13, rfl, rfl, B, M, .inl (by omega)⟩
        simp [wc_way_1, WK_3, c1])
    n [some (.tup (ps.map dC)), some (dN n), some (dN s), some (dN g), some (.ref h.length), none, none, some (.ref (h.length + 2)), some (.ref (h.length + 3)), some (dN 0), none, none, none, none] (WK h mvs ((List.replicate n .non).set s (.tup [dN s, .non])) [s])
    ⟨[s], [[]], (List.replicate n .non).set s (.tup [dN s, .non]), 0, none, none, none, none, rfl, rfl, BS.start, ⟨by simp, fun x hx nx => by
      rw [getDD_set (by simpa using hs), if_neg fun e => nx (by rw [e]; simp), getD_rep hx], fun i hi => by
      obtain rfl : i = 0 := by simpa using hi
      show ((List.replicate n D.non).set s _).getD s .non = _
      rw [getDD_set (by simpa using hs), if_pos rfl]; rfl⟩, by simp, rfl⟩
  have ng := M.isNon hg
  have lL := B.ll Pm hs
  have cg : ∀ h, ixD C (g : Int) h = .ok (C.getD g .non) h := fun h => ixD_some (getD_some (by rw [M.len]; exact hg))
  have r1 : RepOk 1 (n : Int) := repOk_1 (by omega)
  have pc : ∀ r v' h, putO (some (.lst (List.replicate n D.non))) r (s : Int) v' h = some (h.set r (.lst ((List.replicate n D.non).set s v'))) := fun r v' h => putO_nat (by simpa using hs)
  rw [show dN 0 = D.int 0 from rfl] at w
  have w0 : WK h mvs ((List.replicate n .non).set s (.tup [dN s, .non])) [s] = h ++ [.lst mvs, .lst [.non], .lst ((List.replicate n .non).set s (.tup [dN s, .non])), .lst [dN s]] := rfl
  rw [w0] at w
  by_cases c : g ∈ L
  · obtain ⟨i, hi, ei⟩ := mem_getD (d := 0) c
    have F := B.fst hi
    have sb := steps_back B M (B.lt Pm hs) (fun i hi => by have := (B.fst hi).len (n := n) (fun c' w' => walk_lt' Pm hs c' w'); omega) hi (h := WK h mvs C L) (r := h.length + 2) WK_2
    rw [ei] at F sb
    refine .inr ⟨W.getD i [], ?_, F⟩
    have e : c_way [.tup (ps.map dC), dN n, dN s, dN g] h = gc h (.ok (.tup ((W.getD i []).map stepD)) (WK h mvs C L)) := by
      unfold c_way fsem
      rw [decide_eq_false fun z => z c] at ng
      generalize C.getD g .non = d at cg ng
      generalize (W.getD i []).map stepD = res at sb ⊢
      simp [m_way, mw, r1, pc, w, WK_2, cg, ng, sb]
    rw [e]
    unfold WK
    rw [gc_app (by simp; exact pures_map fun c _ => stepD_pure c)]
  · have hat : at_ = L.length := by exact fin.resolve_right c
    subst hat
    refine .inl ⟨?_, fun c' w' e => c (by rw [← e]; exact B.all w')⟩
    have e : c_way [.tup (ps.map dC), dN n, dN s, dN g] h = gc h (.ok .non (WK h mvs C L)) := by
      unfold c_way fsem
      rw [decide_eq_true c] at ng
      generalize C.getD g .non = d at cg ng
      simp [m_way, mw, r1, pc, w, WK_2, cg, ng]
    rw [e]
    unfold WK
    rw [gc_app rfl]
end Law

set_option maxHeartbeats 1000000
namespace Law
open PySem Rf L2
/-! ### the law's layers: the words one step longer -/
theorem lexLt_lx : ∀ {a b : List Nat}, a.length = b.length → (HT.lexLt (a.map fun x : Nat => (x : Int)) (b.map fun x : Nat => (x : Int)) = true ↔ lx a b)
  | [], [], _ => by simp [HT.lexLt_nil_nil, lx]
  | x :: xs, y :: ys, h => by
    have ih := lexLt_lx (a := xs) (b := ys) (by simpa using h)
    rw [List.map_cons, List.map_cons, HT.lexLt_cons]
    unfold lx
    by_cases e : x = y
    · subst e
      rw [if_pos rfl, ih]
      constructor
      · exact fun q => .inr ⟨rfl, q⟩
      · rintro (q | ⟨_, q⟩)
        · omega
        · exact q
    · rw [if_neg (fun q => e (by omega)), decide_eq_true_eq]
      constructor
      · exact fun q => .inl (by omega)
      · rintro (q | ⟨q, _⟩)
        · omega
        · exact absurd q e
  | [], _ :: _, h => by cases h
  | _ :: _, [], h => by cases h
section
variable {ms : List (List Nat)} {s t n : Nat}
def Cd (ms : List (List Nat)) (s t y : Nat) (c : List Nat) : Prop := (∀ c0, Fst ms s y c0 → t < c0.length) ∧ ∃ w k, c = w ++ [k] ∧ Fst ms s (walk ms s w) w ∧ w.length = t ∧ k < ms.length ∧ walk ms s c = y
theorem Cd.len {y : Nat} {c : List Nat} (h : Cd ms s t y c) : c.length = t + 1 := by
  obtain ⟨_, w, k, rfl, _, l, _⟩ := h
  simp [l]
theorem Cd.of {y : Nat} {c : List Nat} (F : Fst ms s y c) (l : c.length = t + 1) : Cd ms s t y c := by
  refine ⟨fun c0 F0 => by rw [F0.uniq F]; omega, ?_⟩
  rcases List.eq_nil_or_concat c with rfl | ⟨w, k, rfl⟩
  · simp at l
  · rw [List.concat_eq_append] at F l ⊢
    exact ⟨w, k, rfl, F.init, by simpa using l, (Wd.snoc.mp F.wd).2, F.to⟩
theorem Cd.fst {y : Nat} {c : List Nat} (h : Cd ms s t y c) (le : ∀ c', Cd ms s t y c' → wle c c') : Fst ms s y c := by
  have hl := h.len
  obtain ⟨un, w, k, rfl, F, l, hk, e⟩ := h
  have wd : Wd ms (w ++ [k]) := Wd.snoc.mpr ⟨F.wd, hk⟩
  obtain ⟨c0, F0⟩ := Fst.ex wd
  rw [e] at F0
  have h1 := F0.le _ wd e
  have h2 := wle_len h1
  have h3 := un _ F0
  have := le c0 (Cd.of F0 (by omega))
  rw [wle_anti this h1]
  exact F0
/-- the table behind t turns -/
structure FR (ms : List (List Nat)) (s n t : Nat) (F : List D) : Prop where
  len : F.length = n
  at_ : ∀ y, y < n → (F.getD y .non = .non ∧ ∀ c, Fst ms s y c → t < c.length) ∨ ∃ c, F.getD y .non = dC c ∧ Fst ms s y c ∧ c.length ≤ t
def Ly (ms : List (List Nat)) (s n t : Nat) (l : List Nat) : Prop := l.Nodup ∧ ∀ y, y ∈ l ↔ ∃ c, Fst ms s y c ∧ c.length = t
theorem FR.pure {F : List D} (R : FR ms s n t F) : pures F = true := pures_iff.mpr fun d hd => by
  obtain ⟨x, hx, rfl⟩ := List.getElem_of_mem hd
  rw [← getD_get (d := D.non)]
  rcases R.at_ x (by rw [← R.len]; exact hx) with ⟨e, _⟩ | ⟨c, e, _⟩
  · rw [e]; rfl
  · rw [e]; simp [dC]
/-- the best of the candidates so far -/
structure BT (ms : List (List Nat)) (n : Nat) (ks : List (Nat × List Nat)) (Q : Nat → List Nat → Prop) : Prop where
  nd : (ks.map (·.1)).Nodup
  lt : ∀ y ∈ ks.map (·.1), y < n
  val : ∀ y, (lk ks y = none ∧ ∀ c, ¬ Q y c) ∨ ∃ c, lk ks y = some c ∧ Q y c ∧ ∀ c', Q y c' → wle c c'
theorem BT.len {ks : List (Nat × List Nat)} {Q : Nat → List Nat → Prop} (B : BT ms n ks Q) : ks.length ≤ n := by
  have := sub_length B.nd (l2 := List.range n) fun x hx => by rw [List.mem_range]; exact B.lt x hx
  simpa using this
theorem BT.congr {ks : List (Nat × List Nat)} {Q Q' : Nat → List Nat → Prop} (B : BT ms n ks Q) (h : ∀ y c, Q y c ↔ Q' y c) : BT ms n ks Q' := by
  have : Q = Q' := funext fun y => funext fun c => propext (h y c)
  rw [← this]; exact B
theorem BT.put {ks : List (Nat × List Nat)} {Q Q' : Nat → List Nat → Prop} (B : BT ms n ks Q) {y : Nat} {c : List Nat} (hy : y < n) (h : ∀ y' c', Q' y' c' ↔ Q y' c' ∨ (y' = y ∧ c' = c)) (w : lk ks y = none ∨ ∃ c0, lk ks y = some c0 ∧ wlt c c0) : BT ms n (stK ks y c) Q' := by
  refine ⟨keys_nodup B.nd, fun z hz => ?_, fun z => ?_⟩
  · rw [keys_stK] at hz
    split at hz
    · exact B.lt z hz
    · rcases List.mem_append.mp hz with hz | hz
      · exact B.lt z hz
      · rw [List.mem_singleton] at hz; subst hz; exact hy
  · rw [lk_stK]
    by_cases e : z = y
    · subst e
      rw [if_pos rfl]
      refine .inr ⟨c, rfl, (h _ _).mpr (.inr ⟨rfl, rfl⟩), fun c' hc' => ?_⟩
      rcases (h _ _).mp hc' with q | ⟨_, rfl⟩
      · rcases B.val z with ⟨_, no⟩ | ⟨c1, e1, _, le⟩
        · exact absurd q (no c')
        · rcases w with w | ⟨c0, w, l⟩
          · rw [w] at e1; cases e1
          · rw [w] at e1; cases e1
            exact .inr (wlt_le l (le c' q))
      · exact .inl rfl
    · rw [if_neg e]
      rcases B.val z with ⟨e1, no⟩ | ⟨c1, e1, q, le⟩
      · refine .inl ⟨e1, fun c' hc' => ?_⟩
        rcases (h _ _).mp hc' with q | ⟨q, _⟩
        · exact no c' q
        · exact e q
      · refine .inr ⟨c1, e1, (h _ _).mpr (.inl q), fun c' hc' => ?_⟩
        rcases (h _ _).mp hc' with q | ⟨q, _⟩
        · exact le c' q
        · exact absurd q e
theorem BT.keep {ks : List (Nat × List Nat)} {Q Q' : Nat → List Nat → Prop} (B : BT ms n ks Q) {y : Nat} {c c0 : List Nat} (h : ∀ y' c', Q' y' c' ↔ Q y' c' ∨ (y' = y ∧ c' = c)) (w : lk ks y = some c0) (l : wle c0 c) : BT ms n ks Q' := by
  refine ⟨B.nd, B.lt, fun z => ?_⟩
  rcases B.val z with ⟨e1, no⟩ | ⟨c1, e1, q, le⟩
  · refine .inl ⟨e1, fun c' hc' => ?_⟩
    rcases (h _ _).mp hc' with q | ⟨q, _⟩
    · exact no c' q
    · subst q; rw [w] at e1; cases e1
  · refine .inr ⟨c1, e1, (h _ _).mpr (.inl q), fun c' hc' => ?_⟩
    rcases (h _ _).mp hc' with q | ⟨q, rfl⟩
    · exact le c' q
    · subst q; rw [w] at e1; cases e1; exact l
/-- all candidates seen: the next layer -/
theorem BT.layer {ks : List (Nat × List Nat)} (B : BT ms n ks (Cd ms s t)) {y : Nat} {c : List Nat} : lk ks y = some c ↔ Fst ms s y c ∧ c.length = t + 1 := by
  constructor
  · intro e
    rcases B.val y with ⟨e1, _⟩ | ⟨c1, e1, q, le⟩
    · rw [e1] at e; cases e
    · rw [e1] at e; cases e
      exact ⟨q.fst le, q.len⟩
  · rintro ⟨F, l⟩
    have q := Cd.of F l
    rcases B.val y with ⟨e1, no⟩ | ⟨c1, e1, q1, le⟩
    · exact absurd q (no c)
    · rw [e1, (q1.fst le).uniq F]
theorem FR.next {F F' : List D} {ks : List (Nat × List Nat)} (R : FR ms s n t F) (B : BT ms n ks (Cd ms s t)) (l : F'.length = n) (h1 : ∀ y c, lk ks y = some c → F'.getD y .non = dC c) (h2 : ∀ y, lk ks y = none → F'.getD y .non = F.getD y .non) : FR ms s n (t + 1) F' := by
  refine ⟨l, fun y hy => ?_⟩
  cases e : lk ks y with
  | some c =>
    obtain ⟨F0, l0⟩ := B.layer.mp e
    exact .inr ⟨c, h1 y c e, F0, by omega⟩
  | none =>
    rw [h2 y e]
    rcases R.at_ y hy with ⟨e1, no⟩ | ⟨c, e1, F0, l0⟩
    · refine .inl ⟨e1, fun c F0 => ?_⟩
      have := no c F0
      refine Nat.lt_of_le_of_ne (by omega) fun q => ?_
      have := B.layer.mpr ⟨F0, q.symm⟩
      rw [e] at this; cases this
    · exact .inr ⟨c, e1, F0, by omega⟩
theorem Ly.next {l : List Nat} {ks : List (Nat × List Nat)} (B : BT ms n ks (Cd ms s t)) (p : l.Perm (ks.map (·.1))) : Ly ms s n (t + 1) l := by
  refine ⟨p.nodup_iff.mpr B.nd, fun y => ?_⟩
  rw [p.mem_iff]
  constructor
  · intro h
    cases e : lk ks y with
    | none => exact absurd h (lk_none.mp e)
    | some c => exact ⟨c, B.layer.mp e⟩
  · rintro ⟨c, h⟩
    exact lk_some_mem (B.layer.mpr h)
end
end Law

set_option maxHeartbeats 1000000
namespace Law
open PySem Rf L2
/-! ### the law's moves: a list of lists -/
def LM (h : AH) (rs : List Nat) (g : AH) : AH := h ++ (.lst (rs.map D.ref) :: g)
section
variable {h g : AH} {rs : List Nat}
theorem LM_0 : (LM h rs g)[h.length]? = some (.lst (rs.map D.ref)) := by unfold LM; rw [app_get0]; rfl
theorem LM_app {x : AH} : LM h rs g ++ x = LM h rs (g ++ x) := by unfold LM; simp
theorem LM_s {q : Nat} : (LM h rs g).set h.length (.lst (rs.map D.ref ++ [D.ref q])) = LM h (rs ++ [q]) g := by
  have := app_set (h := h) (g := (.lst (rs.map D.ref) :: g : AH)) (i := 0) (o := .lst (rs.map D.ref ++ [D.ref q])) rfl
  unfold LM
  rw [Nat.add_zero] at this
  rw [this]; simp
theorem LM_len : (LM h rs g).length = h.length + 1 + g.length := by unfold LM; simp; omega
theorem LM_get {i : Nat} : (LM h rs g)[h.length + 1 + i]? = g[i]? := by
  unfold LM
  rw [show h.length + 1 + i = h.length + (1 + i) by omega, app_get, show 1 + i = i + 1 by omega]; simp
end
structure MV (n : Nat) (h : AH) (ms : List (List Nat)) (rs : List Nat) (g : AH) : Prop where
  len : rs.length = ms.length
  mkk : ∀ k, k < ms.length → ∃ i, rs.getD k 0 = h.length + 1 + i ∧ g[i]? = some (.lst ((ms.getD k []).map dN))
theorem MV.app {n : Nat} {h g x : AH} {ms : List (List Nat)} {rs : List Nat} (M : MV n h ms rs g) : MV n h ms rs (g ++ x) :=
  ⟨M.len, fun k hk => by
    obtain ⟨i, e, gi⟩ := M.mkk k hk
    exact ⟨i, e, app_get_l gi⟩⟩
theorem MV.push {n i : Nat} {h g : AH} {ms : List (List Nat)} {rs m : List Nat} (M : MV n h ms rs g) (e : g[i]? = some (.lst (m.map dN))) : MV n h (ms ++ [m]) (rs ++ [h.length + 1 + i]) g :=
  ⟨by simp [M.len], fun k hk => by
    have l := M.len
    rw [List.length_append] at hk
    by_cases q : k = ms.length
    · subst q
      rw [getD_app, if_pos l.symm, getDW_app, if_pos rfl]
      exact ⟨i, rfl, e⟩
    · have hk' : k < ms.length := by simp at hk; omega
      rw [getD_app, if_neg (by omega), getDW_app, if_neg q]
      exact M.mkk k hk'⟩
theorem lmoves_spec {ps : List (List Nat)} {n : Nat} (P : Ps n ps) (hn : n ≤ 1000) (hp : ps.length ≤ 1000) {h : AH} :
    ∃ rs g, c__law_moves [.tup (ps.map dC), dN n] h = .ok (.ref h.length) (LM h rs g) ∧ MV n h (msOf n ps) rs g := by
  obtain ⟨e', h', w, x3, x4, x5, rs, g, rfl, rfl, M⟩ := loopM (φ := dC) (k := 3) (b := lb__law_moves_1)
    (fun i e h' => ∃ x3 x4 x5 rs g, e = [some (.tup (ps.map dC)), some (dN n), some (.ref h.length), x3, x4, x5] ∧ h' = LM h rs g ∧ MV n h (msOf n (ps.take i)) rs g)
    ps (e := [some (.tup (ps.map dC)), some (dN n), some (.ref h.length), none, none, none]) (h := h ++ [.lst []])
    ⟨none, none, none, [], [], rfl, rfl, rfl, fun k hk => absurd hk (by simp [msOf])⟩ (by
      rintro i p e h' hpi ⟨x3, x4, y5, rs, g, rfl, rfl, M⟩
      have hpm : p ∈ ps := List.mem_of_getElem? hpi
      have Pp := P p hpm
      have lp := Pp.len
      have hil : i < ps.length := (List.getElem?_eq_some_iff.mp hpi).1
      have tk : ps.take (i + 1) = ps.take i ++ [p] := by rw [List.take_add_one, hpi]; rfl
      -- back
      obtain ⟨e', h', w, x5, B, rfl, rfl, lB, iB⟩ := loopN (k := 5) (b := lb__law_moves_2)
        (fun k e h' => ∃ x5 B, e = [some (.tup (ps.map dC)), some (dN n), some (.ref h.length), some (dC p), some (.ref (h.length + 1 + (g.length + 1))), x5] ∧ h' = LM h rs (g ++ [.lst [.int 0], .lst (B.map dN)]) ∧ B.length = n ∧ ∀ k', k' < k → B.getD (p.getD k' 0) 0 = k')
        n (e := [some (.tup (ps.map dC)), some (dN n), some (.ref h.length), some (dC p), some (.ref (h.length + 1 + (g.length + 1))), y5]) (h := LM h rs (g ++ [.lst [.int 0], .lst ((List.replicate n 0).map dN)]))
        ⟨y5, List.replicate n 0, rfl, rfl, by simp, fun k' hk' => absurd hk' (by omega)⟩ (by
          rintro k e h' hk ⟨x5, B, rfl, rfl, lB, iB⟩
          have hq := Pp.lt k hk
          have x1 : ∀ h, ixD (p.map dN) (k : Int) h = .ok (dN (p.getD k 0)) h := fun h => ixD_N (by omega)
          have gb : (LM h rs (g ++ [.lst [.int 0], .lst (B.map dN)]))[h.length + 1 + (g.length + 1)]? = some (.lst (B.map dN)) := by rw [LM_get, app_get]; rfl
          have sb : ∀ (B' : List Nat), (LM h rs (g ++ [.lst [.int 0], .lst (B.map dN)])).set (h.length + 1 + (g.length + 1)) (.lst (B'.map dN)) = LM h rs (g ++ [.lst [.int 0], .lst (B'.map dN)]) := fun B' => by
            unfold LM
            rw [show h.length + 1 + (g.length + 1) = h.length + (1 + (g.length + 1)) by omega, app_set rfl, show 1 + (g.length + 1) = (g.length + 1) + 1 by omega, List.set_cons_succ, app_set rfl]; rfl
          have pb : ∀ r h, putO (some (.lst (B.map dN))) r ((p.getD k 0 : Nat) : Int) (dN k) h = some (h.set r (.lst ((B.set (p.getD k 0) k).map dN))) := fun r h => putO_N (by omega)
          refine ⟨_, _, ?_, some (dN k), B.set (p.getD k 0) k, rfl, rfl, by simpa using lB, fun k' hk' => ?_⟩
          · generalize p.getD k 0 = q at x1 pb
            simp only [dN] at x1 pb
            rw [← sb (B.set q k)]
            simp [lb__law_moves_2, dC, x1, gb, pb]
          · rw [getD_set (by omega)]
            by_cases e : k' = k
            · subst e; rw [if_pos rfl]
            · rw [if_neg fun e2 => e (Pp.inj _ _ (by omega) hk e2.symm)]
              exact iB k' (by omega))
      have eB : invP n p = B := invP_eq Pp ⟨lB, iB⟩
      have r1 : RepOk 1 (n : Int) := repOk_1 (by omega)
      have r2 : RgB (n : Int) := rgB_nat (by omega)
      have em : msOf n (ps.take (i + 1)) = (msOf n (ps.take i) ++ [p]) ++ [B] := by
        rw [tk, msOf_app, ← eB]; unfold msOf; simp
      have lm : rs.length ≤ 2000 := by rw [M.len, msOf_len, List.length_take]; omega
      refine ⟨[some (.tup (ps.map dC)), some (dN n), some (.ref h.length), some (dC p), some (.ref (h.length + 1 + (g.length + 1))), x5], LM h ((rs ++ [h.length + 1 + (g.length + 2)]) ++ [h.length + 1 + (g.length + 1)]) (g ++ [.lst [.int 0], .lst (B.map dN), .lst (p.map dN)]), ?_, some (dC p), _, x5, _, _, rfl, rfl, ?_⟩
      · have ap : ∀ (rs : List Nat), rs.length ≤ 3000 → ∀ r v h, appO (some (.lst (rs.map D.ref))) r v h = .ok .non (h.set r (.lst (rs.map D.ref ++ [v]))) := fun rs hl r v h => appO_lst (by rw [List.length_map, sizeLine_eq]; omega)
        have s1 : sSet 4 (eOp oMul (eLst (lCons (eC (.int 0)) lNil)) (eVar 1)) [some (.tup (ps.map dC)), some (dN n), some (.ref h.length), some (dC p), x4, y5] (LM h rs g) = .nx [some (.tup (ps.map dC)), some (dN n), some (.ref h.length), some (dC p), some (.ref (h.length + 1 + (g.length + 1))), y5] (LM h rs (g ++ [.lst [.int 0], .lst ((List.replicate n 0).map dN)])) := by
          have a1 : (LM h rs g ++ [AO.lst [.int 0]])[h.length + 1 + g.length]? = some (.lst [.int 0]) := by rw [LM_app, LM_get]; simp
          have a2 : (LM h rs g ++ [AO.lst [.int 0]]).length = h.length + 1 + (g.length + 1) := by rw [LM_app, LM_len]; simp
          have a3 : (LM h rs g ++ [AO.lst [.int 0]]) ++ [.lst ((List.replicate n 0).map dN)] = LM h rs (g ++ [.lst [.int 0], .lst ((List.replicate n 0).map dN)]) := by rw [LM_app, LM_app]; simp
          have a4 := LM_len (h := h) (rs := rs) (g := g)
          rw [← a3]
          generalize LM h rs g = H at a1 a2 a4
          simp [a4, a1, r1]
          omega
        have s3 : sExpr (eMeth "list" mAppend (eVar 2) (lCons (eCall cList (lCons (eVar 3) lNil)) lNil)) [some (.tup (ps.map dC)), some (dN n), some (.ref h.length), some (dC p), some (.ref (h.length + 1 + (g.length + 1))), x5] (LM h rs (g ++ [.lst [.int 0], .lst (B.map dN)])) = .nx [some (.tup (ps.map dC)), some (dN n), some (.ref h.length), some (dC p), some (.ref (h.length + 1 + (g.length + 1))), x5] (LM h (rs ++ [h.length + 1 + (g.length + 2)]) (g ++ [.lst [.int 0], .lst (B.map dN), .lst (p.map dN)])) := by
          have hg : g ++ [.lst [.int 0], .lst (B.map dN), .lst (p.map dN)] = (g ++ [.lst [.int 0], .lst (B.map dN)]) ++ [.lst (p.map dN)] := by simp
          have hR : LM h (rs ++ [h.length + 1 + (g.length + 2)]) (g ++ [AO.lst [.int 0], AO.lst (B.map dN), AO.lst (p.map dN)]) = (LM h rs (g ++ [AO.lst [.int 0], AO.lst (B.map dN)]) ++ [AO.lst (p.map dN)]).set h.length (AO.lst (rs.map D.ref ++ [D.ref (h.length + 1 + (g.length + 2))])) := by rw [LM_app, LM_s, hg]
          rw [hR]
          clear hR hg
          have hl : (LM h rs (g ++ [.lst [.int 0], .lst (B.map dN)])).length = h.length + 1 + (g.length + 2) := by rw [LM_len]; simp
          have a0 : (LM h rs (g ++ [.lst [.int 0], .lst (B.map dN)]))[h.length]? = some (.lst (rs.map D.ref)) := LM_0
          have a1 : (LM h rs (g ++ [.lst [.int 0], .lst (B.map dN)]) ++ [AO.lst (p.map dN)])[h.length]? = some (.lst (rs.map D.ref)) := app_get_l LM_0
          generalize LM h rs (g ++ [.lst [.int 0], .lst (B.map dN)]) = H at hl a0 a1
          simp [dC, a0, a1, hl, ap rs (by omega)]
        have s4 : sExpr (eMeth "list" mAppend (eVar 2) (lCons (eVar 4) lNil)) [some (.tup (ps.map dC)), some (dN n), some (.ref h.length), some (dC p), some (.ref (h.length + 1 + (g.length + 1))), x5] (LM h (rs ++ [h.length + 1 + (g.length + 2)]) (g ++ [.lst [.int 0], .lst (B.map dN), .lst (p.map dN)])) = .nx [some (.tup (ps.map dC)), some (dN n), some (.ref h.length), some (dC p), some (.ref (h.length + 1 + (g.length + 1))), x5] (LM h ((rs ++ [h.length + 1 + (g.length + 2)]) ++ [h.length + 1 + (g.length + 1)]) (g ++ [.lst [.int 0], .lst (B.map dN), .lst (p.map dN)])) := by
          rw [← LM_s (rs := rs ++ [h.length + 1 + (g.length + 2)])]
          have a0 := LM_0 (h := h) (rs := rs ++ [h.length + 1 + (g.length + 2)]) (g := g ++ [.lst [.int 0], .lst (B.map dN), .lst (p.map dN)])
          generalize LM h (rs ++ [h.length + 1 + (g.length + 2)]) (g ++ [.lst [.int 0], .lst (B.map dN), .lst (p.map dN)]) = H at a0
          have ap1 := ap (rs ++ [h.length + 1 + (g.length + 2)]) (by simp; omega)
          generalize (rs ++ [h.length + 1 + (g.length + 2)]) = rs1 at a0 ap1
          simp [a0, ap1]
        have s2 : sFor (iRange1 (lCons (eVar 1) lNil)) (gVar 5) lb__law_moves_2 [some (.tup (ps.map dC)), some (dN n), some (.ref h.length), some (dC p), some (.ref (h.length + 1 + (g.length + 1))), y5] (LM h rs (g ++ [.lst [.int 0], .lst ((List.replicate n 0).map dN)])) = sLoop (gVar 5) lb__law_moves_2 ((List.range n).map dN) [some (.tup (ps.map dC)), some (dN n), some (.ref h.length), some (dC p), some (.ref (h.length + 1 + (g.length + 1))), y5] (LM h rs (g ++ [.lst [.int 0], .lst ((List.replicate n 0).map dN)])) := by
          generalize LM h rs (g ++ [.lst [.int 0], .lst ((List.replicate n 0).map dN)]) = H
          simp [r2, rg_zero]
        unfold lb__law_moves_1
        rw [show List.set [some (.tup (ps.map dC)), some (dN n), some (.ref h.length), x3, x4, y5] 3 (some (dC p)) = [some (.tup (ps.map dC)), some (dN n), some (.ref h.length), some (dC p), x4, y5] from rfl]
        simp only [sSeq_, s1, s2, w, s3, s4, sthen_nx]
      · rw [em]
        have M2 : MV n h (msOf n (ps.take i)) rs (g ++ [.lst [.int 0], .lst (B.map dN), .lst (p.map dN)]) := M.app
        exact (M2.push (i := g.length + 2) (m := p) (by rw [app_get]; rfl)).push (i := g.length + 1) (m := B) (by rw [app_get]; rfl))
  rw [List.take_length] at M
  have e : c__law_moves [.tup (ps.map dC), dN n] h = gc h (.ok (.ref h.length) (LM h rs g)) := by
    unfold c__law_moves fsem
    simp [m__law_moves, w]
  cases rs with
  | nil =>
    refine ⟨[], [], ?_, M.len, fun k hk => absurd hk (by rw [← M.len]; simp)⟩
    rw [e]
    unfold LM
    have := gc_new (h := h) (g := (.lst (([] : List Nat).map D.ref) :: g : AH)) (i := 0) (o := .lst []) rfl rfl
    exact this
  | cons r rs =>
    refine ⟨r :: rs, g, ?_, M⟩
    rw [e, gc_deep LM_0 (by simp [D.pure])]
end Law

set_option maxHeartbeats 1000000
namespace Law
open PySem Rf L2
/-- the heap while the law's layers are made -/
structure FH (h H : AH) (ms : List (List Nat)) (rs : List Nat) (f : Nat) (F : List D) : Prop where
  pre : ∃ g, H = h ++ g
  hf : h.length < f
  fd : H[f]? = some (.lst F)
  mv : H[h.length]? = some (.lst (rs.map D.ref))
  len : rs.length = ms.length
  mkk : ∀ k, k < ms.length → rs.getD k 0 ≠ f ∧ H[rs.getD k 0]? = some (.lst ((ms.getD k []).map dN))
section
variable {h H x : AH} {ms : List (List Nat)} {rs : List Nat} {f : Nat} {F F' : List D}
theorem FH.app (A : FH h H ms rs f F) : FH h (H ++ x) ms rs f F := by
  obtain ⟨g, rfl⟩ := A.pre
  exact ⟨⟨g ++ x, by simp⟩, A.hf, app_get_l A.fd, app_get_l A.mv, A.len, fun k hk => ⟨(A.mkk k hk).1, app_get_l (A.mkk k hk).2⟩⟩
theorem FH.set (A : FH h H ms rs f F) : FH h (H.set f (.lst F')) ms rs f F' := by
  obtain ⟨g, rfl⟩ := A.pre
  have hf := A.hf
  refine ⟨⟨g.set (f - h.length) (.lst F'), by rw [show f = h.length + (f - h.length) by omega, app_set rfl]; simp⟩, A.hf, get_set A.fd _, ?_, A.len, fun k hk => ⟨(A.mkk k hk).1, ?_⟩⟩
  · rw [List.getElem?_set_ne (by omega)]; exact A.mv
  · rw [List.getElem?_set_ne (fun e => (A.mkk k hk).1 e.symm)]; exact (A.mkk k hk).2
theorem FH.lt (A : FH h H ms rs f F) : f < H.length := (List.getElem?_eq_some_iff.mp A.fd).1
end
/-- the candidates of the pairs (spot, code) before (i, j) -/
def Qc (ms : List (List Nat)) (s t : Nat) (l : List Nat) (i j y : Nat) (c : List Nat) : Prop :=
  (∀ c0, Fst ms s y c0 → t < c0.length) ∧ ∃ a k w, (a < i ∨ (a = i ∧ k < j)) ∧ a < l.length ∧ c = w ++ [k] ∧ Fst ms s (l.getD a 0) w ∧ k < ms.length ∧ mv ms k (l.getD a 0) = y
theorem Qc.none {ms : List (List Nat)} {s t y : Nat} {l c : List Nat} : ¬ Qc ms s t l 0 0 y c := by
  rintro ⟨_, a, k, w, h, _⟩
  omega
theorem Qc.row {ms : List (List Nat)} {s t i y : Nat} {l c : List Nat} : Qc ms s t l i ms.length y c ↔ Qc ms s t l (i + 1) 0 y c := by
  constructor
  · rintro ⟨u, a, k, w, h, r⟩
    exact ⟨u, a, k, w, by omega, r⟩
  · rintro ⟨u, a, k, w, h, r⟩
    have := r.2.2.2.1
    exact ⟨u, a, k, w, by omega, r⟩
theorem Qc.all {ms : List (List Nat)} {s n t y : Nat} {l c : List Nat} (Y : Ly ms s n t l) : Qc ms s t l l.length 0 y c ↔ Cd ms s t y c := by
  constructor
  · rintro ⟨u, a, k, w, h, al, rfl, F, hk, e⟩
    obtain ⟨w', F', l'⟩ := (Y.2 _).mp (getD_mem (d := 0) al)
    have := F.uniq F'
    subst this
    exact ⟨u, w, k, rfl, by rw [F.to]; exact F, l', hk, by rw [walk_snoc, F.to]; exact e⟩
  · rintro ⟨u, w, k, rfl, F, l', hk, e⟩
    obtain ⟨a, al, ea⟩ := mem_getD (d := 0) ((Y.2 _).mpr ⟨w, F, l'⟩)
    refine ⟨u, a, k, w, .inl al, al, rfl, by rw [ea]; exact F, hk, ?_⟩
    rw [ea, ← walk_snoc]; exact e
theorem Qc.step {ms : List (List Nat)} {s t i j y' : Nat} {l c' w : List Nat} (hi : i < l.length) (hj : j < ms.length) (F : Fst ms s (l.getD i 0) w) (un : ∀ c0, Fst ms s (mv ms j (l.getD i 0)) c0 → t < c0.length) :
    Qc ms s t l i (j + 1) y' c' ↔ Qc ms s t l i j y' c' ∨ (y' = mv ms j (l.getD i 0) ∧ c' = w ++ [j]) := by
  constructor
  · rintro ⟨u, a, k, w', h, al, rfl, F', hk, e⟩
    by_cases q : a = i ∧ k = j
    · obtain ⟨rfl, rfl⟩ := q
      exact .inr ⟨e.symm, by rw [F'.uniq F]⟩
    · exact .inl ⟨u, a, k, w', by omega, al, rfl, F', hk, e⟩
  · rintro (⟨u, a, k, w', h, r⟩ | ⟨rfl, rfl⟩)
    · exact ⟨u, a, k, w', by omega, r⟩
    · exact ⟨un, i, j, w, .inr ⟨rfl, by omega⟩, hi, rfl, F, hj, rfl⟩
theorem Qc.skip {ms : List (List Nat)} {s t i j y' : Nat} {l c' : List Nat} (un : ¬ ∀ c0, Fst ms s (mv ms j (l.getD i 0)) c0 → t < c0.length) : Qc ms s t l i (j + 1) y' c' ↔ Qc ms s t l i j y' c' := by
  constructor
  · rintro ⟨u, a, k, w', h, al, rfl, F', hk, e⟩
    by_cases q : a = i ∧ k = j
    · obtain ⟨rfl, rfl⟩ := q
      rw [← e] at u
      exact absurd u un
    · exact ⟨u, a, k, w', by omega, al, rfl, F', hk, e⟩
  · rintro ⟨u, a, k, w', h, r⟩
    exact ⟨u, a, k, w', by omega, r⟩
abbrev env9 (ps : List (List Nat)) (n s : Nat) (h : AH) (f : Nat) (a6 : Option D) (la b : Nat) (x8 x9 x10 x11 : Option D) : AE := [some (.tup (ps.map dC)), some (dN n), some (dN s), some (.ref h.length), some (.ref f), some (.ref la), a6, some (.ref b), x8, x9, x10, x11]
/-- one pair looked at -/
theorem pair_step {ps : List (List Nat)} {n s t i j : Nat} {ms : List (List Nat)} (Pm : ∀ m ∈ ms, IsP n m) (hs : s < n) (hn : n ≤ 60) (hM : ms.length ≤ 1000) {h H : AH} {rs l : List Nat} {f la : Nat} {F : List D} (A : FH h H ms rs f F) (R : FR ms s n t F) (Y : Ly ms s n t l)
    (hi : i < l.length) (hj : j < ms.length) {ks : List (Nat × List Nat)} (B : BT ms n ks (Qc ms s t l i j)) {a6 x9 x11 : Option D} :
    ∃ ks' x9' x11', lb__law_firsts_3 (env9 ps n s h f a6 la H.length (some (dN (l.getD i 0))) x9 (some (dN j)) x11) (H ++ [.dK (encK dC ks)]) = .nx (env9 ps n s h f a6 la H.length (some (dN (l.getD i 0))) x9' (some (dN j)) x11') (H ++ [.dK (encK dC ks')]) ∧ BT ms n ks' (Qc ms s t l i (j + 1)) := by
  obtain ⟨w, Fw, lw⟩ := (Y.2 _).mp (getD_mem (d := 0) hi)
  have hsp : l.getD i 0 < n := by rw [← Fw.to]; exact walk_lt' Pm hs _ Fw.wd
  have Pj := Pm _ (getD_mem (d := []) hj)
  have hy : mv ms j (l.getD i 0) < n := Pj.lt _ hsp
  have hwl := Fw.len (n := n) fun c' w' => walk_lt' Pm hs c' w'
  have lF := R.len
  have fs : F.getD (l.getD i 0) .non = dC w := by
    rcases R.at_ _ hsp with ⟨_, no⟩ | ⟨c, e, Fc, _⟩
    · have := no _ Fw; omega
    · rw [e, Fc.uniq Fw]
  have a0 : (H ++ [AO.dK (encK dC ks)])[h.length]? = some (.lst (rs.map D.ref)) := app_get_l A.mv
  have a1 : (H ++ [AO.dK (encK dC ks)])[rs.getD j 0]? = some (.lst ((ms.getD j []).map dN)) := app_get_l (A.mkk j hj).2
  have a2 : (H ++ [AO.dK (encK dC ks)])[f]? = some (.lst F) := app_get_l A.fd
  have a3 : (H ++ [AO.dK (encK dC ks)])[H.length]? = some (.dK (encK dC ks)) := by simp
  have ap : ∀ ks', (H ++ [AO.dK (encK dC ks)]).set H.length (.dK (encK dC ks')) = H ++ [AO.dK (encK dC ks')] := fun ks' => by
    have := app_set (h := H) (g := [AO.dK (encK dC ks)]) (i := 0) (o := .dK (encK dC ks')) rfl
    rw [Nat.add_zero] at this
    rw [this]; rfl
  have x1 : ∀ h, ixD (rs.map D.ref) (j : Int) h = .ok (.ref (rs.getD j 0)) h := fun h => ixD_map (getD_some (by rw [A.len]; exact hj))
  have x2 : ∀ h, ixD ((ms.getD j []).map dN) ((l.getD i 0 : Nat) : Int) h = .ok (dN (mv ms j (l.getD i 0))) h := fun h => ixD_N (by rw [Pj.len]; exact hsp)
  have x3 : ∀ h, ixD F ((l.getD i 0 : Nat) : Int) h = .ok (dC w) h := fun h => by rw [← fs]; exact ixD_some (getD_some (by omega))
  have x4 : ∀ h, ixD F ((mv ms j (l.getD i 0) : Nat) : Int) h = .ok (F.getD (mv ms j (l.getD i 0)) .non) h := fun h => ixD_some (getD_some (by omega))
  have fit : Fits (w.length + 1) := fits (by omega)
  have dc : dC (w ++ [j]) = .tup (w.map dN ++ [dN j]) := by unfold dC; simp
  have nin : ∀ y : Nat, oDNotIn (.int (y : Int)) (.ref H.length) (H ++ [AO.dK (encK dC ks)]) = .ok (.bl (!((lk ks y).map dC).isSome)) (H ++ [AO.dK (encK dC ks)]) := fun y => by rw [oDNotIn_ref a3, valD_enc]
  have qs := fun y' c' => Qc.step (y' := y') (c' := c') hi hj Fw (t := t)
  have qk := fun y' c' => Qc.skip (s := s) (t := t) (i := i) (j := j) (y' := y') (l := l) (c' := c') (ms := ms)
  have lks := B.len
  have put1 : ∀ y : Nat, ∀ c, putD (.ref H.length) (.int (y : Int)) (dC c) (H ++ [AO.dK (encK dC ks)]) = some (H ++ [AO.dK (encK dC (stK ks y c))]) := fun y c => by
    rw [putD_ref a3 (by rw [encK_len, sizeLine_eq]; omega), setD_enc, ap]
  have bl := fun c0 (hq : lk ks (mv ms j (l.getD i 0)) = some c0) => (show c0.length = t + 1 by
    rcases B.val (mv ms j (l.getD i 0)) with ⟨e1, _⟩ | ⟨c1, e1, q1, _⟩
    · rw [hq] at e1; cases e1
    · rw [hq] at e1; cases e1
      obtain ⟨_, a, k, w1, _, al, rfl, F1, _⟩ := q1
      obtain ⟨w2, F2, l2⟩ := (Y.2 _).mp (getD_mem (d := 0) al)
      rw [F1.uniq F2]; simp [l2])
  rcases R.at_ _ hy with ⟨un, no⟩ | ⟨c0, un, Fc, lc⟩
  · have qs' := fun y' c' => qs y' c' no
    rw [un] at x4
    have yl := bl
    generalize mv ms j (l.getD i 0) = y at *
    generalize l.getD i 0 = sp at *
    generalize rs.getD j 0 = rj at *
    generalize ms.getD j [] = m at *
    simp only [dN] at x1 x2 x3 x4
    cases hlk : lk ks y with
    | none =>
      have ni := nin y
      rw [hlk] at ni
      have pd := put1 y (w ++ [j])
      rw [dc] at pd
      simp only [dN] at pd
      refine ⟨stK ks y (w ++ [j]), some (dN y), some (dC (w ++ [j])), ?_, B.put hy qs' (.inl hlk)⟩
      rw [dc]
      generalize H ++ [AO.dK (encK dC ks)] = HH at *
      simp [lb__law_firsts_3, env9, a0, a1, a2, x1, x2, x3, x4, dC, fit, ni, D.isNon, pd]
    | some c0 =>
      have ni := nin y
      rw [hlk] at ni
      have pd := put1 y (w ++ [j])
      rw [dc] at pd
      have dg : oDGet (.ref H.length) (.int (y : Int)) (H ++ [AO.dK (encK dC ks)]) = .ok (dC c0) (H ++ [AO.dK (encK dC ks)]) := oDGet_ref a3 (by rw [valD_enc, hlk]; rfl)
      have c0l := yl c0 hlk
      have ll := lexLt_lx (a := w ++ [j]) (b := c0) (by simp; omega)
      have ol := oLt_tupN (w ++ [j]) c0 (H ++ [AO.dK (encK dC ks)])
      rw [List.map_append] at ol
      simp only [List.map_cons, List.map_nil, dN] at ol pd
      have ew : wle c0 (w ++ [j]) ∨ wlt (w ++ [j]) c0 := by
        rcases lx_tot (a := w ++ [j]) (b := c0) (by simp; omega) with e | e | e
        · exact .inl (.inl e.symm)
        · exact .inr (.inr ⟨by simp; omega, e⟩)
        · exact .inl (.inr (.inr ⟨by simp; omega, e⟩))
      cases hx : HT.lexLt ((w ++ [j]).map fun x : Nat => (x : Int)) (c0.map fun x : Nat => (x : Int)) with
      | true =>
        rw [hx] at ol
        refine ⟨stK ks y (w ++ [j]), some (dN y), some (dC (w ++ [j])), ?_, B.put hy qs' (.inr ⟨c0, hlk, .inr ⟨by simp; omega, ll.mp hx⟩⟩)⟩
        rw [dc]
        generalize H ++ [AO.dK (encK dC ks)] = HH at *
        unfold dC at dg
        simp [lb__law_firsts_3, env9, a0, a1, a2, x1, x2, x3, x4, dC, fit, ni, D.isNon, pd, dg, ol]
      | false =>
        rw [hx] at ol
        have nl : ¬ lx (w ++ [j]) c0 := fun z => by rw [ll.mpr z] at hx; cases hx
        refine ⟨ks, some (dN y), some (dC (w ++ [j])), ?_, B.keep qs' hlk (ew.resolve_right fun z => ?_)⟩
        · rw [dc]
          generalize H ++ [AO.dK (encK dC ks)] = HH at *
          unfold dC at dg
          simp [lb__law_firsts_3, env9, a0, a1, a2, x1, x2, x3, x4, dC, fit, ni, D.isNon, dg, ol]
        · rcases z with z | ⟨_, z⟩
          · simp at z; omega
          · exact nl z
  · have qk' := fun y' c' => qk y' c' fun z => by have := z _ Fc; omega
    rw [un] at x4
    refine ⟨ks, some (dN (mv ms j (l.getD i 0))), some (dC (w ++ [j])), ?_, B.congr fun y c => (qk' y c).symm⟩
    generalize mv ms j (l.getD i 0) = y at *
    generalize l.getD i 0 = sp at *
    generalize rs.getD j 0 = rj at *
    generalize ms.getD j [] = m at *
    simp only [dN] at x1 x2 x3 x4
    rw [dc]
    generalize H ++ [AO.dK (encK dC ks)] = HH at *
    simp [lb__law_firsts_3, env9, a0, a1, a2, x1, x2, x3, x4, dC, fit, D.isNon]
end Law

set_option maxHeartbeats 1000000
namespace Law
open PySem Rf L2
abbrev envT (ps : List (List Nat)) (n s : Nat) (h : AH) (f : Nat) (a6 : Option D) (la : Nat) (x7 x8 x9 x10 x11 : Option D) : AE := [some (.tup (ps.map dC)), some (dN n), some (dN s), some (.ref h.length), some (.ref f), some (.ref la), a6, x7, x8, x9, x10, x11]
theorem turn_step {ps : List (List Nat)} {n s t : Nat} {ms : List (List Nat)} (Pm : ∀ m ∈ ms, IsP n m) (hs : s < n) (hn : n ≤ 60) (hM : ms.length ≤ 1000) {h H : AH} {rs l : List Nat} {f la : Nat} {F : List D} (A : FH h H ms rs f F) (R : FR ms s n t F) (Y : Ly ms s n t l)
    (hl : H[la]? = some (.lst (l.map dN))) (hla : la ≠ f) {a6 x7 x8 x9 x10 x11 : Option D} :
    ∃ H' F' l' la' x7' x8' x9' x10' x11', lb__law_firsts_1 (envT ps n s h f a6 la x7 x8 x9 x10 x11) H = .nx (envT ps n s h f a6 la' x7' x8' x9' x10' x11') H' ∧ FH h H' ms rs f F' ∧ FR ms s n (t + 1) F' ∧ Ly ms s n (t + 1) l' ∧ H'[la']? = some (.lst (l'.map dN)) ∧ la' ≠ f := by
  have lF := R.len
  -- the candidates
  obtain ⟨e', h', w1, ks, y8, y9, y10, y11, rfl, rfl, B⟩ := liveL_inv (g := gVar 8) (b := lb__law_firsts_2) (r := la) (ds := l.map dN)
    (fun i e h' => ∃ ks y8 y9 y10 y11, e = envT ps n s h f a6 la (some (.ref H.length)) y8 y9 y10 y11 ∧ h' = H ++ [.dK (encK dC ks)] ∧ BT ms n ks (Qc ms s t l i 0))
    (e := envT ps n s h f a6 la (some (.ref H.length)) x8 x9 x10 x11) (h := H ++ [.dK (encK dC [])])
    (by rintro i e h' ⟨ks, y8, y9, y10, y11, rfl, rfl, _⟩; exact app_get_l hl)
    ⟨[], x8, x9, x10, x11, rfl, rfl, by simp, fun y hy => absurd hy (by simp), fun y => .inl ⟨rfl, fun c => Qc.none⟩⟩ (by
      rintro i d e h' hd ⟨ks, y8, y9, y10, y11, rfl, rfl, B⟩
      have hi : i < l.length := by have := (List.getElem?_eq_some_iff.mp hd).1; simpa using this
      obtain rfl : dN (l.getD i 0) = d := by
        rw [List.getElem?_map, getD_some (a := 0) hi] at hd
        exact Option.some.inj hd
      obtain ⟨e', h', w, ks, y9, y10, y11, rfl, rfl, B⟩ := loopN (k := 10) (b := lb__law_firsts_3)
        (fun j e h' => ∃ ks y9 y10 y11, e = envT ps n s h f a6 la (some (.ref H.length)) (some (dN (l.getD i 0))) y9 y10 y11 ∧ h' = H ++ [.dK (encK dC ks)] ∧ BT ms n ks (Qc ms s t l i j))
        ms.length (e := envT ps n s h f a6 la (some (.ref H.length)) (some (dN (l.getD i 0))) y9 y10 y11) (h := H ++ [.dK (encK dC ks)])
        ⟨ks, y9, y10, y11, rfl, rfl, B⟩ (by
          rintro j e h' hj ⟨ks, y9, y10, y11, rfl, rfl, B⟩
          obtain ⟨ks', x9', x11', w, B'⟩ := pair_step (ps := ps) Pm hs hn hM A R Y hi hj B (la := la) (a6 := a6) (x9 := y9) (x11 := y11)
          exact ⟨_, _, w, ks', x9', some (dN j), x11', rfl, rfl, B'⟩)
      refine ⟨_, _, ?_, ks, some (dN (l.getD i 0)), y9, y10, y11, rfl, rfl, B.congr fun y c => Qc.row⟩
      have a0 : ∀ ks', (H ++ [AO.dK (encK dC ks')])[h.length]? = some (.lst (rs.map D.ref)) := fun _ => app_get_l A.mv
      have rl : rs.length = ms.length := A.len
      have r1 : RgB (ms.length : Int) := rgB_nat (by omega)
      generalize l.getD i 0 = sp at w ⊢
      generalize H ++ [AO.dK (encK dC ks)] = H1 at w ⊢
      unfold lb__law_firsts_2
      simp [envT, a0, rl, r1, rg_zero] at w ⊢
      exact w)
  rw [List.length_map] at B
  have B := B.congr fun y c => Qc.all Y
  have lks := B.len
  -- the next layer
  obtain ⟨l', p', u', es⟩ := natSort (ks.map (·.1))
  have so := cSorted_dK (r := H.length) (kvs := encK dC ks) (ns := (ks.map (·.1)).map fun x : Nat => (x : Int)) (h := H ++ [.dK (encK dC ks)]) (by simp) keysI_enc (by simp; omega)
  rw [es] at so
  have Y' := Ly.next B p'
  have nd' := Y'.1
  have hlf := A.lt
  obtain ⟨e', h', w2, y9, F', rfl, rfl, lF', in1, in2⟩ := liveL_inv (g := gVar 9) (b := lb__law_firsts_4) (r := H.length + 1) (ds := l'.map dN)
    (fun i e h' => ∃ y9 F', e = envT ps n s h f a6 (H.length + 1) (some (.ref H.length)) y8 y9 y10 y11 ∧ h' = H.set f (.lst F') ++ [.dK (encK dC ks), .lst (l'.map dN)] ∧ F'.length = n ∧ (∀ y ∈ l'.take i, ∃ c, lk ks y = some c ∧ F'.getD y .non = dC c) ∧ ∀ y, y ∉ l'.take i → F'.getD y .non = F.getD y .non)
    (e := envT ps n s h f a6 (H.length + 1) (some (.ref H.length)) y8 y9 y10 y11) (h := H ++ [.dK (encK dC ks), .lst (l'.map dN)])
    (by
      rintro i e h' ⟨y9, F', rfl, rfl, _⟩
      have := app_get (h := H.set f (.lst F')) (g := [AO.dK (encK dC ks), AO.lst (l'.map dN)]) (i := 1)
      rw [List.length_set] at this
      rw [this]; rfl)
    ⟨y9, F, rfl, by rw [set_self A.fd], lF, fun y hy => absurd hy (by simp), fun y _ => rfl⟩ (by
      rintro i d e h' hd ⟨y9, F', rfl, rfl, lF', in1, in2⟩
      have hi : i < l'.length := by have := (List.getElem?_eq_some_iff.mp hd).1; simpa using this
      obtain ⟨y, ey⟩ : ∃ y, y = l'.getD i 0 := ⟨_, rfl⟩
      obtain rfl : dN y = d := by
        rw [List.getElem?_map, getD_some (a := 0) hi, ← ey] at hd
        exact Option.some.inj hd
      have my : y ∈ l' := by rw [ey]; exact getD_mem hi
      have hy : y < n := B.lt y (p'.mem_iff.mp my)
      obtain ⟨c, hc⟩ : ∃ c, lk ks y = some c := by
        cases q : lk ks y with
        | none => exact absurd (p'.mem_iff.mp my) (lk_none.mp q)
        | some c => exact ⟨c, rfl⟩
      have tk : l'.take (i + 1) = l'.take i ++ [y] := by rw [List.take_add_one, getD_some (a := 0) hi, ← ey]; rfl
      have a2 : (H.set f (.lst F') ++ [AO.dK (encK dC ks), AO.lst (l'.map dN)])[f]? = some (.lst F') := app_get_l (get_set A.fd _)
      have a3 : (H.set f (.lst F') ++ [AO.dK (encK dC ks), AO.lst (l'.map dN)])[H.length]? = some (.dK (encK dC ks)) := by
        have := app_get (h := H.set f (.lst F')) (g := [AO.dK (encK dC ks), AO.lst (l'.map dN)]) (i := 0)
        rw [List.length_set, Nat.add_zero] at this
        rw [this]; rfl
      have dg : oDGet (.ref H.length) (.int (y : Int)) (H.set f (.lst F') ++ [AO.dK (encK dC ks), AO.lst (l'.map dN)]) = .ok (dC c) (H.set f (.lst F') ++ [AO.dK (encK dC ks), AO.lst (l'.map dN)]) := oDGet_ref a3 (by rw [valD_enc, hc]; rfl)
      have pb : ∀ v r h, putO (some (.lst F')) r (y : Int) v h = some (h.set r (.lst (F'.set y v))) := fun v r h => putO_nat (by omega)
      have es : (H.set f (.lst F') ++ [AO.dK (encK dC ks), AO.lst (l'.map dN)]).set f (.lst (F'.set y (dC c))) = H.set f (.lst (F'.set y (dC c))) ++ [AO.dK (encK dC ks), AO.lst (l'.map dN)] := by
        rw [app_set_l (by rw [List.length_set]; exact hlf), List.set_set]
      refine ⟨_, _, ?_, some (dN y), F'.set y (dC c), rfl, rfl, by rw [List.length_set, lF'], fun z hz => ?_, fun z hz => ?_⟩
      · rw [← es]
        generalize H.set f (.lst F') ++ [AO.dK (encK dC ks), AO.lst (l'.map dN)] = H1 at *
        simp [lb__law_firsts_4, envT, dg, a2, pb]
      · rw [tk] at hz
        rw [getDD_set (by omega)]
        by_cases e : y = z
        · subst e; exact ⟨c, hc, if_pos rfl⟩
        · rw [if_neg e]
          rcases List.mem_append.mp hz with hz | hz
          · exact in1 z hz
          · rw [List.mem_singleton] at hz; exact absurd hz.symm e
      · rw [tk] at hz
        rw [getDD_set (by omega), if_neg fun e => hz (by rw [e]; simp)]
        exact in2 z fun h => hz (List.mem_append_left _ h))
  rw [List.length_map, List.take_length] at in1 in2
  refine ⟨H.set f (.lst F') ++ [.dK (encK dC ks), .lst (l'.map dN)], F', l', H.length + 1, some (.ref H.length), y8, y9, y10, y11, ?_, A.set.app, R.next B lF' (fun y c hc => ?_) (fun y hy => ?_), Y', ?_, by omega⟩
  · have z1 : H ++ [.dK (encK dC ks), .lst (l'.map dN)] = (H ++ [.dK (encK dC ks)]) ++ [AO.lst (l'.map dN)] := by simp
    have z2 : (H ++ [AO.dK (encK dC ks)])[la]? = some (.lst (l.map dN)) := app_get_l hl
    have z3 : (H ++ [AO.dK []])[la]? = some (.lst (l.map dN)) := app_get_l hl
    have z4 : ((H ++ [AO.dK (encK dC ks)]) ++ [AO.lst (l'.map dN)])[H.length + 1]? = some (.lst (l'.map dN)) := by rw [← z1, app_get]; rfl
    have z5 : (H ++ [AO.dK (encK dC ks)]).length = H.length + 1 := by simp
    rw [show encK dC [] = [] from rfl] at w1
    rw [z1] at w2
    unfold lb__law_firsts_1
    generalize hH1 : H ++ [AO.dK (encK dC ks)] = H1 at *
    generalize hH0 : H ++ [AO.dK []] = H0 at *
    simp only [envT] at w1 w2
    rw [z5] at so
    simp [envT, hH0, z3, w1, so, z4, w2]
  · have my : y ∈ l' := p'.mem_iff.mpr (lk_some_mem hc)
    obtain ⟨c', hc', e⟩ := in1 y my
    rw [hc] at hc'
    cases hc'
    exact e
  · exact in2 y fun my => lk_none.mp hy (p'.mem_iff.mp my)
  · have := app_get (h := H.set f (.lst F')) (g := [AO.dK (encK dC ks), AO.lst (l'.map dN)]) (i := 1)
    rw [List.length_set] at this
    rw [this]; rfl
theorem firsts_spec {ps : List (List Nat)} {n s : Nat} (P : Ps n ps) (hs : s < n) (hn : n ≤ 60) (hp : ps.length ≤ 100) {h : AH} :
    ∃ F, c__law_firsts [.tup (ps.map dC), dN n, dN s] h = .ok (.ref h.length) (h ++ [.lst F]) ∧ FR (msOf n ps) s n n F := by
  obtain ⟨rs, g, wm, M⟩ := lmoves_spec P (by omega) (by omega) (h := h)
  have Pm := msOf_isP P (by omega)
  have lm := msOf_len (n := n) (ps := ps)
  generalize msOf n ps = ms at *
  have hl0 := LM_len (h := h) (rs := rs) (g := g)
  generalize hH : LM h rs g = H at *
  have A : FH h (H ++ [.lst [.non], .lst ((List.replicate n .non).set s (.tup [])), .lst ([s].map dN)]) ms rs (H.length + 1) ((List.replicate n .non).set s (.tup [])) := by
    refine ⟨⟨.lst (rs.map D.ref) :: g ++ [.lst [.non], .lst ((List.replicate n .non).set s (.tup [])), .lst ([s].map dN)], by rw [← hH]; unfold LM; simp⟩, by omega, by rw [app_get]; rfl, app_get_l (by rw [← hH]; exact LM_0), M.len, fun k hk => ?_⟩
    obtain ⟨i, e, gi⟩ := M.mkk k hk
    have il := (List.getElem?_eq_some_iff.mp gi).1
    exact ⟨by omega, app_get_l (by rw [← hH, e, LM_get]; exact gi)⟩
  have R : FR ms s n 0 ((List.replicate n .non).set s (.tup [])) := by
    refine ⟨by simp, fun y hy => ?_⟩
    rw [getDD_set (by simpa using hs)]
    by_cases e : s = y
    · subst e
      exact .inr ⟨[], if_pos rfl, Fst.nil, Nat.le_refl _⟩
    · rw [if_neg e, getD_rep hy]
      refine .inl ⟨rfl, fun c F => ?_⟩
      cases c with
      | nil => exact absurd F.to e
      | cons k c => simp
  have Y : Ly ms s n 0 [s] := ⟨by simp, fun y => by
    rw [List.mem_singleton]
    constructor
    · rintro rfl; exact ⟨[], Fst.nil, rfl⟩
    · rintro ⟨c, F, l⟩
      rw [List.eq_nil_of_length_eq_zero l] at F
      exact F.to.symm⟩
  obtain ⟨e', h', w, F, l, la, x6, x7, x8, x9, x10, x11, rfl, A, R, Y, hl, hla⟩ := loopN (k := 6) (b := lb__law_firsts_1)
    (fun t e h' => ∃ F l la x6 x7 x8 x9 x10 x11, e = envT ps n s h (H.length + 1) x6 la x7 x8 x9 x10 x11 ∧ FH h h' ms rs (H.length + 1) F ∧ FR ms s n t F ∧ Ly ms s n t l ∧ h'[la]? = some (.lst (l.map dN)) ∧ la ≠ H.length + 1)
    n (e := envT ps n s h (H.length + 1) none (H.length + 2) none none none none none) (h := H ++ [.lst [.non], .lst ((List.replicate n .non).set s (.tup [])), .lst ([s].map dN)])
    ⟨_, [s], H.length + 2, none, none, none, none, none, none, rfl, A, R, Y, by rw [app_get]; rfl, by omega⟩ (by
      rintro t e h' ht ⟨F, l, la, x6, x7, x8, x9, x10, x11, rfl, A, R, Y, hl, hla⟩
      obtain ⟨H', F', l', la', x7', x8', x9', x10', x11', w, A', R', Y', hl', hla'⟩ := turn_step Pm hs hn (by omega) A R Y hl hla (ps := ps) (a6 := some (dN t)) (x7 := x7) (x8 := x8) (x9 := x9) (x10 := x10) (x11 := x11)
      exact ⟨_, H', w, F', l', la', some (dN t), x7', x8', x9', x10', x11', rfl, A', R', Y', hl', hla'⟩)
  refine ⟨F, ?_, R⟩
  have r1 : RepOk 1 (n : Int) := repOk_1 (by omega)
  have r2 : RgB (n : Int) := rgB_nat (by omega)
  have pc : ∀ r v' h, putO (some (.lst (List.replicate n D.non))) r (s : Int) v' h = some (h.set r (.lst ((List.replicate n D.non).set s v'))) := fun r v' h => putO_nat (by simpa using hs)
  obtain ⟨g2, rfl⟩ := A.pre
  have hfd := A.fd
  have hff := A.hf
  rw [List.getElem?_append_right (by omega)] at hfd
  have e : c__law_firsts [.tup (ps.map dC), dN n, dN s] h = gc h (.ok (.ref (h.length + (H.length + 1 - h.length))) (h ++ g2)) := by
    unfold c__law_firsts fsem
    rw [show h.length + (H.length + 1 - h.length) = H.length + 1 by omega]
    simp only [envT, List.map_cons, List.map_nil] at w
    simp [m__law_firsts, wm, r1, r2, rg_zero, pc, w]
  rw [e, gc_new (o := .lst F) hfd (by simpa using R.pure)]
end Law

set_option maxHeartbeats 1000000
namespace Law
open PySem Rf L2
def stepI (k : Nat) : List Int := [(k : Int) / 2, 1 - 2 * ((k : Int) % 2)]
theorem stepD_dI (c : List Nat) : c.map stepD = (c.map stepI).map dI := by rw [List.map_map]; rfl
theorem way_holds {c : List Nat} (hc : c.length ≤ 1000) {h : AH} : c__law_way_holds [.tup (c.map stepD), dC c] h = .ok (.bl true) h := by
  obtain ⟨e', h', w, x3, rfl, rfl⟩ := loopM (φ := dN) (k := 3) (b := lb__law_way_holds_1)
    (fun i e h' => ∃ x3, e = [some (.tup (c.map stepD)), some (dC c), some (.ref h.length), x3] ∧ h' = h ++ [.lst ((c.take i).map stepD)])
    c (e := [some (.tup (c.map stepD)), some (dC c), some (.ref h.length), none]) (h := h ++ [.lst []]) ⟨none, rfl, rfl⟩ (by
      rintro i k e h' hk ⟨x3, rfl, rfl⟩
      have tk : c.take (i + 1) = c.take i ++ [k] := by rw [List.take_add_one, hk]; rfl
      have ap : ∀ r v h, appO (some (.lst ((c.take i).map stepD))) r v h = .ok .non (h.set r (.lst ((c.take i).map stepD ++ [v]))) := fun r v h => appO_lst (by rw [List.length_map, List.length_take, sizeLine_eq]; omega)
      refine ⟨_, _, ?_, some (dN k), rfl, rfl⟩
      have c1 : CMulX 2 ((k : Int) % 2) := mulB (by omega) (by omega) (by omega) (by omega)
      rw [tk, List.map_append]
      generalize (c.take i).map stepD = ds at ap ⊢
      simp [lb__law_way_holds_1, oMod_, oMul_, oDiv_, c1, ap, stepD])
  rw [List.take_length] at w
  have rs := rows_spec (A := c.map stepI) (by rw [List.length_map]; omega) (fun l hl => by
    obtain ⟨k, _, rfl⟩ := List.mem_map.mp hl
    simp [stepI]) (y := .ref h.length) (h := h ++ [.lst (c.map stepD)]) (by simp) (fun i hi => by
    have x : ∀ h, ixD ((c.map stepI).map dI) (i : Int) h = .ok (dI ((c.map stepI).getD i [])) h := fun h => ixD_map (getD_some hi)
    rw [stepD_dI, oIx_ref_, getLast_app, ixO_lst, x])
  rw [← stepD_dI] at rs
  have e : c__law_way_holds [.tup (c.map stepD), dC c] h = gc h (.ok (.bl true) (h ++ [.lst (c.map stepD)])) := by
    unfold c__law_way_holds fsem
    generalize c.map stepD = ds at rs w ⊢
    simp only [dC] at w
    simp [m__law_way_holds, dC, w, rs, D.isNon]
  rw [e, gc_app (by simp)]
theorem way_none {h : AH} : c__law_way_holds [.non, .non] h = .ok (.bl true) h := by
  have e : c__law_way_holds [.non, .non] h = gc h (.ok (.bl true) h) := by
    unfold c__law_way_holds fsem
    simp [m__law_way_holds, D.isNon]
  rw [e, gc_same (by simp)]
theorem ways_hold {ps : List (List Nat)} {n s : Nat} (P : Ps n ps) (hs : s < n) (hn : n ≤ 60) (hp : ps.length ≤ 100) (b : Bool) {h : AH} :
    c__law_ways_hold [.tup (ps.map dC), dN n, dN s, .bl b] h = .ok (.bl true) h := by
  obtain ⟨F, wf, R⟩ := firsts_spec P hs hn hp (h := h)
  have Pm := msOf_isP P (by omega)
  have lF := R.len
  obtain ⟨e', h', w, x5, x6, rfl, rfl⟩ := loopN (k := 5) (b := lb__law_ways_hold_1)
    (fun i e h' => ∃ x5 x6, e = [some (.tup (ps.map dC)), some (dN n), some (dN s), some (.bl b), some (.ref h.length), x5, x6] ∧ h ++ [.lst F] = h')
    n (e := [some (.tup (ps.map dC)), some (dN n), some (dN s), some (.bl b), some (.ref h.length), none, none]) (h := h ++ [.lst F]) ⟨none, none, rfl, rfl⟩ (by
      rintro g e h' hg ⟨x5, x6, rfl, rfl⟩
      have hF : (h ++ [AO.lst F])[h.length]? = some (.lst F) := by simp
      have x1 : ∀ h, ixD F (g : Int) h = .ok (F.getD g .non) h := fun h => ixD_some (getD_some (by omega))
      obtain ⟨d, wd, we⟩ : ∃ d, c_way [.tup (ps.map dC), dN n, dN s, dN g] (h ++ [.lst F]) = .ok d (h ++ [.lst F]) ∧ c__law_way_holds [d, F.getD g .non] (h ++ [.lst F]) = .ok (.bl true) (h ++ [.lst F]) := by
        rcases way_spec P (by omega) hp hs hg (h := h ++ [.lst F]) with ⟨e, no⟩ | ⟨c, e, Fc⟩
        · refine ⟨_, e, ?_⟩
          rcases R.at_ g hg with ⟨ef, _⟩ | ⟨c, _, Fc, _⟩
          · rw [ef]; exact way_none
          · exact absurd Fc.to (no c Fc.wd)
        · refine ⟨_, e, ?_⟩
          have lc := Fc.len (n := n) fun c' w' => walk_lt' Pm hs c' w'
          rcases R.at_ g hg with ⟨_, no⟩ | ⟨c', ef, Fc', _⟩
          · have := no c Fc; omega
          · rw [ef, Fc'.uniq Fc]; exact way_holds (by omega)
      refine ⟨[some (.tup (ps.map dC)), some (dN n), some (dN s), some (.bl b), some (.ref h.length), some (dN g), some d], _, ?_, some (dN g), some d, rfl, rfl⟩
      generalize F.getD g .non = fd at x1 we
      generalize h ++ [AO.lst F] = H at *
      cases b with
      | true => simp [lb__law_ways_hold_1, wd, we, hF, x1, permK]
      | false => simp [lb__law_ways_hold_1, wd, we, hF, x1])
  have r2 : RgB (n : Int) := rgB_nat (by omega)
  have e : c__law_ways_hold [.tup (ps.map dC), dN n, dN s, .bl b] h = gc h (.ok (.bl true) (h ++ [.lst F])) := by
    unfold c__law_ways_hold fsem
    simp [m__law_ways_hold, wf, r2, rg_zero, w]
  rw [e, gc_app (by simp)]
end Law

set_option maxHeartbeats 1000000
namespace Law
open PySem Rf L2
def HP (h : AH) (a : Nat) (o : AO) (row img : List Nat) (g : AH) : AH := h.set a o ++ (.lst (row.map dN) :: .lst (img.map dN) :: g)
section
variable {h g : AH} {a : Nat} {o : AO} {row img : List Nat}
theorem HP_a (ha : a < h.length) : (HP h a o row img g)[a]? = some o := app_get_l (List.getElem?_set_self ha)
theorem HP_0 : (HP h a o row img g)[h.length]? = some (.lst (row.map dN)) := by unfold HP; rw [app_get0 (by simp)]; rfl
theorem HP_1 : (HP h a o row img g)[h.length + 1]? = some (.lst (img.map dN)) := by
  have := app_get (h := h.set a o) (g := (.lst (row.map dN) :: .lst (img.map dN) :: g : AH)) (i := 1)
  rw [List.length_set] at this
  unfold HP; rw [this]; rfl
theorem HP_g {i : Nat} : (HP h a o row img g)[h.length + 2 + i]? = g[i]? := by
  have := app_get (h := h.set a o) (g := (.lst (row.map dN) :: .lst (img.map dN) :: g : AH)) (i := 2 + i)
  rw [List.length_set] at this
  unfold HP; rw [Nat.add_assoc, this, show 2 + i = i + 1 + 1 by omega]; simp
theorem HP_len : (HP h a o row img g).length = h.length + 2 + g.length := by unfold HP; simp; omega
theorem HP_sa (ha : a < h.length) (o' : AO) : (HP h a o row img g).set a o' = HP h a o' row img g := by
  unfold HP; rw [app_set_l (by simpa using ha), List.set_set]
theorem HP_s1 (v : List Nat) : (HP h a o row img g).set (h.length + 1) (.lst (v.map dN)) = HP h a o row v g := by
  unfold HP; rw [app_set (by simp)]; rfl
theorem HP_app (x : AH) : HP h a o row img g ++ x = HP h a o row img (g ++ x) := by unfold HP; simp
end
def PR (h : AH) (a n N : Nat) (d : D) (h' : AH) : Prop := ∃ p o' g, d = dC p ∧ h' = h.set a o' ++ g ∧ IsP n p ∧ Bag N o'
theorem range_getD {n x : Nat} (hx : x < n) : (List.range n).getD x 0 = x := by simp [hx]
theorem perm_run {h : AH} {a N : Nat} {o : AO} (ha : h[a]? = some o) (hb : Bag N o) {n : Nat} (h1 : 1 ≤ n) (hn : n ≤ 1000) (hN : N + n + 10 ≤ 1000000000) :
    ∃ d h', m__law_perm [some (.ref a), some (dN n), none, none, none, none, none, none, none, none, none] h = .rt d h' ∧ PR h a n (N + n + 10) d h' := by
  have hal := (List.getElem?_eq_some_iff.mp ha).1
  obtain ⟨kind, o1, t1, hk, B1⟩ := take_spec (s := 4) ha hb (by omega) (by omega) (by omega)
  obtain ⟨row, o2, t2, PP, B2⟩ := shuffled_spec (h := h.set a o1) (a := a) (get_set ha o1) B1 h1 hn (by omega)
  rw [List.set_set, List.length_set] at t2
  have lr := PP.len
  unfold m__law_perm
  refine sqR (e1 := [some (.ref a), some (dN n), some (dN kind), none, none, none, none, none, none, none, none]) (h1 := h.set a o1) (by simp [t1]) ?_
  refine sqR (e1 := [some (.ref a), some (dN n), some (dN kind), some (.ref h.length), none, none, none, none, none, none, none]) (h1 := h.set a o2 ++ [.lst (row.map dN)]) (by simp [t2]) ?_
  have lset : (h.set a o2).length = h.length := by simp
  by_cases k0 : kind = 0
  · refine sqX ⟨dC row, h.set a o2 ++ [.lst (row.map dN)], ?_, row, o2, _, rfl, rfl, PP, B2.mono (by omega)⟩
    have g0 : (h.set a o2 ++ [AO.lst (row.map dN)])[h.length]? = some (.lst (row.map dN)) := by rw [app_get0 lset]; rfl
    subst k0
    simp [g0, dC]
  have k0' : ¬ (kind : Int) = 0 := by omega
  refine sqR (e1 := [some (.ref a), some (dN n), some (dN kind), some (.ref h.length), none, none, none, none, none, none, none]) (h1 := h.set a o2 ++ [.lst (row.map dN)]) (by simp [k0', k0]) ?_
  have r2 : RgOk 0 (n : Int) := rgOk_nat (by omega)
  refine sqR (e1 := [some (.ref a), some (dN n), some (dN kind), some (.ref h.length), some (.ref (h.length + 1)), none, none, none, none, none, none]) (h1 := HP h a o2 row (List.range n) []) (by
    unfold HP
    simp [r2, rg_zero]) ?_
  by_cases k1 : kind = 1
  · -- a cycle
    refine sqX ?_
    obtain ⟨d, o3, t3, hd, B3⟩ := take_spec (h := HP h a o2 row (List.range n) []) (a := a) (s := if (n : Int) < 4 then (n : Int) else 4) (HP_a hal) B2 (by omega) (by split <;> omega) (by split <;> omega)
    rw [HP_sa hal] at t3
    have dn : d + 1 ≤ n := by split at hd <;> omega
    have lf : (row.take (d + 1)).length = d + 1 := by rw [List.length_take]; omega
    have few : ∀ i, i < d + 1 → (row.take (d + 1)).getD i 0 = row.getD i 0 := fun i hi => by
      simp only [List.getD_eq_getElem?_getD]
      rw [List.getElem?_take, if_pos hi]
    obtain ⟨e', h', w, x6, img, rfl, rfl, li, i1, i2⟩ := loopN (k := 6) (b := lb__law_perm_1)
      (fun i e h' => ∃ x6 img, e = [some (.ref a), some (dN n), some (dN kind), some (.ref h.length), some (.ref (h.length + 1)), some (.ref (h.length + 2)), x6, none, none, none, none] ∧ h' = HP h a o3 row img [.lst ((row.take (d + 1)).map dN)] ∧ img.length = n ∧ (∀ b, b < i → img.getD (row.getD b 0) 0 = row.getD ((b + 1) % (d + 1)) 0) ∧ ∀ x, x < n → (∀ b, b < i → row.getD b 0 ≠ x) → img.getD x 0 = x)
      (d + 1) (e := [some (.ref a), some (dN n), some (dN kind), some (.ref h.length), some (.ref (h.length + 1)), some (.ref (h.length + 2)), none, none, none, none, none]) (h := HP h a o3 row (List.range n) [.lst ((row.take (d + 1)).map dN)])
      ⟨none, List.range n, rfl, rfl, by simp, fun b hb => absurd hb (by omega), fun x hx _ => range_getD hx⟩ (by
        rintro i e h' hi ⟨x6, img, rfl, rfl, li, i1, i2⟩
        have hm : (i + 1) % (d + 1) < d + 1 := Nat.mod_lt _ (by omega)
        have x1 : ∀ h, ixD ((row.take (d + 1)).map dN) (i : Int) h = .ok (dN (row.getD i 0)) h := fun h => by rw [← few i hi]; exact ixD_N (by omega)
        have x2 : ∀ h, ixD ((row.take (d + 1)).map dN) (((i + 1) % (d + 1) : Nat) : Int) h = .ok (dN (row.getD ((i + 1) % (d + 1)) 0)) h := fun h => by rw [← few _ hm]; exact ixD_N (by omega)
        have hr := PP.lt i (by omega)
        have pb : ∀ v r h, putO (some (.lst (img.map dN))) r ((row.getD i 0 : Nat) : Int) (dN v) h = some (h.set r (.lst ((img.set (row.getD i 0) v).map dN))) := fun v r h => putO_N (by omega)
        have g2 : (HP h a o3 row img [.lst ((row.take (d + 1)).map dN)])[h.length + 2]? = some (.lst ((row.take (d + 1)).map dN)) := HP_g (i := 0)
        have g1 := HP_1 (h := h) (a := a) (o := o3) (row := row) (img := img) (g := [.lst ((row.take (d + 1)).map dN)])
        have s1 := HP_s1 (h := h) (a := a) (o := o3) (row := row) (img := img) (g := [.lst ((row.take (d + 1)).map dN)]) (img.set (row.getD i 0) (row.getD ((i + 1) % (d + 1)) 0))
        have em : ((i : Int) + 1) % ((d : Int) + 1) = (((i + 1) % (d + 1) : Nat) : Int) := by push_cast; rfl
        have hp : (0 : Int) < (d : Int) + 1 := by omega
        refine ⟨_, _, ?_, some (dN i), img.set (row.getD i 0) (row.getD ((i + 1) % (d + 1)) 0), rfl, rfl, by simpa using li, fun b hb => ?_, fun x hx hb => ?_⟩
        · rw [← s1]
          have llf : ((row.take (d + 1)).map dN).length = d + 1 := by rw [List.length_map, lf]
          generalize (row.take (d + 1)).map dN = fw at *
          generalize HP h a o3 row img [.lst fw] = H at *
          generalize row.getD ((i + 1) % (d + 1)) 0 = v2 at *
          generalize row.getD i 0 = v1 at *
          generalize (i + 1) % (d + 1) = m at *
          simp only [dN] at x1 x2 pb
          simp [lb__law_perm_1, g1, g2, llf, oMod_, hp, em, x1, x2, pb]
        · rw [getD_set (by omega)]
          by_cases e : b = i
          · subst e; rw [if_pos rfl]
          · rw [if_neg fun z => e (PP.inj _ _ (by omega) (by omega) z.symm)]
            exact i1 b (by omega)
        · rw [getD_set (by omega), if_neg (hb i (by omega))]
          exact i2 x hx fun b hb' => hb b (by omega))
    have IM : IsP n img := patchP li (m := d + 1) (fun b => row.getD b 0) (fun b => row.getD ((b + 1) % (d + 1)) 0) (fun b hb => PP.lt b (by omega)) (fun b c hb hc e => PP.inj b c (by omega) (by omega) e) (fun b c hb hc e => by
      have hm1 : (b + 1) % (d + 1) < d + 1 := Nat.mod_lt _ (by omega)
      have hm2 : (c + 1) % (d + 1) < d + 1 := Nat.mod_lt _ (by omega)
      have := PP.inj _ _ (by omega) (by omega) e
      by_cases q1 : b = d
      · by_cases q2 : c = d
        · omega
        · subst q1
          rw [Nat.mod_self, Nat.mod_eq_of_lt (by omega)] at this; omega
      · by_cases q2 : c = d
        · subst q2
          rw [Nat.mod_self, Nat.mod_eq_of_lt (by omega)] at this; omega
        · rw [Nat.mod_eq_of_lt (by omega), Nat.mod_eq_of_lt (by omega)] at this; omega) (fun b hb => ⟨(b + 1) % (d + 1), Nat.mod_lt _ (by omega), rfl⟩) i1 i2
    refine ⟨dC img, HP h a o3 row img [.lst ((row.take (d + 1)).map dN)], ?_, img, o3, _, rfl, rfl, IM, B3.mono (by omega)⟩
    have g0 : (HP h a o2 row (List.range n) [])[h.length]? = some (.lst (row.map dN)) := HP_0
    have g0' : (HP h a o3 row (List.range n) [])[h.length]? = some (.lst (row.map dN)) := HP_0
    have gi := HP_1 (h := h) (a := a) (o := o3) (row := row) (img := img) (g := [.lst ((row.take (d + 1)).map dN)])
    have gf : (HP h a o3 row (List.range n) [.lst ((row.take (d + 1)).map dN)])[h.length + 2]? = some (.lst ((row.take (d + 1)).map dN)) := HP_g (i := 0)
    have ct : cutD (row.map dN) none (some (1 + (d : Int))) = (row.take (d + 1)).map dN := by
      rw [show 1 + (d : Int) = ((d + 1 : Nat) : Int) by omega, cutD_to, List.map_take]
    have ap := HP_app (h := h) (a := a) (o := o3) (row := row) (img := List.range n) (g := []) [AO.lst ((row.take (d + 1)).map dN)]
    have ll := HP_len (h := h) (a := a) (o := o3) (row := row) (img := List.range n) (g := [])
    rw [List.nil_append] at ap
    have llf : ((row.take (d + 1)).map dN).length = d + 1 := by rw [List.length_map, lf]
    have r3 : RgB ((d : Int) + 1) := rgB_nat (n := d + 1) (by omega)
    have tn : ((d : Int) + 1).toNat = d + 1 := by omega
    generalize (row.take (d + 1)).map dN = fw at *
    generalize HP h a o3 row img [.lst fw] = H3 at *
    generalize HP h a o3 row (List.range n) [.lst fw] = H2 at *
    generalize HP h a o3 row (List.range n) [] = H1 at *
    generalize HP h a o2 row (List.range n) [] = H0 at *
    subst k1
    simp at ll
    have st : sSet 5 (eSl (eVar 3) none (some (eOp oAdd (eC (.int 1)) (eCall (argn 2 c__law_take) (lCons (eVar 0) (lCons (eCall cMin2 (lCons (eC (.int 4)) (lCons (eVar 1) lNil))) lNil)))))) [some (.ref a), some (dN n), some (dN 1), some (.ref h.length), some (.ref (h.length + 1)), none, none, none, none, none, none] H0 = .nx [some (.ref a), some (dN n), some (dN 1), some (.ref h.length), some (.ref (h.length + 1)), some (.ref H1.length), none, none, none, none, none] (H1 ++ [.lst fw]) := by
      clear ll
      simp [t3, g0, g0', ct]
    rw [ll, ap] at st
    have w' : (sSeq (sFor (iRange1 (lCons (eCall cLen (lCons (eVar 5) lNil)) lNil)) (gVar 6) lb__law_perm_1) (sRet (eCall cTuple (lCons (eVar 4) lNil)))) [some (.ref a), some (dN n), some (dN 1), some (.ref h.length), some (.ref (h.length + 1)), some (.ref (h.length + 2)), none, none, none, none, none] H2 = .rt (dC img) H3 := by
      clear ll ap
      simp [gf, llf, r3, tn, rg_zero, w, gi, dC]
    rw [show (dN 1) = D.int 1 from rfl] at st w'
    rw [show (dN 1) = D.int 1 from rfl, sIf_]
    simp only [eOp_, eVar_, eC_, then_ok, oEq_int, thenS_ok, onB_bl, List.getElem?_cons_zero, List.getElem?_cons_succ]
    rw [if_pos (by rfl), sSeq_, st, sthen_nx]
    exact w'
  · have k1' : ¬ (kind : Int) = 1 := by omega
    refine sqR (e1 := [some (.ref a), some (dN n), some (dN kind), some (.ref h.length), some (.ref (h.length + 1)), none, none, none, none, none, none]) (h1 := HP h a o2 row (List.range n) []) (by simp [k1', k1]) ?_
    obtain ⟨low, o3, t3, hd, B3⟩ := take_spec (h := HP h a o2 row (List.range n) []) (a := a) (s := (n : Int)) (HP_a hal) B2 (by omega) (by omega) (by omega)
    rw [HP_sa hal] at t3
    obtain ⟨d2, o4, t4, hd2, B4⟩ := take_spec (h := HP h a o3 row (List.range n) []) (a := a) (s := (n : Int) - (low : Nat)) (HP_a hal) B3 (by omega) (by omega) (by omega)
    rw [HP_sa hal] at t4
    obtain ⟨sz, hsz⟩ : ∃ sz, sz = d2 + 1 := ⟨_, rfl⟩
    have esz : 1 + (d2 : Int) = (sz : Int) := by omega
    refine sqR (e1 := [some (.ref a), some (dN n), some (dN kind), some (.ref h.length), some (.ref (h.length + 1)), none, none, some (dN low), none, none, none]) (h1 := HP h a o3 row (List.range n) []) (by simp [t3]) ?_
    refine sqR (e1 := [some (.ref a), some (dN n), some (dN kind), some (.ref h.length), some (.ref (h.length + 1)), none, none, some (dN low), some (dN sz), none, none]) (h1 := HP h a o4 row (List.range n) []) (by simp [t4, esz]) ?_
    have hls : low + sz ≤ n := by omega
    obtain ⟨inn, hinn⟩ : ∃ inn, inn = row.filter fun x => decide (low ≤ x ∧ x < low + sz) := ⟨_, rfl⟩
    have lc : lc__law_perm_1 [some (.ref a), some (dN n), some (dN kind), some (.ref h.length), some (.ref (h.length + 1)), none, none, some (dN low), some (dN sz), none, none] (HP h a o4 row (List.range n) []) = .ok (.ref (h.length + 2)) (HP h a o4 row (List.range n) [.lst (inn.map dN)]) := by
      have g0 : (HP h a o4 row (List.range n) [])[h.length]? = some (.lst (row.map dN)) := HP_0
      have ap := HP_app (h := h) (a := a) (o := o4) (row := row) (img := List.range n) (g := []) [AO.lst (inn.map dN)]
      rw [List.nil_append] at ap
      have ll := HP_len (h := h) (a := a) (o := o4) (row := row) (img := List.range n) (g := [])
      simp at ll
      unfold lc__law_perm_1
      rw [eLc_pureL (φ := dN) (r := h.length) row (fun x => decide (low ≤ x ∧ x < low + sz)) dN (h1 := HP h a o4 row (List.range n) []) (by
        have := iVal_ref (m := eVar 3) (e := [some (.ref a), some (dN n), some (dN kind), some (.ref h.length), some (.ref (h.length + 1)), none, none, some (dN low), some (dN sz), none, none]) (h := HP h a o4 row (List.range n) []) (h1 := HP h a o4 row (List.range n) []) (r := h.length) (ds := row.map dN) rfl g0
        simpa using this) g0 (by rw [sizeLine_eq]; omega)]
      · rw [ll, ← hinn, ap]
      · intro x hx
        by_cases q1 : low ≤ x
        · by_cases q2 : x < low + sz
          · have z1 : (low : Int) ≤ (x : Int) := by omega
            have z2 : (x : Int) < (low : Int) + (sz : Int) := by omega
            simp [wipeE, q1, q2, z1, z2]
          · have z1 : (low : Int) ≤ (x : Int) := by omega
            have z2 : ¬ (x : Int) < (low : Int) + (sz : Int) := by omega
            simp [wipeE, q1, q2, z1, z2]
        · have z1 : ¬ (low : Int) ≤ (x : Int) := by omega
          simp [wipeE, q1, z1]
      · intro x hx
        simp [wipeE]
    refine sqR (e1 := [some (.ref a), some (dN n), some (dN kind), some (.ref h.length), some (.ref (h.length + 1)), none, none, some (dN low), some (dN sz), some (.ref (h.length + 2)), none]) (h1 := HP h a o4 row (List.range n) [.lst (inn.map dN)]) (by simp [lc]) ?_
    have ndi : inn.Nodup := by rw [hinn]; exact List.Pairwise.filter _ PP.nodup
    have mi : ∀ x, x ∈ inn ↔ x ∈ row ∧ low ≤ x ∧ x < low + sz := fun x => by rw [hinn, List.mem_filter, decide_eq_true_eq]
    have lin : sz ≤ inn.length := by
      have nd : ((List.range sz).map fun i => low + i).Nodup := by
        show List.Pairwise _ _
        rw [List.pairwise_map]
        exact List.nodup_range.imp fun {a b} ne e => ne (by omega)
      have := sub_length nd (l2 := inn) fun x hx => by
        obtain ⟨i, hi, rfl⟩ := List.mem_map.mp hx
        rw [List.mem_range] at hi
        obtain ⟨j, hj, e⟩ := PP.surj (y := low + i) (by omega)
        exact (mi _).mpr ⟨by rw [← e]; exact getD_mem (by omega), by omega, by omega⟩
      simpa using this
    have hT : ∀ i, i < sz → low ≤ inn.getD i 0 ∧ inn.getD i 0 < low + sz := fun i hi => ((mi _).mp (getD_mem (by omega))).2
    obtain ⟨T, hTd⟩ : ∃ T : Nat → Nat, T = fun i => if kind = 3 then inn.getD i 0 else low + (i + 1) % sz := ⟨_, rfl⟩
    obtain ⟨e', h', w, x6, img, rfl, rfl, li, i1, i2⟩ := loopN (k := 6) (b := lb__law_perm_2)
      (fun i e h' => ∃ x6 img, e = [some (.ref a), some (dN n), some (dN kind), some (.ref h.length), some (.ref (h.length + 1)), none, x6, some (dN low), some (dN sz), some (.ref (h.length + 2)), none] ∧ h' = HP h a o4 row img [.lst (inn.map dN)] ∧ img.length = n ∧ (∀ b, b < i → img.getD (low + b) 0 = T b) ∧ ∀ x, x < n → (∀ b, b < i → low + b ≠ x) → img.getD x 0 = x)
      sz (e := [some (.ref a), some (dN n), some (dN kind), some (.ref h.length), some (.ref (h.length + 1)), none, none, some (dN low), some (dN sz), some (.ref (h.length + 2)), none]) (h := HP h a o4 row (List.range n) [.lst (inn.map dN)])
      ⟨none, List.range n, rfl, rfl, by simp, fun b hb => absurd hb (by omega), fun x hx _ => range_getD hx⟩ (by
        rintro i e h' hi ⟨x6, img, rfl, rfl, li, i1, i2⟩
        have em : ((i : Int) + 1) % (sz : Int) = (((i + 1) % sz : Nat) : Int) := by push_cast; rfl
        have hp : (0 : Int) < (sz : Int) := by omega
        have pb : ∀ (img : List Nat) v r h, img.length = n → putO (some (.lst (img.map dN))) r ((low : Int) + (i : Int)) (dN v) h = some (h.set r (.lst ((img.set (low + i) v).map dN))) := fun img v r h hl => putO_N (i := low + i) (by omega)
        have g1 := fun img => HP_1 (h := h) (a := a) (o := o4) (row := row) (img := img) (g := [.lst (inn.map dN)])
        have g2 : ∀ img, (HP h a o4 row img [.lst (inn.map dN)])[h.length + 2]? = some (.lst (inn.map dN)) := fun img => HP_g (i := 0)
        have s1 := fun (img v : List Nat) => HP_s1 (h := h) (a := a) (o := o4) (row := row) (img := img) (g := [.lst (inn.map dN)]) v
        have x1 : ∀ h, ixD (inn.map dN) (i : Int) h = .ok (dN (inn.getD i 0)) h := fun h => ixD_N (by omega)
        refine ⟨[some (.ref a), some (dN n), some (dN kind), some (.ref h.length), some (.ref (h.length + 1)), none, some (dN i), some (dN low), some (dN sz), some (.ref (h.length + 2)), none], HP h a o4 row (img.set (low + i) (T i)) [.lst (inn.map dN)], ?_, some (dN i), img.set (low + i) (T i), rfl, rfl, by simpa using li, fun b hb => ?_, fun x hx hb => ?_⟩
        · have pb1 := fun v r h => pb img v r h li
          have pb2 := fun v' v r h => pb (img.set (low + i) v') v r h (by simpa using li)
          have ec : ∀ m : Nat, (low : Int) + (m : Int) = ((low + m : Nat) : Int) := fun m => by omega
          have hh1 := g1 img
          have st1 : sAsg (eOp oAdd (eVar 7) (eOp oMod (eCall cInt (lCons (eOp oAdd (eVar 6) (eC (.int 1))) lNil)) (eVar 8))) (fun d e h => onlyNx ((gSub putL (eVar 4) (eOp oAdd (eVar 7) (eVar 6))) d e h)) [some (.ref a), some (dN n), some (dN kind), some (.ref h.length), some (.ref (h.length + 1)), none, some (dN i), some (dN low), some (dN sz), some (.ref (h.length + 2)), none] (HP h a o4 row img [.lst (inn.map dN)]) = .nx [some (.ref a), some (dN n), some (dN kind), some (.ref h.length), some (.ref (h.length + 1)), none, some (dN i), some (dN low), some (dN sz), some (.ref (h.length + 2)), none] (HP h a o4 row (img.set (low + i) (low + (i + 1) % sz)) [.lst (inn.map dN)]) := by
            have fin0 := s1 img (img.set (low + i) (low + (i + 1) % sz))
            rw [← fin0]
            have pb1' := pb1 (low + (i + 1) % sz)
            have hp' : 0 < sz := by omega
            generalize HP h a o4 row img [.lst (inn.map dN)] = H at *
            generalize (i + 1) % sz = m at *
            have ecm := ec m
            simp only [dN] at pb1'
            rw [← ecm] at pb1'
            simp [oMod_, hp', em, hh1, pb1', -List.map_set]
          unfold lb__law_perm_2
          rw [show List.set [some (D.ref a), some (dN n), some (dN kind), some (.ref h.length), some (.ref (h.length + 1)), none, x6, some (dN low), some (dN sz), some (.ref (h.length + 2)), none] 6 (some (dN i)) = [some (.ref a), some (dN n), some (dN kind), some (.ref h.length), some (.ref (h.length + 1)), none, some (dN i), some (dN low), some (dN sz), some (.ref (h.length + 2)), none] from rfl]
          rw [sSeq_, st1, sthen_nx]
          by_cases k3 : kind = 3
          · have eT : T i = inn.getD i 0 := by rw [hTd]; exact if_pos k3
            have fin := s1 (img.set (low + i) (low + (i + 1) % sz)) (img.set (low + i) (T i))
            rw [← fin, eT]
            have pb2' := pb2 (low + (i + 1) % sz) (inn.getD i 0)
            rw [List.set_set] at pb2'
            have hh2 := g1 (img.set (low + i) (low + (i + 1) % sz))
            have hh3 := g2 (img.set (low + i) (low + (i + 1) % sz))
            generalize inn.getD i 0 = v at *
            generalize HP h a o4 row (img.set (low + i) (low + (i + 1) % sz)) [.lst (inn.map dN)] = H at *
            subst k3
            simp only [dN] at x1 pb2'
            simp [hh2, hh3, x1, pb2', -List.map_set]
          · have eT : T i = low + (i + 1) % sz := by rw [hTd]; exact if_neg k3
            have k3' : ¬ (kind : Int) = 3 := by omega
            rw [eT]
            generalize HP h a o4 row (img.set (low + i) (low + (i + 1) % sz)) [.lst (inn.map dN)] = H at *
            simp [k3', k3]
        · rw [getD_set (by omega)]
          by_cases e : b = i
          · subst e; rw [if_pos rfl]
          · rw [if_neg fun z => e (by omega)]
            exact i1 b (by omega)
        · rw [getD_set (by omega), if_neg (hb i (by omega))]
          exact i2 x hx fun b hb' => hb b (by omega))
    have IM : IsP n img := patchP li (m := sz) (fun b => low + b) T (fun b hb => by omega) (fun b c hb hc e => by omega) (fun b c hb hc e => by
      rw [hTd] at e
      dsimp only at e
      split at e
      · exact nodup_getD ndi (by omega) (by omega) e
      · by_cases q1 : b + 1 = sz
        · by_cases q2 : c + 1 = sz
          · omega
          · rw [q1, Nat.mod_self, Nat.mod_eq_of_lt (by omega)] at e; omega
        · by_cases q2 : c + 1 = sz
          · rw [q2, Nat.mod_self, Nat.mod_eq_of_lt (by omega)] at e; omega
          · rw [Nat.mod_eq_of_lt (by omega), Nat.mod_eq_of_lt (by omega)] at e; omega) (fun b hb => by
      rw [hTd]
      dsimp only
      split
      · have := hT b hb
        exact ⟨inn.getD b 0 - low, by omega, by omega⟩
      · exact ⟨(b + 1) % sz, Nat.mod_lt _ (by omega), rfl⟩) i1 i2
    have r3 : RgB (sz : Int) := rgB_nat (by omega)
    have gi := HP_1 (h := h) (a := a) (o := o4) (row := row) (img := img) (g := [.lst (inn.map dN)])
    refine sqR (e1 := [some (.ref a), some (dN n), some (dN kind), some (.ref h.length), some (.ref (h.length + 1)), none, x6, some (dN low), some (dN sz), some (.ref (h.length + 2)), none]) (h1 := HP h a o4 row img [.lst (inn.map dN)]) (by simp [r3, rg_zero, w]) ?_
    exact ⟨dC img, HP h a o4 row img [.lst (inn.map dN)], by simp [gi, dC], img, o4, _, rfl, rfl, IM, B4.mono (by omega)⟩
theorem perm_spec {h : AH} {a N : Nat} {o : AO} (ha : h[a]? = some o) (hb : Bag N o) {n : Nat} (h1 : 1 ≤ n) (hn : n ≤ 1000) (hN : N + n + 10 ≤ 1000000000) :
    ∃ p o', c__law_perm [.ref a, dN n] h = .ok (dC p) (h.set a o') ∧ IsP n p ∧ Bag (N + n + 10) o' := by
  obtain ⟨d, h', e, p, o', g, rfl, rfl, P, B⟩ := perm_run ha hb h1 hn hN
  refine ⟨p, o', ?_, P, B⟩
  have e2 : c__law_perm [.ref a, dN n] h = gc h (.ok (dC p) (h.set a o' ++ g)) := by
    unfold c__law_perm fsem
    rw [show ([D.ref a, dN n].map some ++ List.replicate (11 - [D.ref a, dN n].length) none : AE) = [some (.ref a), some (dN n), none, none, none, none, none, none, none, none, none] from rfl, e]
    rfl
  rw [e2, gc_set_app (by simp [dC]) B.flat]
end Law

set_option maxHeartbeats 4000000
namespace Law
open PySem Rf L2
theorem ifTake {i N : Nat} {c c2 s : Int} {e : AE} {o : AO} {g : AH} {v : Nat} (e1 : e[1]? = some (some (.ref 0))) (e2 : e[i]? = some (some (dN v))) (B : Bag N o) (hN : N + 2 ≤ 1000000000) (h0 : 0 ≤ c2) (hs : 0 < s) (hs2 : s ≤ 100) :
    ∃ (v' : Nat) (o' : AO), sIf (eOp oEq (eCall (argn 2 c__law_take) (lCons (eVar 1) (lCons (eC (.int 8)) lNil))) (eC (.int c))) (sSet i (eOp oAdd (eC (.int c2)) (eCall (argn 2 c__law_take) (lCons (eVar 1) (lCons (eC (.int s)) lNil))))) sPass e (o :: g) = .nx (e.set i (some (dN v'))) (o' :: g) ∧
      (v' = v ∨ (c2 ≤ v' ∧ v' < c2 + s)) ∧ Bag (N + 2) o' := by
  obtain ⟨d, o1, t1, hd, B1⟩ := take_spec (h := o :: g) (a := 0) (s := 8) rfl B (by omega) (by omega) (by omega)
  obtain ⟨d2, o2, t2, hd2, B2⟩ := take_spec (h := o1 :: g) (a := 0) (s := s) rfl B1 (by omega) hs (by omega)
  simp only [List.set_cons_zero] at t1 t2
  by_cases q : (d : Int) = c
  · refine ⟨(c2 + d2).toNat, o2, ?_, .inr (by omega), B2⟩
    have : dN (c2 + d2).toNat = .int (c2 + d2) := by unfold dN; rw [Int.toNat_of_nonneg (by omega)]
    rw [this]
    simp [e1, t1, t2, q]
  · refine ⟨v, o1, ?_, .inl rfl, B1.mono (by omega)⟩
    rw [set_self e2]
    simp [e1, t1, q]
theorem law_true (ns : List Int) (hl : ns.length ≤ 63) : ∃ h', c_law [.rol (ns.map D.int)] [] = .ok (.bl true) h' := by
  suffices H : ∃ h', m_law [some (.rol (ns.map D.int)), none, none, none, none, none, none] [] = .rt (.bl true) h' by
    obtain ⟨h', e⟩ := H
    obtain ⟨h2, e2⟩ := gc_bl (h := []) (h' := h') (b := true)
    refine ⟨h2, ?_⟩
    rw [← e2]
    unfold c_law fsem
    rw [show ([D.rol (ns.map D.int)].map some ++ List.replicate (7 - [D.rol (ns.map D.int)].length) none : AE) = [some (.rol (ns.map D.int)), none, none, none, none, none, none] from rfl, e]
    rfl
  obtain ⟨X, hX⟩ : ∃ X, X = D.rol (ns.map D.int) := ⟨_, rfl⟩
  rw [← hX]
  have bagS : ∀ (k : Nat) (h : AH), k ≤ 100 → ∃ o, c__law_bag [X, .int (k : Nat)] h = .ok (.ref h.length) (h ++ [o]) ∧ Bag 6400 o := fun k h hk => by rw [hX]; exact bag_spec hl hk
  obtain ⟨o0, b0, B0⟩ := bagS 0 [] (by omega)
  obtain ⟨d1, o1, t1, hd1, B1⟩ := take_spec (h := [o0]) (a := 0) (s := 8) rfl B0 (by omega) (by omega) (by omega)
  obtain ⟨n0, hn0⟩ : ∃ n0, n0 = d1 + 1 := ⟨_, rfl⟩
  have en0 : 1 + (d1 : Int) = (n0 : Int) := by omega
  obtain ⟨n, o2, i2, hn, B2⟩ := ifTake (i := 2) (c := 3) (c2 := 9) (s := 16) (g := []) (e := [some X, some (.ref 0), some (dN n0), none, none, none, none]) (v := n0) rfl rfl B1 (by omega) (by omega) (by omega) (by omega)
  have n1 : 1 ≤ n := by omega
  have n2 : n ≤ 24 := by omega
  obtain ⟨p0, o3, t3, hp0, B3⟩ := take_spec (h := [o2]) (a := 0) (s := 5) rfl B2 (by omega) (by omega) (by omega)
  obtain ⟨np, o4, i4, hnp, B4⟩ := ifTake (i := 3) (c := 5) (c2 := 5) (s := 4) (g := []) (e := [some X, some (.ref 0), some (dN n), some (dN p0), none, none, none]) (v := p0) rfl rfl B3 (by omega) (by omega) (by omega) (by omega)
  have np2 : np ≤ 8 := by omega
  -- the perms
  obtain ⟨ac1, h1, l1, ps, g2, rfl, rfl, lps, Pps⟩ := eLc_inv (φ := dN) (k := 5) (vs := [5]) (mi := iRange1 (lCons (eVar 3) lNil)) (te := eCall (argn 2 c__law_perm) (lCons (eCall (argn 2 c__law_bag) (lCons (eVar 0) (lCons (eOp oAdd (eC (.int 1)) (eVar 5)) lNil))) (lCons (eVar 2) lNil)))
    (e := [some X, some (.ref 0), some (dN n), some (dN np), none, none, none]) (h := [o4]) (List.range np) (iRange1_nat (by simp) (by omega)) (by simp; omega)
    (fun i acc h' => ∃ ps g, acc = ps.map dC ∧ h' = o4 :: g ∧ ps.length = i ∧ ∀ p ∈ ps, IsP n p)
    ⟨[], [], rfl, rfl, rfl, fun p hp => absurd hp (by simp)⟩ (by
      rintro i x acc h' hx ⟨ps, g, rfl, rfl, lps, Pps⟩
      have hi : i < np := by have := (List.getElem?_eq_some_iff.mp hx).1; simpa using this
      obtain rfl : i = x := by rw [List.getElem?_range hi] at hx; exact Option.some.inj hx
      obtain ⟨ob, b8, B8⟩ := bagS (1 + i) (o4 :: g) (by omega)
      obtain ⟨p, ob', t8, P, _⟩ := perm_spec (h := (o4 :: g) ++ [ob]) (a := (o4 :: g).length) (by simp) B8 n1 (by omega) (by omega)
      obtain ⟨g1, hg1⟩ : ∃ g1, ((o4 :: g) ++ [ob]).set (o4 :: g).length ob' = o4 :: g1 := ⟨g ++ [ob'], by simp⟩
      rw [hg1] at t8
      refine ⟨dC p, o4 :: g1, ?_, ps ++ [p], g1, by simp, rfl, by simp [lps], fun q hq => ?_⟩
      · have b8' : c__law_bag [X, .int (1 + (i : Int))] (o4 :: g) = .ok (.ref (o4 :: g).length) (o4 :: g ++ [ob]) := b8
        generalize o4 :: g ++ [ob] = Hb at b8' t8
        generalize hlen : (o4 :: g).length = ln at b8' t8
        simp [wipeE, b8', t8, dC]
      · rcases List.mem_append.mp hq with hq | hq
        · exact Pps q hq
        · rw [List.mem_singleton] at hq; subst hq; exact P)
  rw [List.length_range] at lps
  obtain ⟨g3, hg3⟩ : ∃ g3, g3 = g2 ++ [.lst (ps.map dC)] := ⟨_, rfl⟩
  have oh1 := fun h => orbits_hold (h := h) Pps n1 (by omega)
  obtain ⟨s1, o5, t5, hs1, B5⟩ := take_spec (h := o4 :: g3) (a := 0) (s := (n : Int)) rfl B4 (by omega) (by omega) (by omega)
  simp only [List.set_cons_zero] at t5
  have wh1 := fun h => ways_hold (h := h) Pps (s := s1) (by omega) (by omega) (by omega) false
  have Pt : ∀ p ∈ ps.take (np / 2), IsP n p := fun p hp => Pps p (List.mem_of_mem_take hp)
  have oh2 := fun h => orbits_hold (h := h) Pt n1 (by omega)
  obtain ⟨s2, o6, t6, hs2, B6⟩ := take_spec (h := o5 :: g3) (a := 0) (s := (n : Int)) rfl B5 (by omega) (by omega) (by omega)
  simp only [List.set_cons_zero] at t6
  have wh2 := fun h => ways_hold (h := h) Pps (s := s2) (by omega) (by omega) (by omega) true
  obtain ⟨ts, hts⟩ : ∃ ts, ts = (List.range np).reverse.map fun k => ps.getD k [] := ⟨_, rfl⟩
  have l4 : lc_law_2 [some X, some (.ref 0), some (dN n), some (dN np), some (.tup (ps.map dC)), none, none] (o6 :: g3) = .ok (.ref (o6 :: g3).length) ((o6 :: g3) ++ [.lst (ts.map dC)]) := by
    unfold lc_law_2
    have r1 : RgB (np : Int) := rgB_nat (by omega)
    rw [eLc_map (φ := dN) (List.range np).reverse (fun k => dC (ps.getD k [])) (h1 := o6 :: g3) (by simp [iRevRange1, r1, rg_zero]) (by rw [sizeLine_eq]; simp; omega)]
    · rw [hts, List.map_map]; rfl
    · intro k hk
      rw [List.mem_reverse, List.mem_range] at hk
      have x1 : ∀ h, ixD (ps.map dC) (k : Int) h = .ok (dC (ps.getD k [])) h := fun h => ixD_map (getD_some (by omega))
      simp [wipeE, x1, -List.getD_eq_getElem?_getD]
  have Ptt : ∀ p ∈ ts, IsP n p := fun p hp => by
    rw [hts] at hp
    obtain ⟨k, hk, rfl⟩ := List.mem_map.mp hp
    rw [List.mem_reverse, List.mem_range] at hk
    exact Pps _ (getD_mem (by omega))
  have oh3 := fun h => orbits_hold (h := h) Ptt n1 (by omega)
  -- the run
  unfold m_law
  refine sqE (e1 := [some X, some (.ref 0), none, none, none, none, none]) (h1 := [o0]) (by
    have b0' : c__law_bag [X, .int 0] [] = .ok (.ref 0) [o0] := b0
    simp [b0']) ?_
  refine sqE (e1 := [some X, some (.ref 0), some (dN n0), none, none, none, none]) (h1 := [o1]) (by simp [t1, en0]) ?_
  refine sqE i2 ?_
  refine sqE (e1 := [some X, some (.ref 0), some (dN n), some (dN p0), none, none, none]) (h1 := [o3]) (by simp [t3]) ?_
  refine sqE i4 ?_
  refine sqE (e1 := [some X, some (.ref 0), some (dN n), some (dN np), some (.tup (ps.map dC)), none, none]) (h1 := o4 :: g3) (by
    unfold lc_law_1
    simp [l1, hg3]) ?_
  refine sqE (e1 := [some X, some (.ref 0), some (dN n), some (dN np), some (.tup (ps.map dC)), none, none]) (h1 := o4 :: g3) (by simp [oh1]) ?_
  refine sqE (e1 := [some X, some (.ref 0), some (dN n), some (dN np), some (.tup (ps.map dC)), none, none]) (h1 := o5 :: g3) (by simp [t5, wh1]) ?_
  have ct : cutD (ps.map dC) none (some ((np : Int) / 2)) = (ps.take (np / 2)).map dC := by
    rw [show (np : Int) / 2 = ((np / 2 : Nat) : Int) by omega, cutD_to, List.map_take]
  refine sqE (e1 := [some X, some (.ref 0), some (dN n), some (dN np), some (.tup (ps.map dC)), none, none]) (h1 := o5 :: g3) (by
    generalize ps.take (np / 2) = qs at ct oh2
    simp [oDiv_, ct, oh2]) ?_
  refine sqE (e1 := [some X, some (.ref 0), some (dN n), some (dN np), some (.tup (ps.map dC)), none, none]) (h1 := o6 :: g3) (by simp [t6, wh2]) ?_
  refine sqE (e1 := [some X, some (.ref 0), some (dN n), some (dN np), some (.tup (ps.map dC)), none, some (.tup (ts.map dC))]) (h1 := (o6 :: g3) ++ [.lst (ts.map dC)]) (by
    clear hts
    simp [l4]) ?_
  exact ⟨(o6 :: g3) ++ [.lst (ts.map dC)], by simp [oh3]⟩
end Law

open PySem PySem.W PyProof.Rows
set_option maxHeartbeats 0 in
theorem PySem.Challenge.cw_tumbler_k09_orbits_and_ways_holds : PySem.Challenge.rw_tumbler_k09_orbits_and_ways.Holds := by
  w_on; o_law; k_head; (case hw => w_witness2)
  k_fill
  refine L2.walk_of (l := PySem.Challenge.rw_tumbler_k09_orbits_and_ways) (n := 63) (k := 6) (x := "script") (CX := fun w => L2.CX PySem.Challenge.rw_tumbler_k09_orbits_and_ways.prog w) (sp := fun w => Rf.spLaw _ Law.c_law) rfl (by decide) rfl ⟨rfl, by decide, by decide⟩ (fun w h Y => PySem.W.kIn_of Y) ?F (fun w H a ns hl O S => Rf.spLaw.start O S (Law.law_true ns hl)) (fun _ _ _ _ _ h => Rf.cx_false h)
  case F =>
    intro w mg fa h KX G hmg
    refine' Law.all_mk KX G hmg ?a0 ?l0 ?c0 ?k0 ?a1 ?l1 ?c1 ?k1 ?a2 ?l2 ?c2 ?k2 ?a3 ?l3 ?c3 ?k3 ?a4 ?l4 ?c4 ?k4 ?a5 ?l5 ?c5 ?k5 ?a6 ?l6 ?c6 ?k6 ?a7 ?l7 ?c7 ?k7 ?a8 ?l8 ?c8 ?k8 ?a9 ?l9 ?c9 ?k9 ?a10 ?l10 ?c10 ?k10 ?a11 ?l11 ?c11 ?k11 ?a12 ?l12 ?c12 ?k12 ?a13 ?l13 ?c13 ?k13 ?a14 ?l14 ?c14 ?k14 ?a15 ?l15 ?c15 ?k15 ?a16 ?l16 ?c16 ?k16 ?a17 ?l17 ?c17 ?k17 ?a18 ?l18 ?c18 ?k18 ?a19 ?l19 ?c19 ?k19 ?a20 ?l20 ?c20 ?k20 ?a21 ?l21 ?c21 ?k21 ?a22 ?l22 ?c22 ?k22 ?a23 ?l23 ?c23 ?k23 ?a24 ?l24 ?c24 ?k24 ?a25 ?l25 ?c25 ?k25 ?z0 ?z1 ?z2 ?z3 ?z4 ?z5 ?z6 ?z7 ?z8 ?z9 ?z10 ?z11 ?z12
    (case a0 => k_is); (case l0 => k_is); (case c0 => k_is); (case k0 => k_is); (case a1 => k_is); (case l1 => k_is); (case c1 => k_is); (case k1 => k_is); (case a2 => k_is); (case l2 => k_is); (case c2 => k_is); (case k2 => k_is); (case a3 => k_is); (case l3 => k_is); (case c3 => k_is); (case k3 => k_is); (case a4 => k_is); (case l4 => k_is); (case c4 => k_is); (case k4 => k_is); (case a5 => k_is); (case l5 => k_is); (case c5 => k_is); (case k5 => k_is); (case a6 => k_is); (case l6 => k_is); (case c6 => k_is); (case k6 => k_is); (case a7 => k_is); (case l7 => k_is); (case c7 => k_is); (case k7 => k_is); (case a8 => k_is); (case l8 => k_is); (case c8 => k_is); (case k8 => k_is); (case a9 => k_is); (case l9 => k_is); (case c9 => k_is); (case k9 => k_is); (case a10 => k_is); (case l10 => k_is); (case c10 => k_is); (case k10 => k_is); (case a11 => k_is); (case l11 => k_is); (case c11 => k_is); (case k11 => k_is); (case a12 => k_is); (case l12 => k_is); (case c12 => k_is); (case k12 => k_is); (case a13 => k_is); (case l13 => k_is); (case c13 => k_is); (case k13 => k_is); (case a14 => k_is); (case l14 => k_is); (case c14 => k_is); (case k14 => k_is); (case a15 => k_is); (case l15 => k_is); (case c15 => k_is); (case k15 => k_is); (case a16 => k_is); (case l16 => k_is); (case c16 => k_is); (case k16 => k_is); (case a17 => k_is); (case l17 => k_is); (case c17 => k_is); (case k17 => k_is); (case a18 => k_is); (case l18 => k_is); (case c18 => k_is); (case k18 => k_is); (case a19 => k_is); (case l19 => k_is); (case c19 => k_is); (case k19 => k_is); (case a20 => k_is); (case l20 => k_is); (case c20 => k_is); (case k20 => k_is); (case a21 => k_is); (case l21 => k_is); (case c21 => k_is); (case k21 => k_is); (case a22 => k_is); (case l22 => k_is); (case c22 => k_is); (case k22 => k_is); (case a23 => k_is); (case l23 => k_is); (case c23 => k_is); (case k23 => k_is); (case a24 => k_is); (case l24 => k_is); (case c24 => k_is); (case k24 => k_is); (case a25 => k_is); (case l25 => k_is); (case c25 => k_is); (case k25 => k_is); (case z0 => k_is); (case z1 => k_is); (case z2 => k_is); (case z3 => k_is); (case z4 => k_is); (case z5 => k_is); (case z6 => k_is); (case z7 => k_is); (case z8 => k_is); (case z9 => k_is); (case z10 => k_is); (case z11 => k_is); (case z12 => k_is)
