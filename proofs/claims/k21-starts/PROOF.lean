import PyProof.Rows.All
import Wide.All
import OpenK.AllK
import Wide.FinOn
import HandS.ForMost
import HandS.Defaults
import HandS.ForExc
import HandS.CallSlots
import HandS.Deep
import HandS.Conv
import HandS.TupMul
import HandS.TupAny
import HandS.Wide
import HandS.Flow
import HandS.RaiseMore
import KE.SortData
import HandS.EndBits
import KE.OsSortAny
import HandS.Head0
import HandS.Head1
import HandS.Head2
import HandS.HeadEnd
import HandS.HeadHook1
import HandS.HeadHook2
import PySem.Challenge.RW_strongbit_k21_starts
set_option Elab.async false
set_option linter.all false
set_option maxRecDepth 100000
set_option maxHeartbeats 4000000
/-! # DL: readings over plain data. A D is a value with its immutable (or no longer changed) data inside; what still changes stands in a ghost heap O by address. -/
namespace DL
open PySem L2

inductive D where
  | non | bl (b : Bool) | int (i : Int) | str (x : Str) | ref (a : Addr) | ty (n : String)
  | lst (ds : List D) | tup (ds : List D)

abbrev Frag := PySem.W.Frag
abbrev St := L2.St
mutual
inductive RV (K : Frag) (F : Hp) : D → V → Prop
  | non : RV K F .non .non
  | bl (b : Bool) : RV K F (.bl b) (.bl b)
  | int (i : Int) : RV K F (.int i) (.int i)
  | str (x : Str) : RV K F (.str x) (.str x)
  | ref (a : Addr) : RV K F (.ref a) (.ref a)
  | ty (n : String) : RV K F (.ty n) (.ty n)
  | lst {a : Addr} {xs : List V} {ds : List D} : SqL K F a xs → RVs K F ds xs → RV K F (.lst ds) (.ref a)
  | tup {a : Addr} {xs : List V} {ds : List D} : SqT K F a xs → RVs K F ds xs → RV K F (.tup ds) (.ref a)
inductive RVs (K : Frag) (F : Hp) : List D → List V → Prop
  | nil : RVs K F [] []
  | cons {d : D} {ds : List D} {v : V} {vs : List V} : RV K F d v → RVs K F ds vs → RVs K F (d :: ds) (v :: vs)
end

theorem same_tup {K : Frag} {H H' : Hp} {a : Addr} {xs : List V} (e : Same H H') (h : SqT K H a xs) : SqT K H' a xs := by
  rcases h with (h | ⟨o, h⟩) | h
  · exact .inl (.inl (e _ _ h))
  · exact .inl (.inr ⟨o, e _ _ h⟩)
  · exact .inr h

mutual
theorem RV.mono {K : Frag} {F F' : Hp} (s : Same F F') : ∀ {d : D} {v : V}, RV K F d v → RV K F' d v
  | _, _, .non => .non
  | _, _, .bl b => .bl b
  | _, _, .int i => .int i
  | _, _, .str x => .str x
  | _, _, .ref a => .ref a
  | _, _, .ty n => .ty n
  | _, _, .lst h hs => .lst (s.seq h) (RVs.mono s hs)
  | _, _, .tup h hs => .tup (same_tup s h) (RVs.mono s hs)
theorem RVs.mono {K : Frag} {F F' : Hp} (s : Same F F') : ∀ {ds : List D} {vs : List V}, RVs K F ds vs → RVs K F' ds vs
  | _, _, .nil => .nil
  | _, _, .cons h hs => .cons (RV.mono s h) (RVs.mono s hs)
end
section
variable {K : Frag} {F : Hp}
theorem RVs.length : ∀ {ds : List D} {vs : List V}, RVs K F ds vs → ds.length = vs.length
  | _, _, .nil => rfl
  | _, _, .cons _ hs => congrArg (· + 1) (RVs.length hs)
theorem RVs.append : ∀ {ds es : List D} {vs ws : List V}, RVs K F ds vs → RVs K F es ws → RVs K F (ds ++ es) (vs ++ ws)
  | _, _, _, _, .nil, h => h
  | _, _, _, _, .cons h hs, h' => .cons h (RVs.append hs h')
theorem RVs.get : ∀ {ds : List D} {vs : List V} {i : Nat} {d : D}, RVs K F ds vs → ds[i]? = some d → ∃ v, vs[i]? = some v ∧ RV K F d v
  | _, _, _, _, .nil, e => by simp at e
  | _, _, 0, _, .cons h _, e => by simp at e; subst e; exact ⟨_, rfl, h⟩
  | _, _, i + 1, d, .cons _ hs, e => by
    obtain ⟨v, h1, h2⟩ := RVs.get (i := i) (d := d) hs (by simpa using e)
    exact ⟨v, by simpa using h1, h2⟩
theorem RVs.get' : ∀ {ds : List D} {vs : List V} {i : Nat} {v : V}, RVs K F ds vs → vs[i]? = some v → ∃ d, ds[i]? = some d ∧ RV K F d v
  | _, _, _, _, .nil, e => by simp at e
  | _, _, 0, _, .cons h _, e => by simp at e; subst e; exact ⟨_, rfl, h⟩
  | _, _, i + 1, d, .cons _ hs, e => by
    obtain ⟨v, h1, h2⟩ := RVs.get' (i := i) (v := d) hs (by simpa using e)
    exact ⟨v, by simpa using h1, h2⟩
theorem RVs.set {d : D} {v : V} (r : RV K F d v) : ∀ {ds : List D} {vs : List V} (i : Nat), RVs K F ds vs → RVs K F (ds.set i d) (vs.set i v)
  | _, _, _, .nil => .nil
  | _, _, 0, .cons _ t => .cons r t
  | _, _, i + 1, .cons q t => .cons q (RVs.set r i t)
theorem RVs.take : ∀ {ds : List D} {vs : List V} (n : Nat), RVs K F ds vs → RVs K F (ds.take n) (vs.take n)
  | _, _, 0, _ => .nil
  | _, _, _ + 1, .nil => .nil
  | _, _, n + 1, .cons r t => .cons r (RVs.take n t)
theorem RVs.drop : ∀ {ds : List D} {vs : List V} (n : Nat), RVs K F ds vs → RVs K F (ds.drop n) (vs.drop n)
  | _, _, 0, r => r
  | _, _, _ + 1, .nil => .nil
  | _, _, n + 1, .cons _ t => RVs.drop n t
theorem RVs.one {d : D} {vs : List V} (h : RVs K F [d] vs) : ∃ v, vs = [v] ∧ RV K F d v := by
  cases h with
  | cons h hs => cases hs; exact ⟨_, rfl, h⟩
theorem RVs.two {d e : D} {vs : List V} (h : RVs K F [d, e] vs) : ∃ v w, vs = [v, w] ∧ RV K F d v ∧ RV K F e w := by
  cases h with
  | cons h hs =>
    obtain ⟨w, rfl, h2⟩ := hs.one
    exact ⟨_, _, rfl, h, h2⟩
end

/-! ### what still changes -/
inductive OD where
  | lst (ds : List D)
  | dK (kvs : List (Key × D))
  | dT (kvs : List (List Key × D))
  | ins (C dx : Addr) (fs : List (Str × D))

abbrev Ow := Addr → Option OD
abbrev Env := List (Option D)
def setO (O : Ow) (a : Addr) (o : OD) : Ow := fun b => if b = a then some o else O b
theorem setO_same {O : Ow} {a : Addr} {o : OD} : setO O a o a = some o := by unfold setO; rw [if_pos rfl]
theorem setO_ne {O : Ow} {a b : Addr} {o : OD} (h : b ≠ a) : setO O a o b = O b := by unfold setO; rw [if_neg h]
theorem setO_setO {O : Ow} {a : Addr} {o u : OD} : setO (setO O a o) a u = setO O a u := by
  funext b; unfold setO; split <;> rfl

/-- what is forgotten of the ghost heap -/
def SubO (a b : Ow) : Prop := ∀ p o, a p = some o → b p = some o
theorem SubO.refl (O : Ow) : SubO O O := fun _ _ h => h
theorem SubO.trans {a b c : Ow} (h : SubO a b) (h' : SubO b c) : SubO a c := fun p o e => h' p o (h p o e)
theorem SubO.gone {a b : Ow} (h : SubO a b) {p : Addr} (e : b p = Option.none) : a p = Option.none := by
  cases z : a p with
  | none => rfl
  | some o => rw [h p o z] at e; cases e
theorem SubO.fresh {O : Ow} {p : Addr} {o : OD} (h : O p = none) : SubO O (setO O p o) := fun q x e => by
  have : q ≠ p := fun z => by rw [z, h] at e; cases e
  rw [setO_ne this]; exact e

def RKV {κ : Type} (K : Frag) (F : Hp) : List (κ × D) → List (κ × V) → Prop := Paired fun (p : κ × D) (q : κ × V) => p.1 = q.1 ∧ RV K F p.2 q.2
def RO (K : Frag) (F : Hp) : OD → HO → Prop
  | .lst ds, o => ∃ vs, o = .lst vs ∧ RVs K F ds vs
  | .dK kvs, o => ∃ ks, o = .dK ks ∧ RKV K F kvs ks
  | .dT kvs, o => ∃ ks, o = .dT ks ∧ RKV K F kvs ks
  | .ins C dx fs, o => ∃ gs, o = .ins C dx gs ∧ RKV K F fs gs
theorem RKV.mono {κ : Type} {K : Frag} {F F' : Hp} (s : Same F F') : ∀ {l : List (κ × D)} {m : List (κ × V)}, RKV K F l m → RKV K F' l m
  | _, _, .nil => .nil
  | _, _, .cons h t => .cons ⟨h.1, h.2.mono s⟩ (RKV.mono s t)
theorem RO.mono {K : Frag} {F F' : Hp} (s : Same F F') : ∀ {o : OD} {h : HO}, RO K F o h → RO K F' o h
  | .lst _, _, ⟨vs, e, r⟩ => ⟨vs, e, r.mono s⟩
  | .dK _, _, ⟨vs, e, r⟩ => ⟨vs, e, RKV.mono s r⟩
  | .dT _, _, ⟨vs, e, r⟩ => ⟨vs, e, RKV.mono s r⟩
  | .ins _ _ _, _, ⟨vs, e, r⟩ => ⟨vs, e, RKV.mono s r⟩

/-- what a heap says of the ghost one -/
def OwOk (K : Frag) (O : Ow) (H F : Hp) : Prop := ∀ p o, O p = some o → F p = none ∧ ∃ ho, H p = some ho ∧ RO K F o ho
/-- the names hold this data -/
def Sl (K : Frag) (env : Env) (σ : St) (F : Hp) : Prop := env.length = σ.length ∧ ∀ (i : Nat) (d : D), env[i]? = some (some d) → ∃ v, σ[i]? = some (some v) ∧ RV K F d v
/-- from one moment to a later one: what was frozen stays so, what is nobody's own stands as it stood -/
structure After (K : Frag) (O : Ow) (H F : Hp) (O' : Ow) (H' F' : Hp) : Prop where
  ff : Same F F'
  fh : Same F' H'
  kp : ∀ a o, H a = some o → O a = none → H' a = some o
  fr : ∀ a, H a ≠ none → O a = none → F a = none → F' a = none
  ow : OwOk K O' H' F'
  nw : ∀ p o, O' p = some o → O p ≠ none ∨ H p = none

/-- a moment: the base from which a body (or a try) goes on -/
structure Bd where
  K : Frag
  O : Ow
  H : Hp
  F : Hp
structure Rel (B : Bd) (env : Env) (O : Ow) (σ : St) (H F : Hp) : Prop where
  af : After B.K B.O B.H B.F O H F
  sl : Sl B.K env σ F

section
variable {K : Frag} {B : Bd} {env : Env} {O : Ow} {σ : St} {H F : Hp}
theorem Rel.fh (R : Rel B env O σ H F) : Same F H := R.af.fh
theorem Rel.ow (R : Rel B env O σ H F) : OwOk B.K O H F := R.af.ow
theorem Sl.mono {F' : Hp} (h : Sl K env σ F) (s : Same F F') : Sl K env σ F' := ⟨h.1, fun i d e => let ⟨v, e1, r⟩ := h.2 i d e; ⟨v, e1, r.mono s⟩⟩
theorem After.rfl' (fh : Same F H) (ow : OwOk K O H F) : After K O H F O H F := ⟨Same.refl _, fh, fun _ _ e _ => e, fun _ _ _ e => e, ow, fun _ _ e => .inl (by rw [e]; simp)⟩
theorem After.refl (R : Rel B env O σ H F) : After B.K O H F O H F := .rfl' R.fh R.ow
theorem After.trans {O1 O2 : Ow} {H1 F1 H2 F2 : Hp} (a : After K O H F O1 H1 F1) (b : After K O1 H1 F1 O2 H2 F2) : After K O H F O2 H2 F2 := by
  have hO : ∀ x, H x ≠ none → O x = none → O1 x = none := fun x h1 h2 => by
    cases e : O1 x with
    | none => rfl
    | some o => rcases a.nw x o e with z | z; exact absurd h2 z; exact absurd z h1
  have hH : ∀ x, H x ≠ none → O x = none → H1 x ≠ none := fun x h1 h2 => by
    cases e : H x with
    | none => exact absurd e h1
    | some o => rw [a.kp x o e h2]; simp
  refine ⟨a.ff.trans b.ff, b.fh, fun x o e h => b.kp x o (a.kp x o e h) (hO x (by rw [e]; simp) h), fun x h1 h2 h3 => b.fr x (hH x h1 h2) (hO x h1 h2) (a.fr x h1 h2 h3), b.ow, fun p o e => ?_⟩
  rcases b.nw p o e with z | z
  · cases e1 : O1 p with
    | none => exact absurd e1 z
    | some o1 => exact a.nw p o1 e1
  · by_cases h : O p = none
    · refine .inr ?_
      cases e1 : H p with
      | none => rfl
      | some o1 => rw [a.kp p o1 e1 h] at z; cases z
    · exact .inl h
theorem Rel.call {O' : Ow} {H' F' : Hp} (R : Rel B env O σ H F) (a : After B.K O H F O' H' F') : Rel B env O' σ H' F' := ⟨R.af.trans a, R.sl.mono a.ff⟩
theorem Rel.on {O' : Ow} {H' F' : Hp} {env' : Env} {σ' : St} (R : Rel B env O σ H F) (a : After B.K O H F O' H' F') (s : Sl B.K env' σ' F') : Rel B env' O' σ' H' F' := ⟨R.af.trans a, s⟩
theorem Rel.free (R : Rel B env O σ H F) {p : Addr} (h : H p = none) : O p = none ∧ F p = none := by
  refine ⟨?_, R.fh.free h⟩
  cases e : O p with
  | none => rfl
  | some o =>
    obtain ⟨_, ho, e2, _⟩ := R.ow p o e
    rw [h] at e2; cases e2
/-- a new frozen object -/
theorem Rel.froz (R : Rel B env O σ H F) {p : Addr} (h : H p = none) (o : HO) : After B.K O H F O (upd H p o) (upd F p o) := by
  obtain ⟨hO, hF⟩ := R.free h
  have s : Same F (upd F p o) := fun b u e => by rw [upd_ne (ne_of_none e hF)]; exact e
  refine ⟨s, fun b u e => ?_, fun b u e _ => by rw [upd_ne (ne_of_none e h)]; exact e, fun a ha _ h0 => ?_, fun q u e => ?_, fun q u e => .inl (by rw [e]; simp)⟩
  · by_cases hb : b = p
    · subst hb; rw [upd_same] at e ⊢; exact e
    · rw [upd_ne hb] at e ⊢; exact R.fh b u e
  · have : a ≠ p := fun z => ha (z ▸ h)
    rw [upd_ne this]; exact h0
  · have hq : q ≠ p := fun z => by rw [z, hO] at e; cases e
    obtain ⟨h1, ho, h3, h4⟩ := R.ow q u e
    exact ⟨by rw [upd_ne hq]; exact h1, ho, by rw [upd_ne hq]; exact h3, h4.mono s⟩
/-- a new object of one's own -/
theorem Rel.own (R : Rel B env O σ H F) {p : Addr} (h : H p = none) {o : HO} {u : OD} (r : RO B.K F u o) : After B.K O H F (setO O p u) (upd H p o) F := by
  obtain ⟨hO, hF⟩ := R.free h
  refine ⟨Same.refl _, fun b x e => by rw [upd_ne (ne_of_none e hF)]; exact R.fh b x e, fun b x e _ => by rw [upd_ne (ne_of_none e h)]; exact e, fun _ _ _ e => e, fun q x e => ?_, fun q x e => ?_⟩
  · by_cases hq : q = p
    · subst hq
      rw [setO_same] at e; cases e
      exact ⟨hF, o, upd_same, r⟩
    · rw [setO_ne hq] at e
      obtain ⟨h1, ho, h3, h4⟩ := R.ow q x e
      exact ⟨h1, ho, by rw [upd_ne hq]; exact h3, h4⟩
  · by_cases hq : q = p
    · subst hq; exact .inr h
    · rw [setO_ne hq] at e; exact .inl (by rw [e]; simp)
/-- one's own object changes -/
theorem Rel.put (R : Rel B env O σ H F) {p : Addr} {u0 : OD} (h : O p = some u0) {o : HO} {u : OD} (r : RO B.K F u o) : After B.K O H F (setO O p u) (upd H p o) F := by
  obtain ⟨hF, _⟩ := R.ow p u0 h
  refine ⟨Same.refl _, fun b x e => by rw [upd_ne (ne_of_none e hF)]; exact R.fh b x e, fun b x e ho => ?_, fun _ _ _ e => e, fun q x e => ?_, fun q x e => ?_⟩
  · have : b ≠ p := fun z => by rw [z, h] at ho; cases ho
    rw [upd_ne this]; exact e
  · by_cases hq : q = p
    · subst hq
      rw [setO_same] at e; cases e
      exact ⟨hF, o, upd_same, r⟩
    · rw [setO_ne hq] at e
      obtain ⟨h1, ho, h3, h4⟩ := R.ow q x e
      exact ⟨h1, ho, by rw [upd_ne hq]; exact h3, h4⟩
  · by_cases hq : q = p
    · subst hq; exact .inl (by rw [h]; simp)
    · rw [setO_ne hq] at e; exact .inl (by rw [e]; simp)
/-- forget -/
theorem After.weak {O' O'' : Ow} {H' F' : Hp} (a : After K O H F O' H' F') (h : SubO O'' O') : After K O H F O'' H' F' :=
  ⟨a.ff, a.fh, a.kp, a.fr, fun p o e => a.ow p o (h p o e), fun p o e => a.nw p o (h p o e)⟩
/-- a name is stored -/
theorem Sl.setv (R : Sl K env σ F) {i : Nat} {d : D} {v : V} (r : RV K F d v) : Sl K (env.set i (some d)) (σ.set i (some v)) F := by
  refine ⟨by simpa using R.1, fun j d' e => ?_⟩
  by_cases hj : i = j
  · subst hj
    have hi : i < env.length := by
      have := (List.getElem?_eq_some_iff.mp e).1
      simpa using this
    rw [List.getElem?_set_self hi] at e
    cases e
    exact ⟨v, by rw [List.getElem?_set_self (by rw [← R.1]; exact hi)], r⟩
  · rw [List.getElem?_set_ne hj] at e
    obtain ⟨v', e1, r1⟩ := R.2 j d' e
    exact ⟨v', by rw [List.getElem?_set_ne hj]; exact e1, r1⟩
theorem Sl.setn (R : Sl K env σ F) {i : Nat} {x : Option V} : Sl K (env.set i none) (σ.set i x) F := by
  refine ⟨by simpa using R.1, fun j d e => ?_⟩
  by_cases hij : i = j
  · subst hij
    by_cases hl : i < env.length
    · rw [List.getElem?_set_self hl] at e; cases e
    · rw [List.getElem?_eq_none (by simpa using hl)] at e; cases e
  · rw [List.getElem?_set_ne hij] at e ⊢
    exact R.2 j d e
/-- an own list is frozen: from now on it is data -/
theorem Rel.ice (R : Rel B env O σ H F) {p : Addr} {ds : List D} (h : O p = some (.lst ds)) : ∃ F', RV B.K F' (.lst ds) (.ref p) ∧ After B.K O H F (fun b => if b = p then none else O b) H F' := by
  obtain ⟨hF, ho, e1, vs, rfl, r⟩ := R.ow p _ h
  have s : Same F (upd F p (.lst vs)) := fun b u e => by rw [upd_ne (ne_of_none e hF)]; exact e
  refine ⟨upd F p (.lst vs), .lst (SqL.of upd_same) (r.mono s), ⟨s, fun b u e => ?_, fun _ _ e _ => e, fun a ha ho h0 => ?_, fun q u e => ?_, fun q u e => ?_⟩⟩
  · by_cases hb : b = p
    · subst hb; rw [upd_same] at e; cases e; exact e1
    · rw [upd_ne hb] at e; exact R.fh b u e
  · have : a ≠ p := fun z => by rw [z, h] at ho; cases ho
    rw [upd_ne this]; exact h0
  · by_cases hq : q = p
    · rw [if_pos hq] at e; cases e
    · rw [if_neg hq] at e
      obtain ⟨h1, ho, h3, h4⟩ := R.ow q u e
      exact ⟨by rw [upd_ne hq]; exact h1, ho, h3, h4.mono s⟩
  · by_cases hq : q = p
    · rw [if_pos hq] at e; cases e
    · rw [if_neg hq] at e; exact .inl (by rw [e]; simp)
end

/-! ### readings -/
abbrev DQ := D → Ow → Prop
abbrev DTE := Env → Ow → DQ → Prop
abbrev DTT := Env → Ow → (Bool → Ow → Prop) → Prop
abbrev DTA := Env → Ow → (List D → Ow → Prop) → Prop
def lift (B : Bd) (t : DTE) : TE := fun σ H Q => ∃ env O F q, Rel B env O σ H F ∧ t env O q ∧
  ∀ d v O' H' F', After B.K O H F O' H' F' → RV B.K F' d v → q d O' → Q v H'
def liftT (B : Bd) (t : DTT) : TT := fun σ H Q => ∃ env O F q, Rel B env O σ H F ∧ t env O q ∧
  ∀ b O' H' F', After B.K O H F O' H' F' → q b O' → Q b H'
def liftA (B : Bd) (t : DTA) : TA := fun σ H Q => ∃ env O F q, Rel B env O σ H F ∧ t env O q ∧
  ∀ ds vs O' H' F', After B.K O H F O' H' F' → RVs B.K F' ds vs → q ds O' → Q vs H'

theorem PE.weak {X : Cx} {e : Expr} {t t' : TE} (h : PE X e t) (i : ∀ σ H Q, t' σ H Q → t σ H Q) : PE X e t' := ⟨fun pins s σ H Q I q => h.run pins s σ H Q I (i σ H Q q)⟩
theorem PT.weak {X : Cx} {e : Expr} {t t' : TT} (h : PT X e t) (i : ∀ σ H Q, t' σ H Q → t σ H Q) : PT X e t' := ⟨fun pins s σ H Q I q => h.run pins s σ H Q I (i σ H Q q)⟩
theorem PA.weak {X : Cx} {e : List Expr} {t t' : TA} (h : PA X e t) (i : ∀ σ H Q, t' σ H Q → t σ H Q) : PA X e t' := ⟨fun pos pins s σ H Q I q => h.run pos pins s σ H Q I (i σ H Q q)⟩
theorem PS.weak {X : Cx} {e : Stmt} {t t' : TS} (h : PS X e t) (i : ∀ E σ H, t' E σ H → t E σ H) : PS X e t' := ⟨fun pins s σ H E I q => h.run pins s σ H E I (i E σ H q)⟩
theorem PSs.weak {X : Cx} {e : List Stmt} {t t' : TS} (h : PSs X e t) (i : ∀ E σ H, t' E σ H → t E σ H) : PSs X e t' := ⟨fun pins s σ H E I q => h.run pins s σ H E I (i E σ H q)⟩

/-- what is wanted behind a statement -/
structure DEnds where
  nx : Env → Ow → Prop
  rt : DQ
  bk : Env → Ow → Prop := fun _ _ => False
  ct : Env → Ow → Prop := fun _ _ => False
abbrev DTS := DEnds → Env → Ow → Prop
/-- how the wanted ends meet the heap's, from the moment (O, H, F) on -/
structure Meet (B : Bd) (O : Ow) (H F : Hp) (d : DEnds) (E : Ends) : Prop where
  nx : ∀ env' O' σ' H' F', After B.K O H F O' H' F' → Sl B.K env' σ' F' → d.nx env' O' → E.nx σ' H'
  rt : ∀ x v O' H' F', After B.K O H F O' H' F' → RV B.K F' x v → d.rt x O' → E.rt v H'
  bk : ∀ env' O' σ' H' F', After B.K O H F O' H' F' → Sl B.K env' σ' F' → d.bk env' O' → E.bk σ' H'
  ct : ∀ env' O' σ' H' F', After B.K O H F O' H' F' → Sl B.K env' σ' F' → d.ct env' O' → E.ct σ' H'
theorem Meet.later {B : Bd} {O O' : Ow} {H F H' F' : Hp} {d : DEnds} {E : Ends} (m : Meet B O H F d E) (a : After B.K O H F O' H' F') : Meet B O' H' F' d E :=
  ⟨fun e o s h f b => m.nx e o s h f (a.trans b), fun x v o h f b => m.rt x v o h f (a.trans b), fun e o s h f b => m.bk e o s h f (a.trans b), fun e o s h f b => m.ct e o s h f (a.trans b)⟩
def liftS (B : Bd) (t : DTS) : TS := fun E σ H => ∃ env O F d, Rel B env O σ H F ∧ t d env O ∧ Meet B O H F d E

section
variable {X : Cx} {B : Bd} {pos : Pos}
/-! ### names, constants -/
def dVar (i : Nat) : DTE := fun env O q => ∃ d, env[i]? = some (some d) ∧ q d O
def dC (d : D) : DTE := fun _ O q => q d O
theorem de_var {e : Expr} {i : Nat} (h : PE X e (tVar i)) : PE X e (lift B (dVar i)) := by
  refine PE.weak h fun σ H Q hq => ?_
  obtain ⟨env, O, F, q, R, ⟨d, e, hq⟩, k⟩ := hq
  obtain ⟨v, e1, r⟩ := R.sl.2 i d e
  exact ⟨v, e1, k d v O H F (.refl R) r hq⟩
theorem de_con {e : Expr} {v : V} {d : D} (h : PE X e (tC v)) (r : ∀ F, RV B.K F d v) : PE X e (lift B (dC d)) := by
  refine PE.weak h fun σ H Q hq => ?_
  obtain ⟨env, O, F, q, R, hq, k⟩ := hq
  exact k d v O H F (.refl R) (r F) hq
theorem de_int {i j p} : PE X (.Constant (.int i) j p) (lift B (dC (.int i))) := de_con pe_int fun _ => .int i
theorem de_str {i j p} : PE X (.Constant (.str i) j p) (lift B (dC (.str i))) := de_con pe_str fun _ => .str i
theorem de_bl {i j p} : PE X (.Constant (.bool i) j p) (lift B (dC (.bl i))) := de_con pe_bl fun _ => .bl i
theorem de_non {j p} : PE X (.Constant .none j p) (lift B (dC .non)) := de_con pe_non fun _ => .non

/-! ### operators -/
abbrev DR2 := D → D → Ow → DQ → Prop
def dOp (r : DR2) (ta tb : DTE) : DTE := fun env O q => ta env O fun x O1 => tb env O1 fun y O2 => r x y O2 q
/-- the reading r of values is met by the reading dr of data -/
def Sim2 (B : Bd) (r : R2) (dr : DR2) : Prop := ∀ (env : Env) (O : Ow) (σ : St) (H F : Hp) (x y : V) (dx dy : D) (q : DQ) (Q : VK), Rel B env O σ H F → RV B.K F dx x → RV B.K F dy y → dr dx dy O q →
  (∀ d v O' H' F', After B.K O H F O' H' F' → RV B.K F' d v → q d O' → Q v H') → r x y H Q
theorem lift_op {r : R2} {dr : DR2} {ta tb : DTE} (s : Sim2 B r dr) (σ : St) (H : Hp) (Q : VK) (h : lift B (dOp dr ta tb) σ H Q) : tOp r (lift B ta) (lift B tb) σ H Q := by
  obtain ⟨env, O, F, q, R, h, k⟩ := h
  refine ⟨env, O, F, _, R, h, fun dx x O1 H1 F1 a1 r1 h1 => ?_⟩
  have R1 := R.call a1
  refine ⟨env, O1, F1, _, R1, h1, fun dy y O2 H2 F2 a2 r2 h2 => ?_⟩
  exact s env O2 σ H2 F2 x y dx dy q Q (R1.call a2) (r1.mono a2.ff) r2 h2 fun d v O' H' F' a' r' => k d v O' H' F' (a1.trans (a2.trans a')) r'
theorem de_op {op : Operator} {r : R2} {dr : DR2} {a b : Expr} {ta tb : DTE} (ho : OpR X (binaryOp op) r) (s : Sim2 B r dr) (ha : PE X a (lift B ta)) (hb : PE X b (lift B tb)) : PE X (.BinOp a op b pos) (lift B (dOp dr ta tb)) :=
  PE.weak (pe_op ho ha hb) (lift_op s)
theorem de_cmp {op : CmpOp} {r : R2} {dr : DR2} {a b : Expr} {ta tb : DTE} (ho : OpR X (compareOp op) r) (s : Sim2 B r dr) (ha : PE X a (lift B ta)) (hb : PE X b (lift B tb)) (hm : behindInMarks op b = false) : PE X (.Compare a [op] [b] pos) (lift B (dOp dr ta tb)) :=
  PE.weak (pe_cmpR ho ha hb hm) (lift_op s)
def dTest (t : DTE) : DTT := fun env O q => t env O fun x O' => match x with | .bl k => q k O' | _ => False
theorem lift_test {t : DTE} (σ : St) (H : Hp) (Q : Bool → Hp → Prop) (h : liftT B (dTest t) σ H Q) : tTest (lift B t) σ H Q := by
  obtain ⟨env, O, F, q, R, h, k⟩ := h
  refine ⟨env, O, F, _, R, h, fun d v O1 H1 F1 a1 r1 h1 => ?_⟩
  cases d <;> try exact h1.elim
  cases r1
  exact ⟨_, rfl, k _ O1 H1 F1 a1 h1⟩
theorem tTest_mono {t t' : TE} (i : ∀ σ H Q, t' σ H Q → t σ H Q) (σ : St) (H : Hp) (Q : Bool → Hp → Prop) (h : tTest t' σ H Q) : tTest t σ H Q := i σ H _ h
theorem dt_cmp {op : CmpOp} {r : R2} {dr : DR2} {a b : Expr} {ta tb : DTE} (ho : OpR X (compareOp op) r) (s : Sim2 B r dr) (ha : PE X a (lift B ta)) (hb : PE X b (lift B tb)) (hm : behindInMarks op b = false) : PT X (.Compare a [op] [b] pos) (liftT B (dTest (dOp dr ta tb))) :=
  PT.weak (pt_cmpR ho ha hb hm) fun σ H Q h => tTest_mono (lift_op s) σ H Q (lift_test σ H Q h)

/-- ints -/
def dI2 (C : Int → Int → Prop) (g : Int → Int → D) : DR2 := fun x y O q => match x, y with
  | .int i, .int j => C i j ∧ q (g i j) O
  | _, _ => False
theorem sim_I {C : Int → Int → Prop} {g : Int → Int → V} {g' : Int → Int → D} (hg : ∀ F i j, RV B.K F (g' i j) (g i j)) : Sim2 B (rI C g) (dI2 C g') := by
  intro env O σ H F x y dx dy q Q R rx ry h k
  cases dx <;> cases dy <;> try exact h.elim
  rename_i i j
  cases rx; cases ry
  exact ⟨i, j, rfl, rfl, h.1, k _ _ O H F (.refl R) (hg F i j) h.2⟩
theorem sim_I0 {g : Int → Int → V} {g' : Int → Int → D} (hg : ∀ F i j, RV B.K F (g' i j) (g i j)) : Sim2 B (rI0 g) (dI2 (fun _ _ => True) g') := by
  intro env O σ H F x y dx dy q Q R rx ry h k
  cases dx <;> cases dy <;> try exact h.elim
  rename_i i j
  cases rx; cases ry
  exact ⟨i, j, rfl, rfl, k _ _ O H F (.refl R) (hg F i j) h.2⟩
end
end DL

set_option Elab.async false
set_option linter.all false
set_option maxRecDepth 100000
set_option maxHeartbeats 4000000
namespace DL
open PySem PySem.Spec PyProof.Rows L2

/-! ### a def's promise where no repr is under way -/
structure FnG (P : Program) (w : World) (K : Frag) (mg : Str → Option Value) (base : Heap) (CX : CXT) (k : Nat) (f : Addr) (fd : FuncData) (ps : List Str) (sp : Sp) : Prop where
  len : ∀ vs H Q E, sp vs H Q E → vs.length = ps.length
  run : ∀ (A : Around) (outer : List PySem.Env) (s : Shared) (H : Hp) (args : Args) (us : List Value) (vs : List V) (Q : VK) (E : XK), A.guards = some [] → Room k A →
    Env0 P w K mg base A outer s H → BindsTo s fd args (ps.zip us) → Vals vs us → sp vs H Q E → codeAny (model P w) A (.call (.ref f) args) (CR CX outer P w H s Q E) s
section
variable {P : Program} {w : World} {K : Frag} {mg : Str → Option Value} {base : Heap} {CX : CXT} {f : Addr} {fd : FuncData} {ps : List Str} {sp : Sp}
theorem FnG.mono {j k : Nat} (F : FnG P w K mg base CX j f fd ps sp) (h : j ≤ k) : FnG P w K mg base CX k f fd ps sp :=
  ⟨F.len, fun A o s H ar us vs Q E g r => F.run A o s H ar us vs Q E g (r.mono h)⟩
theorem FnG.ofOk {k : Nat} (F : FnOk P w K mg base CX k f fd ps sp) : FnG P w K mg base CX k f fd ps sp :=
  ⟨F.len, fun A o s H ar us vs Q E _ r => F.run A o s H ar us vs Q E r⟩
/-- by its body -/
theorem FnG.body {k : Nat} {name qual : Str} {params : Arguments} {body : List Stmt} {scope : Scope} {dV kV doc pm cdv ct oc : Value} {an od : Option Addr} {osl : Array (Option Value)} {N : List Str}
    (lk : K.lookup f = some ⟨oc, od, .func (PySem.W.fnOf name qual params body scope dV kV doc pm an cdv ct), osl⟩) (hcd : PySem.W.codeIn K cdv qual = true) (S : FnScope N ps scope)
    (len : ∀ vs H Q E, sp vs H Q E → vs.length = ps.length)
    (hb : ∀ (A : Around) (outer : List PySem.Env) (s : Shared) (H : Hp) (vs : List V) (Q : VK) (E : XK), (A.deeper (envOfC qual scope s.heap.objs.size f cdv)).guards = some [] → Room k (A.deeper (envOfC qual scope s.heap.objs.size f cdv)) → sp vs H Q E →
      ∃ t, PSs (cxOf CX P w K mg base N qual scope f cdv A outer s H E) body t ∧ t { nx := fun _ H' => Q .non H', rt := Q } (start N vs) H) :
    FnG P w K mg base CX (k + 1) f (PySem.W.fnOf name qual params body scope dV kV doc pm an cdv ct) ps sp := by
  refine ⟨len, fun A outer s H args us vs Q E hgd room e0 bnd vals hsp => ?_⟩
  have hK : K.In s.heap := e0.mod.kin.keeps fun b o z => (e0.bs b o z).1
  have hkind : ∀ y ∈ ps.zip us, scope.names.lookup y.1 = some .local ∨ (scope.names.lookup y.1 = some .cell ∧ ((cellsFrom (s.heap.objs.size + 1) scope.names []).lookup y.1).isSome = true) := by
    rintro ⟨nm, v⟩ hy
    have := S.par nm (List.of_mem_zip hy).1
    exact this.imp id fun q => ⟨q, PySem.W.cellsFrom_some _ _ _ (.inl q)⟩
  have hlim : s.heap.NoLimit := e0.mod.nolimit.keeps fun b o z => (e0.bs b o z).1
  refine codeAny_call_function room.depth (hK _ _ lk) rfl S.co S.gen rfl (PySem.W.codeRec_of hK hcd) (bnd _ _ _ _ (wpAny_newFunctionEnv_cells S.kind hkind ?_))
  rintro env rfl s1 inn
  refine ⟨hlim.keeps inn.toInCall.keep, codeAny_func ?_⟩
  obtain ⟨t, ht, hq⟩ := hb A outer s H vs Q E hgd (room.deeper _) hsp
  have J := inv_start (CX := CX) (E := E) S room.hd e0 (len _ _ _ _ hsp) vals inn
  refine wpAny_mono (ht.run [] s1 _ H _ J hq) (fun fl s' z => ?_) fun _ _ z => z
  rcases fl with _ | _ | _ | u
  · obtain ⟨σ', H', J', q⟩ := z
    exact ⟨.non, H', J'.os, J'.bare, J'.base, J'.hok, rfl, q⟩
  · obtain ⟨_, _, _, q⟩ := z
    exact q.elim
  · obtain ⟨_, _, _, q⟩ := z
    exact q.elim
  · obtain ⟨v, σ', H', J', rv, q⟩ := z
    exact ⟨v, H', J'.os, J'.bare, J'.base, J'.hok, rv, q⟩
theorem FnG.ofFun {x qual : Str} {st : Stmt} {k : Nat} {N : List Str} (F : Fun K x qual st f fd) (S : FnScope N ps (defScope st)) (len : ∀ vs H Q E, sp vs H Q E → vs.length = ps.length)
    (hb : ∀ (cdv : Value) (A : Around) (outer : List PySem.Env) (s : Shared) (H : Hp) (vs : List V) (Q : VK) (E : XK), (A.deeper (envOfC qual (defScope st) s.heap.objs.size f cdv)).guards = some [] → Room k (A.deeper (envOfC qual (defScope st) s.heap.objs.size f cdv)) → sp vs H Q E →
      ∃ t, PSs (cxOf CX P w K mg base N qual (defScope st) f cdv A outer s H E) (defBody st) t ∧ t { nx := fun _ H' => Q .non H', rt := Q } (start N vs) H) : FnG P w K mg base CX (k + 1) f fd ps sp := by
  obtain ⟨_, _, _, _, _, _, cdv, _, _, rfl, lk, hcd⟩ := F.ex
  exact FnG.body lk hcd S len (hb cdv)
theorem FnG.ofFunD {x qual : Str} {params : Arguments} {body : List Stmt} {scope : Scope} {dvs : List V} {kws : List (Str × V)} {k : Nat} {N : List Str} (F : FunD K x qual params body scope dvs kws f fd) (S : FnScope N ps scope) (len : ∀ vs H Q E, sp vs H Q E → vs.length = ps.length)
    (hb : ∀ (cdv : Value) (A : Around) (outer : List PySem.Env) (s : Shared) (H : Hp) (vs : List V) (Q : VK) (E : XK), (A.deeper (envOfC qual scope s.heap.objs.size f cdv)).guards = some [] → Room k (A.deeper (envOfC qual scope s.heap.objs.size f cdv)) → sp vs H Q E →
      ∃ t, PSs (cxOf CX P w K mg base N qual scope f cdv A outer s H E) body t ∧ t { nx := fun _ H' => Q .non H', rt := Q } (start N vs) H) : FnG P w K mg base CX (k + 1) f fd ps sp := by
  obtain ⟨_, _, _, _, _, _, _, cdv, _, _, rfl, lk, hcd, _, _⟩ := F.ex
  exact FnG.body lk hcd S len (hb cdv)
end

/-! ### the promise over data -/
/-- an exception over data: its class, its fields -/
abbrev DX := Value → List (Str × D) → Ow → Prop
/-- how it lies in the heap: d is its own dict -/
def XRel (K : Frag) (F' H' : Hp) (d : Option Addr) (fs : List (Str × D)) : Prop :=
  (d = none ∧ fs = []) ∨ ∃ (a : Addr) (gs : List (Str × V)), d = some a ∧ H' a = some (.xd gs) ∧ RKV K F' fs gs
abbrev DF := List D → Ow → DQ → DX → Prop
def spD (K : Frag) (n : Nat) (f : DF) : Sp := fun vs H Q E => ∃ F O ds q x, Same F H ∧ OwOk K O H F ∧ RVs K F ds vs ∧ ds.length = n ∧ f ds O q x ∧
  (∀ d v O' H' F', After K O H F O' H' F' → RV K F' d v → q d O' → Q v H') ∧
  (∀ c dx fs O' H' F', After K O H F O' H' F' → XRel K F' H' dx fs → x c fs O' → E c dx H')
theorem spD_len {K : Frag} {n : Nat} {f : DF} {ps : List Str} (h : ps.length = n) (vs : List V) (H : Hp) (Q : VK) (E : XK) (s : spD K n f vs H Q E) : vs.length = ps.length := by
  obtain ⟨F, O, ds, q, x, _, _, r, e, _⟩ := s
  rw [h, ← e, r.length]
def envOf (n : Nat) (ds : List D) : Env := ds.map some ++ List.replicate (n - ds.length) none
theorem rel_start {K : Frag} {O : Ow} {H F : Hp} {ds : List D} {vs : List V} {N : List Str} (s : Same F H) (ow : OwOk K O H F) (r : RVs K F ds vs) : Rel ⟨K, O, H, F⟩ (envOf N.length ds) O (L2.start N vs) H F := by
  refine ⟨.rfl' s ow, ⟨?_, fun i d e => ?_⟩⟩
  · unfold envOf L2.start
    simp only [List.length_append, List.length_map, List.length_replicate, r.length]
  · unfold envOf at e
    by_cases hi : i < ds.length
    · rw [List.getElem?_append_left (by simpa using hi), List.getElem?_map] at e
      cases q : ds[i]? with
      | none => rw [q] at e; cases e
      | some d' =>
        rw [q] at e
        cases e
        obtain ⟨v, h1, h2⟩ := r.get q
        refine ⟨v, ?_, h2⟩
        unfold L2.start
        rw [List.getElem?_append_left (by rw [List.length_map, ← r.length]; exact hi), List.getElem?_map, h1]; rfl
    · rw [List.getElem?_append_right (by simpa using hi), List.getElem?_replicate] at e
      split at e <;> cases e
end DL

set_option Elab.async false
set_option linter.all false
set_option maxRecDepth 100000
set_option maxHeartbeats 4000000
namespace DL
open PySem PySem.Spec PyProof.Rows L2

/-! ### exceptions over data -/
abbrev DW := Value → List (Str × D) → Env → Ow → Prop
def liftX (B : Bd) (w : DW) : WX := fun c d σ H => ∃ env O F fs, Rel B env O σ H F ∧ XRel B.K F H d fs ∧ w c fs env O
abbrev TakesD (X : Cx) (B : Bd) (w : DW) : Prop := Takes X (liftX B w)
abbrev w0 : DW := fun _ _ _ _ => False
theorem takesD0 {X : Cx} {B : Bd} : TakesD X B w0 := takes0.imp fun _ _ _ _ h => by
  obtain ⟨_, _, _, _, _, _, z⟩ := h
  exact z

section
variable {X : Cx} {B : Bd} {pos : Pos}
/-! ### calls of own defs -/
theorem run_G {pins : List (Addr × Obj)} {σ : St} {H : Hp} {s : Shared} {Q : VK} {us : List Value} {vs dvs : List V} {ds : List Value} {W : WX} {k : Nat} {f : Addr} {fd : FuncData} {ps : List Str} {sp : Sp}
    (F : FnG X.prog X.w X.K X.mg X.base (L2.CX X.prog X.w) k f fd ps sp) (hgd : X.A.guards = some []) (hr : Room k X.A) (hb : Binds X.K fd ps ds) (hd : Vals dvs ds) (tk : Takes X W)
    (I : Inv X pins σ H s) (r : Vals vs us) (h : sp (vs ++ dvs) H Q (fun c d H' => W c d σ H')) : wpAny (model X.prog X.w) X.A (call (.ref f) us) (EP X pins σ Q) X.xe s := by
  have rr := r.append hd
  have hl : (us ++ ds).length = ps.length := rr.length.symm.trans (F.len _ _ _ _ h)
  refine wpAny_call (codeAny_mono (F.run X.A X.stack s H ⟨us, []⟩ _ _ Q _ hgd hr I.env0 (hb s us I.kIn hl) rr h) fun r s' hq => ?_)
  match r, hq with
  | .error e, hq => exact tk _ s' (XE.of_call I (fun _ _ _ z => z) hq)
  | .ok (.ret u), hq => exact I.after hq
  | .ok .next, hq => exact False.elim hq
  | .ok .brk, hq => exact False.elim hq
  | .ok .cont, hq => exact False.elim hq
theorem run_GK {pins : List (Addr × Obj)} {σ : St} {H : Hp} {s : Shared} {Q : VK} {us ws : List Value} {vs zs : List V} {W : WX} {k n : Nat} {f : Addr} {fd : FuncData} {ps ks : List Str} {sp : Sp} {g : List Value → List Value → List Value} {gV : List V → List V → List V}
    (F : FnG X.prog X.w X.K X.mg X.base (L2.CX X.prog X.w) k f fd ps sp) (hgd : X.A.guards = some []) (hr : Room k X.A) (hb : KBn X.K fd ps n ks g gV) (tk : Takes X W)
    (I : Inv X pins σ H s) (r : Vals vs us) (rz : Vals zs ws) (l1 : us.length = n) (l2 : ws.length = ks.length) (h : sp (gV vs zs) H Q (fun c d H' => W c d σ H')) : wpAny (model X.prog X.w) X.A (call (.ref f) us (ks.zip ws)) (EP X pins σ Q) X.xe s := by
  refine wpAny_call (codeAny_mono (F.run X.A X.stack s H ⟨us, ks.zip ws⟩ _ _ Q _ hgd hr I.env0 (hb.to s us ws I.kIn l1 l2) (hb.rel r rz) h) fun r s' hq => ?_)
  match r, hq with
  | .error e, hq => exact tk _ s' (XE.of_call I (fun _ _ _ z => z) hq)
  | .ok (.ret u), hq => exact I.after hq
  | .ok .next, hq => exact False.elim hq
  | .ok .brk, hq => exact False.elim hq
  | .ok .cont, hq => exact False.elim hq
def dCall (fn : DF) (n : Nat) (w : DW) (dds : List D) (ta : DTA) : DTE := fun env O q => ta env O fun ds O1 => (ds ++ dds).length = n ∧ fn (ds ++ dds) O1 q fun c fs O' => w c fs env O'
/-- from the caller's state to the callee's promise -/
theorem sp_of {env : Env} {O : Ow} {σ : St} {H F : Hp} {ds : List D} {vs : List V} {n : Nat} {fn : DF} {w : DW} {q : DQ} {Q : VK} (R : Rel B env O σ H F) (r : RVs B.K F ds vs) (hl : ds.length = n)
    (h : fn ds O q fun c fs O' => w c fs env O') (k : ∀ d v O' H' F', After B.K O H F O' H' F' → RV B.K F' d v → q d O' → Q v H') : spD B.K n fn vs H Q (fun c d H' => liftX B w c d σ H') :=
  ⟨F, O, ds, q, _, R.fh, R.ow, r, hl, h, k, fun c dx fs O' H' F' a xr hx => ⟨env, O', F', fs, R.call a, xr, hx⟩⟩
section
variable {e : Expr} {es : List Expr} {x : Str} {p : Pos} {k n : Nat} {f : Addr} {fd : FuncData} {ps : List Str} {fn : DF} {w : DW} {ta tb : DTA} {dvs : List V} {dds : List D} {ds : List Value}
theorem de_call (F : FnG X.prog X.w X.K X.mg X.base (L2.CX X.prog X.w) k f fd ps (spD B.K n fn)) (hgd : X.A.guards = some []) (hr : Room k X.A) (hg : Gl X x) (hm : X.mg x = some (.ref f)) (hk : PySem.W.keepIn X.K (.ref f) = true)
    (hb : Binds X.K fd ps ds) (hd : Vals dvs ds) (hdd : ∀ F, RVs B.K F dds dvs) (tk : TakesD X B w) (ha : PA X (e :: es) (liftA B ta))
    (hdb : (x == ("__debug__" : Str)) = false := by decide) (he : starEach (e :: es) X.env = (false, eval e X.env) :: starEach es X.env := by rfl) (hpl : (backTo pos (starEach es X.env)).any (·.1) = false := by rfl) :
    PE X (.Call (.Name x p) (e :: es) [] pos) (lift B (dCall fn n w dds ta)) := by
  refine ⟨fun pins s σ H Q I h => wpAny_Call_Name_kw (ld_glob I hg hm ?_ hdb)⟩
  obtain ⟨env, O, F0, q, R, h, kk⟩ := h
  refine PySem.W.callWith_K (h₀ := X.base) I.ok.mod.kin hk (thn (ha.run pos pins s σ H (fun vs H1 => spD B.K n fn (vs ++ dvs) H1 Q (fun c d H' => liftX B w c d σ H')) I ⟨env, O, F0, _, R, h, ?_⟩) fun us s1 ⟨vs, H1, I1, rv, hz⟩ => ⟨I1.kIn, ?_⟩) he hpl
  · intro ds vs O1 H1 F1 a1 r1 q1
    exact sp_of (R.call a1) (r1.append (hdd F1)) q1.1 q1.2 fun d v O' H' F' a' r' hq => kk d v O' H' F' (a1.trans a') r' hq
  · exact run_G F hgd hr hb hd tk I1 rv hz
theorem de_call0 (F : FnG X.prog X.w X.K X.mg X.base (L2.CX X.prog X.w) k f fd ps (spD B.K n fn)) (hgd : X.A.guards = some []) (hr : Room k X.A) (hg : Gl X x) (hm : X.mg x = some (.ref f)) (hk : PySem.W.keepIn X.K (.ref f) = true)
    (hb : Binds X.K fd ps ds) (hd : Vals dvs ds) (hdd : ∀ F, RVs B.K F dds dvs) (tk : TakesD X B w) (hdb : (x == ("__debug__" : Str)) = false := by decide) :
    PE X (.Call (.Name x p) [] [] pos) (lift B (dCall fn n w dds fun _ O q => q [] O)) := by
  refine ⟨fun pins s σ H Q I h => wpAny_Call_Name_kw (ld_glob I hg hm ?_ hdb)⟩
  obtain ⟨env, O, F0, q, R, h, kk⟩ := h
  exact PySem.W.callWith_K0 I.kIn hk (run_G (us := []) (vs := []) F hgd hr hb hd tk I .nil (sp_of R (hdd F0) h.1 h.2 kk))
/-- with keywords: gD puts the data in the parameters' order -/
def dCallK (fn : DF) (n m l : Nat) (w : DW) (gD : List D → List D → List D) (ta tb : DTA) : DTE := fun env O q => ta env O fun ds O1 => tb env O1 fun es O2 => ds.length = m ∧ es.length = l ∧ (gD ds es).length = n ∧ fn (gD ds es) O2 q fun c fs O' => w c fs env O'
theorem de_callK {m : Nat} {ks : List Str} {kws : List Keyword} {g : List Value → List Value → List Value} {gV : List V → List V → List V} {gD : List D → List D → List D}
    (F : FnG X.prog X.w X.K X.mg X.base (L2.CX X.prog X.w) k f fd ps (spD B.K n fn)) (hgd : X.A.guards = some []) (hr : Room k X.A) (hg : Gl X x) (hm : X.mg x = some (.ref f)) (hk : PySem.W.keepIn X.K (.ref f) = true)
    (hb : KBn X.K fd ps m ks g gV) (hgD : ∀ F ds vs es zs, RVs B.K F ds vs → RVs B.K F es zs → RVs B.K F (gD ds es) (gV vs zs)) (tk : TakesD X B w) (ha : PA X (e :: es) (liftA B ta)) (hkw : PK X kws (liftA B tb))
    (hall : (backToKw pos (keywordEach kws X.env)).all (·.1.isSome) = true := by rfl) (hks : (backToKw pos (keywordEach kws X.env)).filterMap (·.1) = ks := by rfl)
    (hdb : (x == ("__debug__" : Str)) = false := by decide) (he : starEach (e :: es) X.env = (false, eval e X.env) :: starEach es X.env := by rfl)
    (hpl : ((backTo pos (starEach (e :: es) X.env)).any (·.1) || (backToKw pos (keywordEach kws X.env)).any (·.1.isNone)) = false := by rfl) :
    PE X (.Call (.Name x p) (e :: es) kws pos) (lift B (dCallK fn n m ks.length w gD ta tb)) := by
  refine ⟨fun pins s σ H Q I h => wpAny_Call_Name_kw (ld_glob I hg hm ?_ hdb)⟩
  obtain ⟨env, O, F0, q, R, h, kk⟩ := h
  refine PySem.W.callWith_KW (h₀ := X.base) I.ok.mod.kin hk hall (thn (ha.run pos pins s σ H (fun vs H1 => liftA B tb σ H1 (fun zs H2 => vs.length = m ∧ zs.length = ks.length ∧ spD B.K n fn (gV vs zs) H2 Q (fun c d H' => liftX B w c d σ H'))) I ⟨env, O, F0, _, R, h, ?_⟩) fun us s1 ⟨vs, H1, I1, rv, hz⟩ => ?_) hpl he
  · intro ds vs O1 H1 F1 a1 r1 q1
    have R1 := R.call a1
    refine ⟨env, O1, F1, _, R1, q1, fun es zs O2 H2 F2 a2 r2 q2 => ?_⟩
    refine ⟨r1.length ▸ q2.1, r2.length ▸ q2.2.1, sp_of (R1.call a2) (hgD F2 _ _ _ _ (r1.mono a2.ff) r2) q2.2.2.1 q2.2.2.2 fun d v O' H' F' a' r' hq => kk d v O' H' F' (a1.trans (a2.trans a')) r' hq⟩
  · refine thn (hkw.run pos pins s1 σ H1 _ I1 hz) fun ws s2 ⟨zs, H2, I2, rz, l1, l2, hz⟩ => ⟨I2.kIn, ?_⟩
    rw [hks]
    exact run_GK F hgd hr hb tk I2 rv rz (rv.length ▸ l1) (rz.length ▸ l2) hz
end

/-! ### arguments -/
def dNil : DTA := fun _ O q => q [] O
def dCons (ta : DTE) (tr : DTA) : DTA := fun env O q => ta env O fun x O1 => tr env O1 fun xs O2 => q (x :: xs) O2
theorem lift_nil (σ : St) (H : Hp) (Q : List V → Hp → Prop) (h : liftA B dNil σ H Q) : tNil σ H Q := by
  obtain ⟨env, O, F, q, R, h, k⟩ := h
  exact k [] [] O H F (.refl R) .nil h
theorem lift_cons {ta : DTE} {tr : DTA} (σ : St) (H : Hp) (Q : List V → Hp → Prop) (h : liftA B (dCons ta tr) σ H Q) : tCons (lift B ta) (liftA B tr) σ H Q := by
  obtain ⟨env, O, F, q, R, h, k⟩ := h
  refine ⟨env, O, F, _, R, h, fun d v O1 H1 F1 a1 r1 h1 => ?_⟩
  refine ⟨env, O1, F1, _, R.call a1, h1, fun ds vs O2 H2 F2 a2 r2 h2 => ?_⟩
  exact k _ _ O2 H2 F2 (a1.trans a2) (.cons (r1.mono a2.ff) r2) h2
theorem da_nil : PA X [] (liftA B dNil) := PA.weak pa_nil lift_nil
theorem da_cons {e : Expr} {es : List Expr} {ta : DTE} {tr : DTA} (ha : PE X e (lift B ta)) (hr : PA X es (liftA B tr)) (hs : starEach (e :: es) X.env = (false, eval e X.env) :: starEach es X.env := by rfl) : PA X (e :: es) (liftA B (dCons ta tr)) :=
  PA.weak (pa_cons ha hr hs) lift_cons
theorem PK.weak {es : List Keyword} {t t' : TA} (h : PK X es t) (i : ∀ σ H Q, t' σ H Q → t σ H Q) : PK X es t' := ⟨fun pos pins s σ H Q I q => h.run pos pins s σ H Q I (i σ H Q q)⟩
theorem dk_nil : PK X [] (liftA B dNil) := PK.weak pk_nil lift_nil
theorem dk_cons {e : Expr} {kws : List Keyword} {nm : Option Str} {kpos : Pos} {ta : DTE} {tr : DTA} (ha : PE X e (lift B ta)) (hr : PK X kws (liftA B tr)) : PK X (⟨nm, e, kpos⟩ :: kws) (liftA B (dCons ta tr)) :=
  PK.weak (pk_cons ha hr) lift_cons

/-! ### displays -/
def dTup (t : DTA) : DTE := fun env O q => t env O fun ds O1 => ds.length ≤ sizeLine ∧ q (.tup ds) O1
def dLst (t : DTA) : DTE := fun env O q => t env O fun ds O1 => ds.length ≤ sizeLine ∧ q (.lst ds) O1
/-- a list of one's own -/
def dLstO (t : DTA) : DTE := fun env O q => t env O fun ds O1 => ds.length ≤ sizeLine ∧ ∀ p, O1 p = none → q (.ref p) (setO O1 p (.lst ds))
theorem de_tup {es : List Expr} {x1} {t : DTA} (h : PA X es (liftA B t)) : PE X (.Tuple es x1 pos) (lift B (dTup t)) := by
  refine PE.weak (pe_tup h) fun σ H Q h => ?_
  obtain ⟨env, O, F, q, R, h, k⟩ := h
  refine ⟨env, O, F, _, R, h, fun ds vs O1 H1 F1 a1 r1 h1 => ⟨r1.length ▸ h1.1, fun p hp => ?_⟩⟩
  have a2 := (R.call a1).froz hp (.tup vs)
  exact k _ _ O1 _ _ (a1.trans a2) (.tup (SqT.of upd_same) (r1.mono a2.ff)) h1.2
theorem de_lst {es : List Expr} {t : DTA} (h : PA X es (liftA B t)) : PE X (.List es pos) (lift B (dLst t)) := by
  refine PE.weak (pe_lst h) fun σ H Q h => ?_
  obtain ⟨env, O, F, q, R, h, k⟩ := h
  refine ⟨env, O, F, _, R, h, fun ds vs O1 H1 F1 a1 r1 h1 => ⟨r1.length ▸ h1.1, fun p hp => ?_⟩⟩
  have a2 := (R.call a1).froz hp (.lst vs)
  exact k _ _ O1 _ _ (a1.trans a2) (.lst (SqL.of upd_same) (r1.mono a2.ff)) h1.2
theorem de_lstO {es : List Expr} {t : DTA} (h : PA X es (liftA B t)) : PE X (.List es pos) (lift B (dLstO t)) := by
  refine PE.weak (pe_lst h) fun σ H Q h => ?_
  obtain ⟨env, O, F, q, R, h, k⟩ := h
  refine ⟨env, O, F, _, R, h, fun ds vs O1 H1 F1 a1 r1 h1 => ⟨r1.length ▸ h1.1, fun p hp => ?_⟩⟩
  have R1 := R.call a1
  exact k _ _ _ _ F1 (a1.trans (R1.own hp (u := .lst ds) ⟨vs, rfl, r1⟩)) (.ref p) (h1.2 p (R1.free hp).1)

/-! ### tests -/
def dAnd (t u : DTT) : DTT := fun env O q => t env O fun c O1 => if c = true then u env O1 q else q false O1
def dOr (t u : DTT) : DTT := fun env O q => t env O fun c O1 => if c = true then q true O1 else u env O1 q
def dNot (t : DTT) : DTT := fun env O q => t env O fun c O1 => q (!c) O1
theorem lift_and {t u : DTT} (σ : St) (H : Hp) (Q : Bool → Hp → Prop) (h : liftT B (dAnd t u) σ H Q) : tAnd (liftT B t) (liftT B u) σ H Q := by
  obtain ⟨env, O, F, q, R, h, k⟩ := h
  refine ⟨env, O, F, _, R, h, fun b O1 H1 F1 a1 h1 => ?_⟩
  cases b with
  | true =>
    rw [if_pos rfl] at h1 ⊢
    exact ⟨env, O1, F1, q, R.call a1, h1, fun b O2 H2 F2 a2 => k b O2 H2 F2 (a1.trans a2)⟩
  | false =>
    rw [if_neg (by decide)] at h1 ⊢
    exact k false O1 H1 F1 a1 h1
theorem lift_or {t u : DTT} (σ : St) (H : Hp) (Q : Bool → Hp → Prop) (h : liftT B (dOr t u) σ H Q) : tOr (liftT B t) (liftT B u) σ H Q := by
  obtain ⟨env, O, F, q, R, h, k⟩ := h
  refine ⟨env, O, F, _, R, h, fun b O1 H1 F1 a1 h1 => ?_⟩
  cases b with
  | true =>
    rw [if_pos rfl] at h1 ⊢
    exact k true O1 H1 F1 a1 h1
  | false =>
    rw [if_neg (by decide)] at h1 ⊢
    exact ⟨env, O1, F1, q, R.call a1, h1, fun b O2 H2 F2 a2 => k b O2 H2 F2 (a1.trans a2)⟩
theorem dt_not {a : Expr} {t : DTT} (h : PT X a (liftT B t)) : PT X (.UnaryOp .Not a pos) (liftT B (dNot t)) := PT.weak (pt_not h) fun σ H Q h => by
  obtain ⟨env, O, F, q, R, h, k⟩ := h
  exact ⟨env, O, F, _, R, h, fun b O1 H1 F1 a1 h1 => k _ O1 H1 F1 a1 h1⟩
theorem PW.weak {e : Expr} {t t' : TT} (h : PW X e t) (i : ∀ σ H Q, t' σ H Q → t σ H Q) : PW X e t' := ⟨fun wh pins s σ H Q I q => h.run wh pins s σ H Q I (i σ H Q q)⟩
theorem dw_and1 {a : Expr} {t : DTT} (h : PT X a (liftT B t)) : PW X (.BoolOp .And [a] pos) (liftT B t) := pw_and1 h
theorem dw_or1 {a : Expr} {t : DTT} (h : PT X a (liftT B t)) : PW X (.BoolOp .Or [a] pos) (liftT B t) := pw_or1 h
theorem dw_and {a b : Expr} {rest : List Expr} {t u : DTT} (h : PT X a (liftT B t)) (h2 : PW X (.BoolOp .And (b :: rest) pos) (liftT B u)) : PW X (.BoolOp .And (a :: b :: rest) pos) (liftT B (dAnd t u)) := PW.weak (pw_and h h2) lift_and
theorem dw_or {a b : Expr} {rest : List Expr} {t u : DTT} (h : PT X a (liftT B t)) (h2 : PW X (.BoolOp .Or (b :: rest) pos) (liftT B u)) : PW X (.BoolOp .Or (a :: b :: rest) pos) (liftT B (dOr t u)) := PW.weak (pw_or h h2) lift_or
/-- as values: all but the last are bools -/
def dAndV (ta tb : DTE) : DTE := fun env O q => ta env O fun x O1 => match x with | .bl true => tb env O1 q | .bl false => q (.bl false) O1 | _ => False
def dOrV (ta tb : DTE) : DTE := fun env O q => ta env O fun x O1 => match x with | .bl false => tb env O1 q | .bl true => q (.bl true) O1 | _ => False
def dNotV (ta : DTE) : DTE := fun env O q => ta env O fun x O1 => match x with | .bl b => q (.bl !b) O1 | _ => False
theorem de_one {op} {a : Expr} {t : DTE} (h : PE X a (lift B t)) : PE X (.BoolOp op [a] pos) (lift B t) := pe_one h
theorem de_and {a b : Expr} {rest : List Expr} {ta tb : DTE} (h : PE X a (lift B ta)) (h2 : PE X (.BoolOp .And (b :: rest) pos) (lift B tb)) : PE X (.BoolOp .And (a :: b :: rest) pos) (lift B (dAndV ta tb)) :=
  PE.weak (pe_and h h2) fun σ H Q h => by
    obtain ⟨env, O, F, q, R, h, k⟩ := h
    refine ⟨env, O, F, _, R, h, fun d v O1 H1 F1 a1 r1 h1 => ?_⟩
    cases d <;> try exact h1.elim
    rename_i b
    cases r1
    cases b with
    | true => exact ⟨true, rfl, by rw [if_pos rfl]; exact ⟨env, O1, F1, q, R.call a1, h1, fun b v O2 H2 F2 a2 => k b v O2 H2 F2 (a1.trans a2)⟩⟩
    | false => exact ⟨false, rfl, by rw [if_neg (by decide)]; exact k _ _ O1 H1 F1 a1 (.bl _) h1⟩
theorem de_or {a b : Expr} {rest : List Expr} {ta tb : DTE} (h : PE X a (lift B ta)) (h2 : PE X (.BoolOp .Or (b :: rest) pos) (lift B tb)) : PE X (.BoolOp .Or (a :: b :: rest) pos) (lift B (dOrV ta tb)) :=
  PE.weak (pe_or h h2) fun σ H Q h => by
    obtain ⟨env, O, F, q, R, h, k⟩ := h
    refine ⟨env, O, F, _, R, h, fun d v O1 H1 F1 a1 r1 h1 => ?_⟩
    cases d <;> try exact h1.elim
    rename_i b
    cases r1
    cases b with
    | false => exact ⟨false, rfl, by rw [if_neg (by decide)]; exact ⟨env, O1, F1, q, R.call a1, h1, fun b v O2 H2 F2 a2 => k b v O2 H2 F2 (a1.trans a2)⟩⟩
    | true => exact ⟨true, rfl, by rw [if_pos rfl]; exact k _ _ O1 H1 F1 a1 (.bl _) h1⟩
theorem de_not {a : Expr} {ta : DTE} (h : PE X a (lift B ta)) : PE X (.UnaryOp .Not a pos) (lift B (dNotV ta)) :=
  PE.weak (pe_not h) fun σ H Q h => by
    obtain ⟨env, O, F, q, R, h, k⟩ := h
    refine ⟨env, O, F, _, R, h, fun d v O1 H1 F1 a1 r1 h1 => ?_⟩
    cases d <;> try exact h1.elim
    cases r1
    exact ⟨_, rfl, k _ _ O1 H1 F1 a1 (.bl _) h1⟩
def dIfE (t : DTT) (ta tb : DTE) : DTE := fun env O q => t env O fun c O1 => if c = true then ta env O1 q else tb env O1 q
theorem de_if {c a b : Expr} {t : DTT} {ta tb : DTE} (hc : PT X c (liftT B t)) (ha : PE X a (lift B ta)) (hb : PE X b (lift B tb)) : PE X (.IfExp c a b pos) (lift B (dIfE t ta tb)) :=
  PE.weak (pe_ifExp hc ha hb) fun σ H Q h => by
    obtain ⟨env, O, F, q, R, h, k⟩ := h
    refine ⟨env, O, F, _, R, h, fun b O1 H1 F1 a1 h1 => ?_⟩
    cases b with
    | true =>
      rw [if_pos rfl] at h1 ⊢
      exact ⟨env, O1, F1, q, R.call a1, h1, fun d v O2 H2 F2 a2 => k d v O2 H2 F2 (a1.trans a2)⟩
    | false =>
      rw [if_neg (by decide)] at h1 ⊢
      exact ⟨env, O1, F1, q, R.call a1, h1, fun d v O2 H2 F2 a2 => k d v O2 H2 F2 (a1.trans a2)⟩

/-! ### statements -/
def dNext : DTS := fun E env O => E.nx env O
def dSeq (t u : DTS) : DTS := fun E env O => t { E with nx := u E } env O
theorem ds_nil : PSs X [] (liftS B dNext) := PSs.weak pss_nil fun E σ H h => by
  obtain ⟨env, O, F, d, R, h, m⟩ := h
  exact m.nx env O σ H F (.refl R) R.sl h
theorem ds_cons {st : Stmt} {rest : List Stmt} {t u : DTS} (h1 : PS X st (liftS B t)) (h2 : PSs X rest (liftS B u)) : PSs X (st :: rest) (liftS B (dSeq t u)) := PSs.weak (pss_cons h1 h2) fun E σ H h => by
  obtain ⟨env, O, F, d, R, h, m⟩ := h
  exact ⟨env, O, F, { d with nx := u d }, R, h, ⟨fun env' O' σ' H' F' a sl hu => ⟨env', O', F', d, R.on a sl, hu, m.later a⟩, m.rt, m.bk, m.ct⟩⟩
theorem ds_one {st : Stmt} {t : DTS} (h1 : PS X st (liftS B t)) : PSs X [st] (liftS B t) := pss_one h1
def dBreak : DTS := fun E env O => E.bk env O
def dCont : DTS := fun E env O => E.ct env O
theorem ds_pass : PS X (.Pass pos) (liftS B dNext) := PS.weak ps_pass fun E σ H h => by
  obtain ⟨env, O, F, d, R, h, m⟩ := h
  exact m.nx env O σ H F (.refl R) R.sl h
theorem ds_break : PS X (.Break pos) (liftS B dBreak) := PS.weak ps_break fun E σ H h => by
  obtain ⟨env, O, F, d, R, h, m⟩ := h
  exact m.bk env O σ H F (.refl R) R.sl h
theorem ds_continue : PS X (.Continue pos) (liftS B dCont) := PS.weak ps_continue fun E σ H h => by
  obtain ⟨env, O, F, d, R, h, m⟩ := h
  exact m.ct env O σ H F (.refl R) R.sl h
theorem ds_doc {x j pos pos'} : PS X (.Expr (.Constant (.str x) j pos) pos') (liftS B dNext) := PS.weak ps_doc fun E σ H h => by
  obtain ⟨env, O, F, d, R, h, m⟩ := h
  exact m.nx env O σ H F (.refl R) R.sl h
def dExpr (te : DTE) : DTS := fun E env O => te env O fun _ O1 => E.nx env O1
theorem ds_expr {e : Expr} {te : DTE} (he : PE X e (lift B te)) (hs : swapsWith e none pos.line X.env = pure false := by rfl) : PS X (.Expr e pos) (liftS B (dExpr te)) := PS.weak (ps_expr he hs) fun E σ H h => by
  obtain ⟨env, O, F, d, R, h, m⟩ := h
  exact ⟨env, O, F, _, R, h, fun x v O1 H1 F1 a1 r1 h1 => m.nx env O1 σ H1 F1 a1 (R.sl.mono a1.ff) h1⟩
def dRet (te : DTE) : DTS := fun E env O => te env O E.rt
theorem ds_ret {e : Expr} {te : DTE} (he : PE X e (lift B te)) : PS X (.Return (some e) pos) (liftS B (dRet te)) := PS.weak (ps_ret he) fun E σ H h => by
  obtain ⟨env, O, F, d, R, h, m⟩ := h
  exact ⟨env, O, F, _, R, h, m.rt⟩
def dRetN : DTS := fun E _ O => E.rt .non O
theorem ds_retN : PS X (.Return none pos) (liftS B dRetN) := PS.weak ps_retN fun E σ H h => by
  obtain ⟨env, O, F, d, R, h, m⟩ := h
  exact m.rt .non .non O H F (.refl R) .non h
def dIf (c : DTT) (t u : DTS) : DTS := fun E env O => c env O fun b O1 => if b = true then t E env O1 else u E env O1
theorem ds_if {c : Expr} {a b : List Stmt} {tc : DTT} {t u : DTS} (hc : PT X c (liftT B tc)) (ha : PSs X a (liftS B t)) (hb : PSs X b (liftS B u)) : PS X (.If c a b pos) (liftS B (dIf tc t u)) := PS.weak (ps_if hc ha hb) fun E σ H h => by
  obtain ⟨env, O, F, d, R, h, m⟩ := h
  refine ⟨env, O, F, _, R, h, fun b O1 H1 F1 a1 h1 => ?_⟩
  cases b with
  | true =>
    rw [if_pos rfl] at h1 ⊢
    exact ⟨env, O1, F1, d, R.call a1, h1, m.later a1⟩
  | false =>
    rw [if_neg (by decide)] at h1 ⊢
    exact ⟨env, O1, F1, d, R.call a1, h1, m.later a1⟩
theorem ds_never {st : Stmt} : PS X st (liftS B fun _ _ _ => False) := PS.weak ps_never fun E σ H h => by
  obtain ⟨env, O, F, d, R, h, _⟩ := h
  exact h

/-! ### targets -/
abbrev DTG := D → Env → Ow → (Env → Ow → Prop) → Prop
def liftG (B : Bd) (t : DTG) : TG := fun v σ H Q => ∃ d env O F q, Rel B env O σ H F ∧ RV B.K F d v ∧ t d env O q ∧ ∀ env' O' σ' H' F', After B.K O H F O' H' F' → Sl B.K env' σ' F' → q env' O' → Q σ' H'
def dgName (i : Nat) : DTG := fun d env O q => q (env.set i (some d)) O
theorem PG.weak {tg : Expr} {t t' : TG} (h : PG X tg t) (i : ∀ v σ H Q, t' v σ H Q → t v σ H Q) : PG X tg t' := ⟨fun pins s σ H v u Q I r q => h.run pins s σ H v u Q I r (i v σ H Q q)⟩
theorem dg_name {tg : Expr} {i : Nat} (h : PG X tg (gName i)) : PG X tg (liftG B (dgName i)) := PG.weak h fun v σ H Q h => by
  obtain ⟨d, env, O, F, q, R, r, h, k⟩ := h
  exact k _ O _ H F (.refl R) (R.sl.setv r) h
def dAsg (te : DTE) (g : DTG) : DTS := fun E env O => te env O fun d O1 => g d env O1 E.nx
theorem lift_asg {te : DTE} {g : DTG} (E : Ends) (σ : St) (H : Hp) (h : liftS B (dAsg te g) E σ H) : tAsg (lift B te) (liftG B g) E σ H := by
  obtain ⟨env, O, F, d, R, h, m⟩ := h
  exact ⟨env, O, F, _, R, h, fun x v O1 H1 F1 a1 r1 h1 => ⟨x, env, O1, F1, _, R.call a1, r1, h1, fun e o σ' h f a2 => m.nx e o σ' h f (a1.trans a2)⟩⟩
theorem ds_set {st : Stmt} {te : DTE} {i : Nat} (h : PS X st (tAsg (lift B te) (gName i))) : PS X st (liftS B (dAsg te (dgName i))) := PS.weak h fun E σ H h => by
  obtain ⟨env, O, F, d, R, h, m⟩ := h
  exact ⟨env, O, F, _, R, h, fun x v O1 H1 F1 a1 r1 h1 => m.nx _ O1 _ H1 F1 a1 ((R.sl.mono a1.ff).setv r1) h1⟩
theorem ds_asg {st : Stmt} {te : DTE} {g : DTG} (h : PS X st (tAsg (lift B te) (liftG B g))) : PS X st (liftS B (dAsg te g)) := PS.weak h lift_asg
/-- a, b = x, y -/
def dPar (i j : Nat) (ta : DTA) : DTS := fun E env O => ta env O fun ds O1 => match ds with | [d, e] => E.nx ((env.set i (some d)).set j (some e)) O1 | _ => False
theorem ds_par {st : Stmt} {i j : Nat} {ta : DTA} (h : PS X st (tPar i j (liftA B ta))) : PS X st (liftS B (dPar i j ta)) := PS.weak h fun E σ H h => by
  obtain ⟨env, O, F, d, R, h, m⟩ := h
  refine ⟨env, O, F, _, R, h, fun ds vs O1 H1 F1 a1 r1 h1 => ?_⟩
  match ds, r1, h1 with
  | [a, b], r1, h1 =>
    obtain ⟨v, w, rfl, r1, r2⟩ := r1.two
    exact ⟨v, w, rfl, m.nx _ O1 _ H1 F1 a1 (((R.sl.mono a1.ff).setv r1).setv r2) h1⟩
/-- several targets -/
abbrev DTGs := List D → Env → Ow → (Env → Ow → Prop) → Prop
def liftGs (B : Bd) (t : DTGs) : TGs := fun vs σ H Q => ∃ ds env O F q, Rel B env O σ H F ∧ RVs B.K F ds vs ∧ t ds env O q ∧ ∀ env' O' σ' H' F', After B.K O H F O' H' F' → Sl B.K env' σ' F' → q env' O' → Q σ' H'
def dgNil : DTGs := fun ds env O q => ds = [] ∧ q env O
def dgCons (t : DTG) (u : DTGs) : DTGs := fun ds env O q => match ds with | d :: r => t d env O fun env' O' => u r env' O' q | [] => False
theorem PGs.weak {tg : List Expr} {t t' : TGs} (h : PGs X tg t) (i : ∀ v σ H Q, t' v σ H Q → t v σ H Q) : PGs X tg t' := ⟨fun pins s σ H v u Q I r q => h.run pins s σ H v u Q I r (i v σ H Q q)⟩
theorem dgs_nil : PGs X [] (liftGs B dgNil) := PGs.weak pgs_nil fun vs σ H Q h => by
  obtain ⟨ds, env, O, F, q, R, r, h, k⟩ := h
  obtain ⟨rfl, h⟩ := h
  cases r
  exact ⟨rfl, k env O σ H F (.refl R) R.sl h⟩
theorem dgs_cons {e : Expr} {es : List Expr} {t : DTG} {u : DTGs} (h1 : PG X e (liftG B t)) (h2 : PGs X es (liftGs B u)) (hs : (assignEach (e :: es) X.env).map (·.2) = assign e X.env :: (assignEach es X.env).map (·.2) := by rfl) :
    PGs X (e :: es) (liftGs B (dgCons t u)) := PGs.weak (pgs_cons h1 h2 hs) fun vs σ H Q h => by
  obtain ⟨ds, env, O, F, q, R, r, h, k⟩ := h
  cases r with
  | nil => exact h.elim
  | cons r rs =>
    refine ⟨_, _, rfl, _, env, O, F, _, R, r, h, fun env' O' σ' H' F' a1 s1 h1 => ?_⟩
    exact ⟨_, env', O', F', q, R.on a1 s1, rs.mono a1.ff, h1, fun e o σ' h f a2 => k e o σ' h f (a1.trans a2)⟩
def dgTup (n : Nat) (t : DTGs) : DTG := fun d env O q => match d with | .tup ds => ds.length = n ∧ t ds env O q | _ => False
theorem dg_tup {es : List Expr} {k : Nat} {t : DTGs} {n : Nat} (hK : X.K = B.K) (hc : X.calm = true) (h : PGs X es (liftGs B t)) (hn : (assignEach es X.env).length = n := by rfl) (hst : (assignEach es X.env).findIdx? (·.1) = none := by rfl) :
    PG X (.Tuple es k pos) (liftG B (dgTup n t)) := PG.weak (pg_tup hc h hn hst) fun v σ H Q h => by
  obtain ⟨d, env, O, F, q, R, r, h, kk⟩ := h
  cases d <;> try exact h.elim
  cases r with
  | tup hs hr =>
    refine ⟨_, _, rfl, by rw [hK]; exact same_tup R.fh hs, hr.length ▸ h.1, ?_⟩
    exact ⟨_, env, O, F, q, R, hr, h.2, kk⟩
end
end DL

set_option Elab.async false
set_option linter.all false
set_option maxRecDepth 100000
set_option maxHeartbeats 4000000
namespace DL
open PySem PySem.Spec PyProof.Rows L2

/-! ### what is walked -/
abbrev DTI := Env → Ow → (List D → (Ow → Prop) → Ow → Prop) → Prop
/-- the iterator J yields xs, while what Gd says of the ghost heap holds -/
def ItD (B : Bd) (J : It) (xs : List D) (Gd : Ow → Prop) (F1 : Hp) : Prop := ∀ (O : Ow) (H F : Hp) (i : Nat), Same F1 F → Same F H → OwOk B.K O H F → Gd O →
  (∀ x, xs[i]? = some x → J.go i H ∧ ∀ v H2, J.yld i H v H2 → ∃ F2, After B.K O H F O H2 F2 ∧ RV B.K F2 x v) ∧ (i = xs.length → J.stop i H)
def liftI (B : Bd) (wi : DTI) : TI := fun σ H R => ∃ env O F q, Rel B env O σ H F ∧ wi env O q ∧
  ∀ xs Gd O' H' F' J, After B.K O H F O' H' F' → ItD B J xs Gd F' → q xs Gd O' → R J H'
theorem PI.weak {X : Cx} {tg e : Expr} {t t' : TI} (h : PI X tg e t) (i : ∀ σ H R, t' σ H R → t σ H R) : PI X tg e t' := ⟨fun pins s σ H R I q => h.run pins s σ H R I (i σ H R q)⟩

/-- the items of a list: data, or one's own -/
def asL (O : Ow) : D → Option (List D)
  | .lst ds => some ds
  | .ref p => match O p with | some (.lst ds) => some ds | _ => none
  | _ => none
theorem asL_sq {K : Frag} {O : Ow} {H F : Hp} (fh : Same F H) (ow : OwOk K O H F) {d : D} {v : V} {ds : List D} (r : RV K F d v) (h : asL O d = some ds) : ∃ a xs, v = .ref a ∧ SqL K H a xs ∧ RVs K F ds xs := by
  cases d <;> simp only [asL] at h <;> try (cases h; done)
  · rename_i p
    cases r
    split at h
    · rename_i e
      cases h
      obtain ⟨_, ho, e1, vs, rfl, r⟩ := ow _ _ e
      exact ⟨_, vs, rfl, SqL.of e1, r⟩
    · cases h
  · cases h
    cases r with
    | lst hs hr => exact ⟨_, _, rfl, fh.seq hs, hr⟩
/-- an own list, as long as it stands so -/
def gdL (O0 : Ow) : D → Ow → Prop
  | .ref p => fun O => O p = O0 p
  | _ => fun _ => True
theorem asL_gd {O1 O2 : Ow} {d : D} {ds : List D} (e : asL O1 d = some ds) (g : gdL O1 d O2) : asL O2 d = some ds := by
  cases d <;> simp only [asL] at e ⊢ <;> try exact e
  rename_i p
  have g' : O2 p = O1 p := g
  rw [g']; exact e

section
variable {X : Cx} {B : Bd} {pos : Pos} {tg : Expr}
def diList (te : DTE) : DTI := fun env O q => te env O fun d O1 => ∃ ds, asL O1 d = some ds ∧ q ds (gdL O1 d) O1
theorem di_list {l : Expr} {te : DTE} (hK : X.K = B.K) (h : PE X l (lift B te)) : PI X tg l (liftI B (diList te)) := PI.weak (pi_list h) fun σ H R hh => by
  obtain ⟨env, O, F, q, R0, hh, k⟩ := hh
  refine ⟨env, O, F, _, R0, hh, fun d v O1 H1 F1 a1 r1 h1 => ?_⟩
  obtain ⟨ds, e, h1⟩ := h1
  obtain ⟨a, xs, rfl, hs, hr⟩ := asL_sq a1.fh a1.ow r1 e
  refine ⟨a, rfl, ⟨xs, by rw [hK]; exact hs⟩, k ds _ O1 H1 F1 _ a1 ?_ h1⟩
  intro O2 H2 F2 i s2 fh2 ow2 gd
  obtain ⟨a', ys, e', hs', hr'⟩ := asL_sq fh2 ow2 (r1.mono s2) (asL_gd e gd)
  cases e'
  rw [hK]
  refine ⟨fun x hx => ?_, fun hi => ⟨ys, hs', by rw [hi, hr'.length]; exact Nat.le_refl _⟩⟩
  obtain ⟨v', e1, r'⟩ := hr'.get hx
  refine ⟨⟨ys, v', hs', e1⟩, fun v H3 hy => ?_⟩
  obtain ⟨rfl, hy⟩ := hy
  have : v = v' := Option.some.inj ((hy ys hs').symm.trans e1)
  subst this
  exact ⟨F2, .rfl' fh2 ow2, r'⟩
def diTup (te : DTE) : DTI := fun env O q => te env O fun d O1 => match d with | .tup ds => q ds (fun _ => True) O1 | _ => False
theorem di_tup {l : Expr} {te : DTE} (hK : X.K = B.K) (h : PE X l (lift B te)) : PI X tg l (liftI B (diTup te)) := PI.weak (pi_tup h) fun σ H R hh => by
  obtain ⟨env, O, F, q, R0, hh, k⟩ := hh
  refine ⟨env, O, F, _, R0, hh, fun d v O1 H1 F1 a1 r1 h1 => ?_⟩
  cases d <;> try exact h1.elim
  cases r1 with
  | tup hs hr =>
    rename_i a xs
    refine ⟨a, rfl, ⟨xs, by rw [hK]; exact same_tup a1.fh hs⟩, k _ _ O1 H1 F1 _ a1 ?_ h1⟩
    intro O2 H2 F2 i s2 fh2 ow2 _
    have hs' : SqT B.K H2 a xs := same_tup (s2.trans fh2) hs
    rw [hK]
    refine ⟨fun x hx => ?_, fun hi => ⟨xs, hs', by rw [hi, hr.length]; exact Nat.le_refl _⟩⟩
    obtain ⟨v', e1, r'⟩ := hr.get hx
    refine ⟨⟨xs, v', hs', e1⟩, fun v H3 hy => ?_⟩
    obtain ⟨rfl, hy⟩ := hy
    have : v = v' := Option.some.inj ((hy xs hs').symm.trans e1)
    subst this
    exact ⟨F2, .rfl' fh2 ow2, r'.mono s2⟩
/-- lo, lo + 1, .. below hi -/
def rgD (lo hi : Int) : List D := (List.range (hi - lo).toNat).map fun (k : Nat) => .int (lo + (k : Int))
def InRg (i : Int) : Prop := -(2 ^ 62) ≤ i ∧ i < 2 ^ 62
theorem it_range {lo hi : Int} {F1 : Hp} : ItD B (Itr lo (hi - lo).toNat) (rgD lo hi) (fun _ => True) F1 := by
  intro O2 H2 F2 i s2 fh2 ow2 _
  unfold rgD
  refine ⟨fun x hx => ?_, fun hi => ?_⟩
  · rw [List.getElem?_map] at hx
    cases e : (List.range (hi - lo).toNat)[i]? with
    | none => rw [e] at hx; cases hx
    | some j =>
      rw [e] at hx
      cases hx
      obtain ⟨hl, e2⟩ := List.getElem?_eq_some_iff.mp e
      rw [List.getElem_range] at e2
      subst e2
      rw [List.length_range] at hl
      refine ⟨hl, fun v H3 hy => ?_⟩
      obtain ⟨rfl, rfl⟩ := hy
      exact ⟨F2, .rfl' fh2 ow2, .int _⟩
  · rw [List.length_map, List.length_range] at hi
    exact Nat.le_of_eq hi.symm
def diRg1 (ta : DTA) : DTI := fun env O q => ta env O fun ds O1 => match ds with | [.int j] => InRg j ∧ q (rgD 0 j) (fun _ => True) O1 | _ => False
theorem di_range1 {a : Expr} {ta : DTA} {p : Pos} (hg : Gl X "range") (hm : X.mg "range" = none) (ha : PA X [a] (liftA B ta)) (hs : starEach [a] X.env = [(false, eval a X.env)] := by rfl) : PI X tg (.Call (.Name "range" p) [a] [] pos) (liftI B (diRg1 ta)) :=
  PI.weak (pi_range1 hg hm ha hs) fun σ H R hh => by
    obtain ⟨env, O, F, q, R0, hh, k⟩ := hh
    refine ⟨env, O, F, _, R0, hh, fun ds vs O1 H1 F1 a1 r1 h1 => ?_⟩
    match ds, r1, h1 with
    | [.int j], r1, h1 =>
      obtain ⟨v, rfl, r⟩ := r1.one
      cases r
      obtain ⟨⟨b1, b2⟩, h1⟩ := h1
      have := k (rgD 0 j) _ O1 H1 F1 (Itr 0 (j - 0).toNat) a1 it_range h1
      rw [Int.sub_zero] at this
      exact ⟨j, rfl, b1, b2, this⟩
def diRg2 (ta : DTA) : DTI := fun env O q => ta env O fun ds O1 => match ds with | [.int i, .int j] => InRg i ∧ InRg j ∧ q (rgD i j) (fun _ => True) O1 | _ => False
theorem di_range2 {a b : Expr} {ta : DTA} {p : Pos} (hg : Gl X "range") (hm : X.mg "range" = none) (ha : PA X [a, b] (liftA B ta)) (hs : starEach [a, b] X.env = [(false, eval a X.env), (false, eval b X.env)] := by rfl) (hs2 : starEach [b] X.env = [(false, eval b X.env)] := by rfl) :
    PI X tg (.Call (.Name "range" p) [a, b] [] pos) (liftI B (diRg2 ta)) :=
  PI.weak (pi_range2 hg hm ha hs hs2) fun σ H R hh => by
    obtain ⟨env, O, F, q, R0, hh, k⟩ := hh
    refine ⟨env, O, F, _, R0, hh, fun ds vs O1 H1 F1 a1 r1 h1 => ?_⟩
    match ds, r1, h1 with
    | [.int i, .int j], r1, h1 =>
      obtain ⟨v, w, rfl, r, r'⟩ := r1.two
      cases r
      cases r'
      obtain ⟨⟨b1, b2⟩, ⟨b3, b4⟩, h1⟩ := h1
      exact ⟨i, j, rfl, ⟨b1, b2, b3, b4⟩, k (rgD i j) _ O1 H1 F1 _ a1 it_range h1⟩

/-! ### for -/
def forGo (g : DTG) (tb : DTS) (Gd : Ow → Prop) (E : DEnds) : List D → Env → Ow → Prop
  | [], env, O => Gd O ∧ E.nx env O
  | x :: xs, env, O => Gd O ∧ g x env O fun env2 O2 => tb { nx := fun e o => ∃ o2, SubO o2 o ∧ forGo g tb Gd E xs e o2, rt := E.rt, bk := E.nx, ct := fun e o => ∃ o2, SubO o2 o ∧ forGo g tb Gd E xs e o2 } env2 O2
def dFor (wi : DTI) (g : DTG) (tb : DTS) : DTS := fun E env O => wi env O fun xs Gd O1 => forGo g tb Gd E xs env O1
theorem ds_for {st : Stmt} {wi : DTI} {g : DTG} {tb : DTS} (h : PS X st (tFor (liftI B wi) (liftG B g) (liftS B tb))) : PS X st (liftS B (dFor wi g tb)) := PS.weak h fun E σ H hh => by
  obtain ⟨env, O, F, d, R, hh, m⟩ := hh
  refine ⟨env, O, F, _, R, hh, fun xs Gd O1 H1 F1 J a1 hJ h1 => ?_⟩
  refine ⟨fun i n σ H => n = xs.length - i ∧ i ≤ xs.length ∧ ∃ env O F2, After B.K O1 H1 F1 O H F2 ∧ Sl B.K env σ F2 ∧ forGo g tb Gd d (xs.drop i) env O, ⟨xs.length, by simp, Nat.zero_le _, env, O1, F1, .refl (R.call a1), R.sl.mono a1.ff, h1⟩, ?_⟩
  rintro i n σ2 H2 ⟨rfl, hi, env2, O2, F2, a2, s2, h2⟩
  by_cases hlt : i < xs.length
  · refine .inr ?_
    rw [List.drop_eq_getElem_cons hlt] at h2
    obtain ⟨gd, h2⟩ := h2
    obtain ⟨hgo, hy⟩ := (hJ O2 H2 F2 i a2.ff a2.fh a2.ow gd).1 xs[i] (List.getElem?_eq_getElem hlt)
    refine ⟨hgo, fun σ' H' => ∃ env O F3, After B.K O1 H1 F1 O H' F3 ∧ Sl B.K env σ' F3 ∧ forGo g tb Gd d (xs.drop (i + 1)) env O, fun σ' H' n => ⟨xs.length - (i + 1), by omega, rfl, hlt, n⟩, fun v H3 yv => ?_⟩
    obtain ⟨F3, a3, rv⟩ := hy v H3 yv
    have b3 := a2.trans a3
    have R3 : Rel B env2 O2 σ2 H3 F3 := ⟨R.af.trans (a1.trans b3), s2.mono a3.ff⟩
    refine ⟨xs[i], env2, O2, F3, _, R3, rv, h2, fun env4 O4 σ4 H4 F4 a4 s4 h4 => ?_⟩
    have b4 := b3.trans a4
    refine ⟨env4, O4, F4, _, R3.on a4 s4, h4, ⟨fun e o σ'' h f a' sl ⟨o2, sb, n⟩ => ⟨e, o2, f, (b4.trans a').weak sb, sl, n⟩, fun x v o h f a' => m.rt x v o h f (a1.trans (b4.trans a')), fun e o σ'' h f a' => m.nx e o σ'' h f (a1.trans (b4.trans a')), fun e o σ'' h f a' sl ⟨o2, sb, n⟩ => ⟨e, o2, f, (b4.trans a').weak sb, sl, n⟩⟩⟩
  · have e : i = xs.length := by omega
    subst e
    rw [List.drop_length] at h2
    exact .inl ⟨(hJ O2 H2 F2 _ a2.ff a2.fh a2.ow h2.1).2 rfl, m.nx env2 O2 σ2 H2 F2 (a1.trans a2) s2 h2.2⟩
/-- by a word over the turn -/
theorem forGo_inv {g : DTG} {tb : DTS} {Gd : Ow → Prop} {E : DEnds} {xs : List D} {env : Env} {O : Ow} (P : Nat → Env → Ow → Prop) (h0 : P 0 env O) (hg : ∀ i env O, i ≤ xs.length → P i env O → Gd O)
    (hs : ∀ (N : Env → Ow → Prop) (i : Nat) (x : D) (env : Env) (O : Ow), xs[i]? = some x → P i env O → (∀ e o o2, SubO o2 o → P (i + 1) e o2 → N e o) → g x env O fun env2 O2 => tb { nx := N, rt := E.rt, bk := E.nx, ct := N } env2 O2)
    (hd : ∀ env O, P xs.length env O → E.nx env O) : forGo g tb Gd E xs env O := by
  suffices h : ∀ (ys : List D) (i : Nat) (env : Env) (O : Ow), xs.drop i = ys → i ≤ xs.length → P i env O → forGo g tb Gd E ys env O from h xs 0 env O rfl (Nat.zero_le _) h0
  intro ys
  induction ys with
  | nil =>
    intro i env O e hi p
    have : xs.length ≤ i := List.drop_eq_nil_iff.mp e
    have : i = xs.length := by omega
    subst this
    exact ⟨hg _ env O hi p, hd env O p⟩
  | cons y ys ih =>
    intro i env O e hi p
    have hlt : i < xs.length := by
      rcases Nat.lt_or_ge i xs.length with h | h
      · exact h
      · rw [List.drop_eq_nil_iff.mpr h] at e; cases e
    rw [List.drop_eq_getElem_cons hlt] at e
    injection e with e1 e2
    exact ⟨hg i env O hi p, hs _ i y env O (by rw [← e1]; exact List.getElem?_eq_getElem hlt) p fun e o o2 sb p' => ⟨o2, sb, ih (i + 1) e o2 e2 hlt p'⟩⟩

/-! ### while -/
def whGo (c : DTT) (tb : DTS) (E : DEnds) : Nat → Env → Ow → Prop
  | 0, _, _ => False
  | m + 1, env, O => c env O fun b O1 => if b = true then tb { nx := fun e o => ∃ o2, SubO o2 o ∧ whGo c tb E m e o2, rt := E.rt, bk := E.nx, ct := fun e o => ∃ o2, SubO o2 o ∧ whGo c tb E m e o2 } env O1 else E.nx env O1
def dWhile (c : DTT) (tb : DTS) : DTS := fun E env O => ∃ m, whGo c tb E m env O
theorem ds_while {st : Stmt} {c : DTT} {tb : DTS} (h : PS X st (tWhile (liftT B c) (liftS B tb))) : PS X st (liftS B (dWhile c tb)) := PS.weak h fun E σ H hh => by
  obtain ⟨env, O, F, d, R, ⟨m0, hh⟩, mt⟩ := hh
  refine ⟨fun m σ' H' => ∃ env' O' F2, After B.K O H F O' H' F2 ∧ Sl B.K env' σ' F2 ∧ whGo c tb d m env' O', ⟨m0, env, O, F, .refl R, R.sl, hh⟩, ?_⟩
  rintro m σ2 H2 ⟨env2, O2, F2, a2, s2, h2⟩
  cases m with
  | zero => exact h2.elim
  | succ m =>
    have R2 := R.on a2 s2
    refine ⟨env2, O2, F2, _, R2, h2, fun b O3 H3 F3 a3 h3 => ?_⟩
    have b3 := a2.trans a3
    cases b with
    | true =>
      rw [if_pos rfl] at h3
      refine iteT ⟨fun σ' H' => ∃ env' O' F2, After B.K O H F O' H' F2 ∧ Sl B.K env' σ' F2 ∧ whGo c tb d m env' O', fun σ' H' n => ⟨m, Nat.lt_succ_self m, n⟩, ?_⟩
      exact ⟨env2, O3, F3, _, R2.call a3, h3, ⟨fun e o σ'' h f a' sl ⟨o2, sb, n⟩ => ⟨e, o2, f, (b3.trans a').weak sb, sl, n⟩, fun x v o h f a' => mt.rt x v o h f (b3.trans a'), fun e o σ'' h f a' => mt.nx e o σ'' h f (b3.trans a'), fun e o σ'' h f a' sl ⟨o2, sb, n⟩ => ⟨e, o2, f, (b3.trans a').weak sb, sl, n⟩⟩⟩
    | false =>
      rw [if_neg (by decide)] at h3
      exact iteF (mt.nx env2 O3 σ2 H3 F3 b3 (s2.mono a3.ff) h3)

/-! ### comprehensions -/
theorem wipe_get {σ : St} {vs : List Nat} {j : Nat} : (wipe σ vs)[j]? = if j ∈ vs then (σ[j]?).map fun _ => none else σ[j]? := by
  induction vs with
  | nil => simp [wipe]
  | cons v vs ih =>
    unfold wipe
    by_cases h : v = j
    · subst h
      rw [if_pos (by simp)]
      by_cases hl : v < (wipe σ vs).length
      · rw [List.getElem?_set_self hl]
        rw [wipe_length] at hl
        rw [List.getElem?_eq_getElem hl]; rfl
      · rw [List.getElem?_eq_none (by simpa using hl)]
        rw [wipe_length] at hl
        rw [List.getElem?_eq_none (by omega)]; rfl
    · rw [List.getElem?_set_ne h, ih]
      have : (j ∈ v :: vs) = (j ∈ vs) := by
        simp only [List.mem_cons, eq_iff_iff]
        exact ⟨fun z => z.elim (fun z => absurd z.symm h) id, .inr⟩
      simp only [this]
theorem wipe_set {σ : St} {vs : List Nat} {i : Nat} {x : Option V} (h : i ∈ vs) (ρ : St) (e : wipe ρ vs = wipe σ vs) : wipe (ρ.set i x) vs = wipe σ vs := by
  apply List.ext_getElem?
  intro j
  rw [← e, wipe_get, wipe_get]
  by_cases hj : j ∈ vs
  · rw [if_pos hj, if_pos hj]
    by_cases hij : i = j
    · subst hij
      by_cases hl : i < ρ.length
      · rw [List.getElem?_set_self hl, List.getElem?_eq_getElem hl]; rfl
      · rw [List.getElem?_eq_none (by simpa using hl), List.getElem?_eq_none (by omega)]
    · rw [List.getElem?_set_ne hij]
  · rw [if_neg hj, if_neg hj, List.getElem?_set_ne (fun z => hj (by rw [← z]; exact h))]
theorem wipe_wipe {σ : St} {vs : List Nat} : wipe (wipe σ vs) vs = wipe σ vs := by
  apply List.ext_getElem?
  intro j
  rw [wipe_get, wipe_get]
  by_cases hj : j ∈ vs
  · rw [if_pos hj, if_pos hj, Option.map_map]; rfl
  · rw [if_neg hj, if_neg hj]
def wipeD (env : Env) : List Nat → Env
  | [] => env
  | v :: vs => (wipeD env vs).set v none
theorem Sl.wiped {K : Frag} {env : Env} {σ : St} {F : Hp} (R : Sl K env σ F) : ∀ vs : List Nat, Sl K (wipeD env vs) (wipe σ vs) F
  | [] => R
  | _ :: vs => (R.wiped vs).setn
/-- a comprehension's target: it stores names of vs alone -/
def SimG (K : Frag) (vs : List Nat) (g : TG) (dg : DTG) : Prop := ∀ (env : Env) (O : Ow) (σ ρ : St) (H F : Hp) (v : V) (d : D) (q : Env → Ow → Prop) (Q : St → Hp → Prop), Same F H → Sl K env ρ F → wipe ρ vs = wipe σ vs → RV K F d v → dg d env O q →
  (∀ env' ρ', wipe ρ' vs = wipe σ vs → Sl K env' ρ' F → q env' O → Q ρ' H) → g v ρ H Q
theorem simG_name {K : Frag} {vs : List Nat} {i : Nat} (h : i ∈ vs) : SimG K vs (gName i) (dgName i) := fun env O σ ρ H F v d q Q _ R e r hq k => k _ _ (wipe_set h ρ e) (R.setv r) hq
def SimGs (K : Frag) (vs : List Nat) (g : TGs) (dg : DTGs) : Prop := ∀ (env : Env) (O : Ow) (σ ρ : St) (H F : Hp) (v : List V) (d : List D) (q : Env → Ow → Prop) (Q : St → Hp → Prop), Same F H → Sl K env ρ F → wipe ρ vs = wipe σ vs → RVs K F d v → dg d env O q →
  (∀ env' ρ', wipe ρ' vs = wipe σ vs → Sl K env' ρ' F → q env' O → Q ρ' H) → g v ρ H Q
theorem simGs_nil {K : Frag} {vs : List Nat} : SimGs K vs gNil dgNil := fun env O σ ρ H F v d q Q _ R e r hq k => by
  obtain ⟨rfl, hq⟩ := hq
  cases r
  exact ⟨rfl, k _ _ e R hq⟩
def OwSame (dg : DTG) : Prop := ∀ d env O q, dg d env O q → dg d env O fun env' O' => O' = O ∧ q env' O'
theorem owSame_name {i : Nat} : OwSame (dgName i) := fun d env O q h => ⟨rfl, h⟩
theorem simGs_cons {K : Frag} {vs : List Nat} {g : TG} {dg : DTG} {gs : TGs} {dgs : DTGs} (ho : OwSame dg) (h : SimG K vs g dg) (hs : SimGs K vs gs dgs) : SimGs K vs (gCons g gs) (dgCons dg dgs) := fun env O σ ρ H F v d q Q fh R e r hq k => by
  cases r with
  | nil => exact hq.elim
  | cons r rs =>
    refine ⟨_, _, rfl, h env O σ ρ H F _ _ _ _ fh R e r (ho _ _ _ _ hq) fun env' ρ' e' R' hq' => ?_⟩
    exact hs env' O σ ρ' H F _ _ q Q fh R' e' rs hq'.2 k
theorem simG_tup {K' K : Frag} {vs : List Nat} {n : Nat} {gs : TGs} {dgs : DTGs} (hK : K' = K) (hs : SimGs K vs gs dgs) : SimG K vs (gTup K' n gs) (dgTup n dgs) := fun env O σ ρ H F v d q Q fh R e r hq k => by
  cases d <;> try exact hq.elim
  cases r with
  | tup h1 h2 => exact ⟨_, _, rfl, by rw [hK]; exact same_tup fh h1, h2.length ▸ hq.1, hs env O σ ρ H F _ _ q Q fh R e h2 hq.2 k⟩

def lcGo (g : DTG) (tt : DTT) (te : DTE) (Gd : Ow → Prop) : List D → Env → Ow → (List D → Ow → Prop) → Prop
  | [], _, O, q => Gd O ∧ q [] O
  | x :: xs, env, O, q => Gd O ∧ g x env O fun env2 _ => tt env2 O fun b O3 => if b = true then te env2 O3 fun y O4 => ∃ o2, SubO o2 O4 ∧ lcGo g tt te Gd xs env o2 fun ys O5 => q (y :: ys) O5 else ∃ o2, SubO o2 O3 ∧ lcGo g tt te Gd xs env o2 q
def dLc (wi : DTI) (g : DTG) (tt : DTT) (te : DTE) (vs : List Nat) : DTE := fun env O q => wi env O fun xs Gd O1 => xs.length ≤ sizeLine ∧ lcGo g tt te Gd xs (wipeD env vs) O1 fun ys O2 => q (.lst ys) O2
def dLcO (wi : DTI) (g : DTG) (tt : DTT) (te : DTE) (vs : List Nat) : DTE := fun env O q => wi env O fun xs Gd O1 => xs.length ≤ sizeLine ∧ lcGo g tt te Gd xs (wipeD env vs) O1 fun ys O2 => ∀ p, O2 p = none → q (.ref p) (setO O2 p (.lst ys))
theorem After.upn {K : Frag} {O O' : Ow} {H F H' F' : Hp} (a : After K O H F O' H' F') {p : Addr} {o : HO} (h1 : O' p = none) (h2 : F' p = none) (h3 : O p ≠ none ∨ H p = none) : After K O H F O' (upd H' p o) F' := by
  refine ⟨a.ff, fun b x e => by rw [upd_ne (ne_of_none e h2)]; exact a.fh b x e, fun b x e ho => ?_, a.fr, fun q x e => ?_, a.nw⟩
  · have : b ≠ p := fun z => by
      subst z
      rcases h3 with h3 | h3
      · exact h3 ho
      · rw [h3] at e; cases e
    rw [upd_ne this]; exact a.kp b x e ho
  · have hq : q ≠ p := fun z => by rw [z, h1] at e; cases e
    obtain ⟨a1, ho, a3, a4⟩ := a.ow q x e
    exact ⟨a1, ho, by rw [upd_ne hq]; exact a3, a4⟩
/-- a new list becomes data, or one's own -/
theorem After.ice {K : Frag} {O O' : Ow} {H F H' F' : Hp} (a : After K O H F O' H' F') {p : Addr} {o : HO} (h1 : O' p = none) (h2 : F' p = none) (h3 : O p ≠ none ∨ H p = none) (hp : H' p = some o) : After K O H F O' H' (upd F' p o) := by
  have s : Same F' (upd F' p o) := fun b u e => by rw [upd_ne (ne_of_none e h2)]; exact e
  refine ⟨a.ff.trans s, fun b x e => ?_, a.kp, fun b e1 e2 e3 => ?_, fun q x e => ?_, a.nw⟩
  · by_cases hb : b = p
    · subst hb; rw [upd_same] at e; cases e; exact hp
    · rw [upd_ne hb] at e; exact a.fh b x e
  · have : b ≠ p := fun z => by
      subst z
      rcases h3 with h3 | h3
      · exact h3 e2
      · exact e1 h3
    rw [upd_ne this]; exact a.fr b e1 e2 e3
  · have hq : q ≠ p := fun z => by rw [z, h1] at e; cases e
    obtain ⟨a1, ho, a3, a4⟩ := a.ow q x e
    exact ⟨by rw [upd_ne hq]; exact a1, ho, a3, a4.mono s⟩
theorem After.mine {K : Frag} {O O' : Ow} {H F H' F' : Hp} (a : After K O H F O' H' F') {p : Addr} {o : HO} {u : OD} (h2 : F' p = none) (h3 : O p ≠ none ∨ H p = none) (hp : H' p = some o) (r : RO K F' u o) : After K O H F (setO O' p u) H' F' := by
  refine ⟨a.ff, a.fh, a.kp, a.fr, fun q x e => ?_, fun q x e => ?_⟩
  · by_cases hq : q = p
    · subst hq
      rw [setO_same] at e; cases e
      exact ⟨h2, o, hp, r⟩
    · rw [setO_ne hq] at e; exact a.ow q x e
  · by_cases hq : q = p
    · subst hq; exact h3
    · rw [setO_ne hq] at e; exact a.nw q x e
/-- what is neither own nor frozen stays out of both -/
theorem After.out {K : Frag} {O O' : Ow} {H F H' F' : Hp} (a : After K O H F O' H' F') {p : Addr} {o : HO} (h1 : O p = none) (h2 : F p = none) (h3 : H p = some o) : O' p = none ∧ F' p = none ∧ H' p = some o := by
  refine ⟨?_, a.fr p (by rw [h3]; simp) h1 h2, a.kp p o h3 h1⟩
  cases e : O' p with
  | none => rfl
  | some u =>
    rcases a.nw p u e with z | z
    · exact absurd h1 z
    · rw [h3] at z; cases z
theorem lc_sim {wi : DTI} {g : TG} {dg : DTG} {tt : DTT} {te : DTE} {vs : List Nat} (sg : SimG B.K vs g dg) {σ : St} {H : Hp} {Q : VK} {env : Env} {O : Ow} {F : Hp} {q : List D → Ow → Prop} (R : Rel B env O σ H F)
    (h : wi env O fun xs Gd O1 => xs.length ≤ sizeLine ∧ lcGo dg tt te Gd xs (wipeD env vs) O1 q)
    (k : ∀ ys vs' O' H' F' p, After B.K O H F O' H' F' → (O p ≠ none ∨ H p = none) → O' p = none → F' p = none → RVs B.K F' ys vs' → H' p = some (.lst vs') → q ys O' → Q (.ref p) H') :
    tLc (liftI B wi) g (liftT B tt) (lift B te) vs σ H Q := by
  refine ⟨env, O, F, _, R, h, fun xs Gd O1 H1 F1 J a1 hJ h1 p hp => ?_⟩
  obtain ⟨hl, h1⟩ := h1
  have R1 := R.call a1
  obtain ⟨p1, p2⟩ := R1.free hp
  have hp0 : O p ≠ none ∨ H p = none := by
    by_cases ho : O p = none
    · refine .inr ?_
      cases e : H p with
      | none => rfl
      | some o => rw [a1.kp p o e ho] at hp; cases hp
    · exact .inl ho
  refine ⟨fun i n Hc => n = xs.length - i ∧ i ≤ xs.length ∧ ∃ O2 F2 acc av, After B.K O1 H1 F1 O2 Hc F2 ∧ O2 p = none ∧ F2 p = none ∧ acc.length ≤ i ∧ RVs B.K F2 acc av ∧ Hc p = some (.lst av) ∧ lcGo dg tt te Gd (xs.drop i) (wipeD env vs) O2 fun ys O3 => q (acc ++ ys) O3,
    ⟨xs.length, by simp, Nat.zero_le _, O1, F1, [], [], (After.refl R1).upn p1 p2 (.inr hp), p1, p2, Nat.le_refl _, .nil, upd_same, h1⟩, ?_⟩
  rintro i n H2 ⟨rfl, hi, O2, F2, acc, av, a2, e1, e2, e3, ra, e4, h2⟩
  by_cases hlt : i < xs.length
  · refine .inr ?_
    rw [List.drop_eq_getElem_cons hlt] at h2
    obtain ⟨gd, h2⟩ := h2
    obtain ⟨hgo, hy⟩ := (hJ O2 H2 F2 i a2.ff a2.fh a2.ow gd).1 xs[i] (List.getElem?_eq_getElem hlt)
    refine ⟨hgo, fun Hc => ∃ O2 F2 acc av, After B.K O1 H1 F1 O2 Hc F2 ∧ O2 p = none ∧ F2 p = none ∧ acc.length ≤ i + 1 ∧ RVs B.K F2 acc av ∧ Hc p = some (.lst av) ∧ lcGo dg tt te Gd (xs.drop (i + 1)) (wipeD env vs) O2 fun ys O3 => q (acc ++ ys) O3, fun H' n => ⟨xs.length - (i + 1), by omega, rfl, hlt, n⟩, fun v H3 yv => ?_⟩
    obtain ⟨F3, a3, rv⟩ := hy v H3 yv
    obtain ⟨o3, f3, l3⟩ := a3.out e1 e2 e4
    have b3 := a2.trans a3
    refine sg (wipeD env vs) O2 σ (wipe σ vs) H3 F3 v xs[i] _ _ a3.fh (((R1.sl.wiped vs).mono a2.ff).mono a3.ff) wipe_wipe rv h2 fun env' ρ' ew sl' h3 => ⟨ew, ?_⟩
    refine ⟨env', O2, F3, _, ⟨R1.af.trans b3, sl'⟩, h3, fun b O4 H4 F4 a4 h4 => ?_⟩
    obtain ⟨o4, f4, l4⟩ := a4.out o3 f3 l3
    have b4 := b3.trans a4
    cases b with
    | false =>
      rw [if_neg (by decide)] at h4
      obtain ⟨o2, sb, h4⟩ := h4
      exact iteF ⟨o2, F4, acc, av, b4.weak sb, sb.gone o4, f4, Nat.le_succ_of_le e3, (ra.mono a3.ff).mono a4.ff, l4, h4⟩
    | true =>
      rw [if_pos rfl] at h4
      refine iteT ⟨env', O4, F4, _, ⟨R1.af.trans b4, sl'.mono a4.ff⟩, h4, fun y yv O5 H5 F5 a5 ry h5 => ?_⟩
      obtain ⟨o5, f5, l5⟩ := a5.out o4 f4 l4
      have r5 := ((ra.mono a3.ff).mono a4.ff).mono a5.ff
      obtain ⟨o2, sb, h5⟩ := h5
      refine ⟨av, l5, by rw [← r5.length]; omega, o2, F5, acc ++ [y], _, ((b4.trans a5).weak sb).upn (sb.gone o5) f5 (.inr hp), sb.gone o5, f5, by simp; omega, r5.append (.cons ry .nil), upd_same, ?_⟩
      simpa using h5
  · have e : i = xs.length := by omega
    subst e
    rw [List.drop_length] at h2
    refine .inl ⟨(hJ O2 H2 F2 _ a2.ff a2.fh a2.ow h2.1).2 rfl, k acc av O2 H2 F2 p (a1.trans a2) hp0 e1 e2 ra e4 ?_⟩
    simpa using h2.2
theorem lift_lc {wi : DTI} {g : TG} {dg : DTG} {tt : DTT} {te : DTE} {vs : List Nat} (sg : SimG B.K vs g dg) (σ : St) (H : Hp) (Q : VK) (h : lift B (dLc wi dg tt te vs) σ H Q) : tLc (liftI B wi) g (liftT B tt) (lift B te) vs σ H Q := by
  obtain ⟨env, O, F, q, R, h, k⟩ := h
  refine lc_sim sg R h fun ys vs' O' H' F' p a hp0 o' f' r l hq => ?_
  have a2 := a.ice o' f' hp0 l
  exact k _ _ O' H' _ a2 (.lst (SqL.of upd_same) (r.mono fun b u e => by rw [upd_ne (ne_of_none e f')]; exact e)) hq
theorem lift_lcO {wi : DTI} {g : TG} {dg : DTG} {tt : DTT} {te : DTE} {vs : List Nat} (sg : SimG B.K vs g dg) (σ : St) (H : Hp) (Q : VK) (h : lift B (dLcO wi dg tt te vs) σ H Q) : tLc (liftI B wi) g (liftT B tt) (lift B te) vs σ H Q := by
  obtain ⟨env, O, F, q, R, h, k⟩ := h
  refine lc_sim sg R h fun ys vs' O' H' F' p a hp0 o' f' r l hq => ?_
  exact k _ _ _ H' F' (a.mine (u := .lst ys) f' hp0 l ⟨vs', rfl, r⟩) (.ref p) (hq p o')
theorem de_lc {e : Expr} {wi : DTI} {g : TG} {dg : DTG} {tt : DTT} {te : DTE} {vs : List Nat} (sg : SimG B.K vs g dg) (h : PE X e (tLc (liftI B wi) g (liftT B tt) (lift B te) vs)) : PE X e (lift B (dLc wi dg tt te vs)) := PE.weak h (lift_lc sg)
theorem de_lcO {e : Expr} {wi : DTI} {g : TG} {dg : DTG} {tt : DTT} {te : DTE} {vs : List Nat} (sg : SimG B.K vs g dg) (h : PE X e (tLc (liftI B wi) g (liftT B tt) (lift B te) vs)) : PE X e (lift B (dLcO wi dg tt te vs)) := PE.weak h (lift_lcO sg)
theorem ds_setLc {st : Stmt} {i : Nat} {wi : DTI} {g : TG} {dg : DTG} {tt : DTT} {te : DTE} {vs : List Nat} (sg : SimG B.K vs g dg) (h : PS X st (tAsg (tLc (liftI B wi) g (liftT B tt) (lift B te) vs) (gName i))) : PS X st (liftS B (dAsg (dLc wi dg tt te vs) (dgName i))) :=
  ds_set (PS.weak h fun E σ H q => lift_lc sg σ H _ q)
theorem ds_setLcO {st : Stmt} {i : Nat} {wi : DTI} {g : TG} {dg : DTG} {tt : DTT} {te : DTE} {vs : List Nat} (sg : SimG B.K vs g dg) (h : PS X st (tAsg (tLc (liftI B wi) g (liftT B tt) (lift B te) vs) (gName i))) : PS X st (liftS B (dAsg (dLcO wi dg tt te vs) (dgName i))) :=
  ds_set (PS.weak h fun E σ H q => lift_lcO sg σ H _ q)
def dYes : DTT := fun _ O q => q true O
theorem PTs.weak {ifs : List Expr} {t t' : TT} (h : PTs X ifs t) (i : ∀ σ H Q, t' σ H Q → t σ H Q) : PTs X ifs t' := ⟨fun pins s σ H Q I q => h.run pins s σ H Q I (i σ H Q q)⟩
theorem dts_nil : PTs X [] (liftT B dYes) := PTs.weak pts_nil fun σ H Q h => by
  obtain ⟨env, O, F, q, R, h, k⟩ := h
  exact k true O H F (.refl R) h
theorem dts_one {c : Expr} {t : DTT} (h : PT X c (liftT B t)) : PTs X [c] (liftT B t) := pts_one h
end
end DL

set_option Elab.async false
set_option linter.all false
set_option maxRecDepth 100000
set_option maxHeartbeats 4000000
namespace DL
open PySem PySem.Spec PyProof.Rows L2

/-! ### plain data -/
mutual
def py : D → PyData
  | .non => .none | .bl b => .bool b | .int i => .int i | .str x => .str x | .ref _ => .none | .ty _ => .none
  | .lst ds => .list (pys ds) | .tup ds => .tuple (pys ds)
def pys : List D → List PyData
  | [] => [] | d :: ds => py d :: pys ds
end
mutual
def pd : D → Bool
  | .ref _ => false | .ty _ => false | .lst ds => pds ds | .tup ds => pds ds | _ => true
def pds : List D → Bool
  | [] => true | d :: ds => pd d && pds ds
end
mutual
theorem RV.dp {K : Frag} {F H : Hp} (s : Same F H) : ∀ {d : D} {v : V}, RV K F d v → pd d = true → Dp K H v (py d)
  | _, _, .non, _ => by rw [py]; exact .non
  | _, _, .bl b, _ => by rw [py]; exact .bl b
  | _, _, .int b, _ => by rw [py]; exact .int b
  | _, _, .str b, _ => by rw [py]; exact .str b
  | _, _, .ref b, h => by simp [pd] at h
  | _, _, .ty b, h => by simp [pd] at h
  | _, _, .lst hs hr, h => by rw [py]; exact .lst (s.seq hs) (RVs.dp s hr (by simpa [pd] using h))
  | _, _, .tup hs hr, h => by rw [py]; exact .tup (same_tup s hs) (RVs.dp s hr (by simpa [pd] using h))
theorem RVs.dp {K : Frag} {F H : Hp} (s : Same F H) : ∀ {ds : List D} {vs : List V}, RVs K F ds vs → pds ds = true → DpAll K H vs (pys ds)
  | _, _, .nil, _ => by rw [pys]; exact .nil
  | _, _, .cons h hs, e => by
    simp only [pds, Bool.and_eq_true] at e
    rw [pys]; exact .cons (RV.dp s h e.1) (RVs.dp s hs e.2)
end
/-- as plain data, an own list too -/
def asP (O : Ow) : D → Option PyData
  | .ref p => match O p with | some (.lst ds) => if pds ds = true then some (.list (pys ds)) else none | _ => none
  | d => if pd d = true then some (py d) else none
theorem asP_dp {K : Frag} {O : Ow} {H F : Hp} (fh : Same F H) (ow : OwOk K O H F) {d : D} {v : V} {a : PyData} (r : RV K F d v) (h : asP O d = some a) : Dp K H v a := by
  cases d <;> simp only [asP] at h
  case ref p =>
    cases r
    split at h
    · rename_i e
      split at h
      · rename_i e2
        cases h
        obtain ⟨_, ho, e1, vs, rfl, r⟩ := ow _ _ e
        exact .lst (SqL.of e1) (r.dp fh e2)
      · cases h
    · cases h
  all_goals
    split at h
    · rename_i e
      cases h
      exact r.dp fh e
    · cases h

section
variable {X : Cx} {B : Bd} {pos : Pos}
/-! ### == and != -/
def dEq : DR2 := fun x y O q => ∃ a b, asP O x = some a ∧ asP O y = some b ∧ SeqAt.shaped a = true ∧ SeqAt.shaped b = true ∧ q (.bl (PyData.eqv a b)) O
def dNe : DR2 := fun x y O q => ∃ a b, asP O x = some a ∧ asP O y = some b ∧ SeqAt.shaped a = true ∧ SeqAt.shaped b = true ∧ q (.bl (!PyData.eqv a b)) O
theorem sim_eq : Sim2 B (rEqD B.K) dEq := by
  intro env O σ H F x y dx dy q Q R rx ry h k
  obtain ⟨a, b, e1, e2, s1, s2, h⟩ := h
  exact ⟨a, b, asP_dp R.fh R.ow rx e1, asP_dp R.fh R.ow ry e2, s1, s2, k _ _ O H F (.refl R) (.bl _) h⟩
theorem sim_ne : Sim2 B (rNeD B.K) dNe := by
  intro env O σ H F x y dx dy q Q R rx ry h k
  obtain ⟨a, b, e1, e2, s1, s2, h⟩ := h
  exact ⟨a, b, asP_dp R.fh R.ow rx e1, asP_dp R.fh R.ow ry e2, s1, s2, k _ _ O H F (.refl R) (.bl _) h⟩
/-! ### order of ints -/
def dLt : DR2 := dI2 (fun _ _ => True) fun i j => .bl (decide (i < j))
def dLe : DR2 := dI2 (fun _ _ => True) fun i j => .bl (decide (i ≤ j))
def dGt : DR2 := dI2 (fun _ _ => True) fun i j => .bl (decide (j < i))
def dGe : DR2 := dI2 (fun _ _ => True) fun i j => .bl (decide (j ≤ i))
theorem sim_lt : Sim2 B (rI0 fun i j => .bl (decide (i < j))) dLt := sim_I0 fun _ _ _ => .bl _
theorem sim_le : Sim2 B (rI0 fun i j => .bl (decide (i ≤ j))) dLe := sim_I0 fun _ _ _ => .bl _
theorem sim_gt : Sim2 B (rI0 fun i j => .bl (decide (j < i))) dGt := sim_I0 fun _ _ _ => .bl _
theorem sim_ge : Sim2 B (rI0 fun i j => .bl (decide (j ≤ i))) dGe := sim_I0 fun _ _ _ => .bl _
/-! ### is None -/
def dIsN : DR2 := fun x y O q => match y with | .non => q (.bl (match x with | .non => true | _ => false)) O | _ => False
def dNotN : DR2 := fun x y O q => match y with | .non => q (.bl (match x with | .non => false | _ => true)) O | _ => False
theorem sim_isN : Sim2 B (fun x y H Q => y = .non ∧ Q (.bl (decide (x = .non))) H) dIsN := by
  intro env O σ H F x y dx dy q Q R rx ry h k
  cases dy <;> try exact h.elim
  cases ry
  refine ⟨rfl, k _ _ O H F (.refl R) ?_ h⟩
  cases rx <;> exact .bl _
theorem sim_notN : Sim2 B (fun x y H Q => y = .non ∧ Q (.bl (!decide (x = .non))) H) dNotN := by
  intro env O σ H F x y dx dy q Q R rx ry h k
  cases dy <;> try exact h.elim
  cases ry
  refine ⟨rfl, k _ _ O H F (.refl R) ?_ h⟩
  cases rx <;> exact .bl _
/-! ### arithmetic -/
def dSub : DR2 := dI2 (fun _ _ => True) fun i j => .int (i - j)
theorem sim_sub : Sim2 B (rI0 fun i j => .int (i - j)) dSub := sim_I0 fun _ _ _ => .int _
def dMod : DR2 := dI2 (fun _ j => 0 < j) fun i j => .int (i % j)
theorem sim_mod : Sim2 B (rI (fun _ j => 0 < j) fun i j => .int (i % j)) dMod := sim_I fun _ _ _ => .int _
def dAddI : DR2 := dI2 (fun _ _ => True) fun i j => .int (i + j)
theorem sim_addI : Sim2 B (rI0 fun i j => .int (i + j)) dAddI := sim_I0 fun _ _ _ => .int _

/-! ### + -/
def rCatL (K : Frag) : R2 := fun x y H Q => ∃ a b xs ys, x = .ref a ∧ y = .ref b ∧ SqL K H a xs ∧ SqL K H b ys ∧ xs.length + ys.length ≤ sizeLine ∧ ∀ p, H p = none → Q (.ref p) (upd H p (.lst (xs ++ ys)))
theorem op_catL : OpR X (binaryOp .Add) (rCatL X.K) := by
  intro pins s σ H x y v u Q I rx ry h
  obtain ⟨a, b, xs, ys, rfl, rfl, ha, hb, hz, q⟩ := h
  cases rx; cases ry
  obtain ⟨i1, r1, ⟨⟨c1, d1, t1, l1⟩, n1, h1, k1, _, e1⟩, _⟩ := I.list ha
  obtain ⟨i2, r2, ⟨⟨c2, d2, t2, l2⟩, n2, h2, k2, _, e2⟩, _⟩ := I.list hb
  simp only at k1 e1 k2 e2
  subst k1 e1 k2 e2
  have hlen : i1.toArray.size + i2.toArray.size ≤ sizeLine := by
    have x1 := r1.length
    have x2 := r2.length
    simp only [List.size_toArray]; omega
  refine concat_meets ⟨_, h1, rfl⟩ ⟨_, h2, rfl⟩ noFill_list_add seq_list_add F.slot_list_add F.entry_list_add (F.args_list_add_2 _ _) (list_addW a b i1.toArray i2.toArray n1 n2 d1 d2 l1 l2 hlen) ⟨h1, h2, ?_⟩
  have ee : i1.toArray ++ i2.toArray = (i1 ++ i2).toArray := by simp
  rw [ee]
  exact ⟨.ref _, _, I.lnew (t' := s.toks) (r1.append r2) (by rw [List.length_append]; omega), rfl, q _ I.fresh⟩
def dAdd : DR2 := fun x y O q => match x, y with
  | .int i, .int j => q (.int (i + j)) O
  | .str i, .str j => i.length + j.length ≤ sizeLine ∧ q (.str (i ++ j)) O
  | .tup a, .tup b => a.length + b.length ≤ sizeLine ∧ q (.tup (a ++ b)) O
  | x, y => ∃ a b, asL O x = some a ∧ asL O y = some b ∧ a.length + b.length ≤ sizeLine ∧ q (.lst (a ++ b)) O
abbrev rAddA (K : Frag) : R2 := fun x y H Q => ((rI0 fun i j => .int (i + j)) x y H Q ∨ ∃ i j, x = .str i ∧ y = .str j ∧ i.length + j.length ≤ sizeLine ∧ Q (.str (i ++ j)) H) ∨ (rCatA K x y H Q ∨ rCatL K x y H Q)
theorem op_addA : OpR X (binaryOp .Add) (rAddA X.K) := (op_add.or op_add_str).or (op_catA.or op_catL)
theorem fresh_tup {env : Env} {O : Ow} {σ : St} {H F : Hp} {q : DQ} {Q : VK} {ds : List D} {vs : List V} (R : Rel B env O σ H F) (r : RVs B.K F ds vs) (h : q (.tup ds) O)
    (k : ∀ d v O' H' F', After B.K O H F O' H' F' → RV B.K F' d v → q d O' → Q v H') (p : Addr) (hp : H p = none) : Q (.ref p) (upd H p (.tup vs)) :=
  have a := R.froz hp (.tup vs)
  k _ _ O _ _ a (.tup (SqT.of upd_same) (r.mono a.ff)) h
theorem fresh_lst {env : Env} {O : Ow} {σ : St} {H F : Hp} {q : DQ} {Q : VK} {ds : List D} {vs : List V} (R : Rel B env O σ H F) (r : RVs B.K F ds vs) (h : q (.lst ds) O)
    (k : ∀ d v O' H' F', After B.K O H F O' H' F' → RV B.K F' d v → q d O' → Q v H') (p : Addr) (hp : H p = none) : Q (.ref p) (upd H p (.lst vs)) :=
  have a := R.froz hp (.lst vs)
  k _ _ O _ _ a (.lst (SqL.of upd_same) (r.mono a.ff)) h
theorem sim_add : Sim2 B (rAddA B.K) dAdd := by
  intro env O σ H F x y dx dy q Q R rx ry h k
  have hL : (∃ a b, asL O dx = some a ∧ asL O dy = some b ∧ a.length + b.length ≤ sizeLine ∧ q (.lst (a ++ b)) O) → rAddA B.K x y H Q := by
    rintro ⟨a, b, e1, e2, hz, h⟩
    obtain ⟨p, xs, rfl, s1, r1⟩ := asL_sq R.fh R.ow rx e1
    obtain ⟨p', ys, rfl, s2, r2⟩ := asL_sq R.fh R.ow ry e2
    exact .inr (.inr ⟨p, p', xs, ys, rfl, rfl, s1, s2, by rw [← r1.length, ← r2.length]; exact hz, fresh_lst R (r1.append r2) h k⟩)
  cases dx <;> cases dy <;> simp only [dAdd] at h <;> try exact hL h
  · cases rx; cases ry
    exact .inl (.inl ⟨_, _, rfl, rfl, k _ _ O H F (.refl R) (.int _) h⟩)
  · cases rx; cases ry
    exact .inl (.inr ⟨_, _, rfl, rfl, h.1, k _ _ O H F (.refl R) (.str _) h.2⟩)
  · cases rx with
    | tup s1 r1 =>
      cases ry with
      | tup s2 r2 =>
        rename_i a b p xs p' ys
        refine .inr (.inl ⟨p, p', xs, ys, rfl, rfl, same_tup R.fh s1, same_tup R.fh s2, by rw [← r1.length, ← r2.length]; exact h.1, fun e => ?_, fun e e' => ?_, fun _ _ => fresh_tup R (r1.append r2) h.2 k⟩)
        · subst e
          cases r1
          exact k _ _ O H F (.refl R) (.tup s2 r2) h.2
        · subst e'
          cases r2
          exact k _ _ O H F (.refl R) (.tup s1 (by simpa using r1)) h.2

/-! ### * -/
theorem RVs.rep {K : Frag} {F : Hp} {ds : List D} {vs : List V} (r : RVs K F ds vs) : ∀ n : Nat, RVs K F (List.replicate n ds).flatten (List.replicate n vs).flatten
  | 0 => .nil
  | n + 1 => by
    rw [List.replicate_succ, List.replicate_succ, List.flatten_cons, List.flatten_cons]
    exact r.append (r.rep n)
theorem mul_one_T (l : Addr) (items : Array Value) (n : Nat) (dd : Option Addr) (sl : Array (Option Value)) (u : Tok) :
    Meets (Builtin.«tuple.__mul__» ⟨[.ref l, .int 1 u], []⟩) (fun _ R s => s.heap.get? l = some { cls := .type "tuple", dict := dd, data := .seq items n, slots := sl } ∧ R (.ok (.ret (Value.ref l))) s) :=
  .of_wp fun prog w A R s h => by
    obtain ⟨hp, g, d, tk, os⟩ := s
    obtain ⟨hl, h⟩ := h
    have f1 := AutoSeq1.idx_int
    have c1 : (items.isEmpty || (1 : Int) == 1) = true := by simp
    wp_walk using wpAny_loadPart' hl
    repeat (first
      | (refine wpAny_ite_true (decide_eq_true c1) ?_; wp_walk using wpAny_loadPart' hl))
    exact ⟨_, rfl, h⟩
theorem mul_nil_T (l : Addr) (items : Array Value) (n : Nat) (dd : Option Addr) (sl : Array (Option Value)) (k : Int) (u : Tok) (h0 : k ≤ 0) (h1 : -(2 ^ 63) ≤ k) (hne : items.isEmpty = false) :
    Meets (Builtin.«tuple.__mul__» ⟨[.ref l, .int k u], []⟩) (fun _ R s => s.heap.get? l = some { cls := .type "tuple", dict := dd, data := .seq items n, slots := sl } ∧
      R (.ok (.ret (Value.ref s.heap.objs.size))) { s with heap := s.heap.push { cls := Value.type "tuple", data := Data.seq #[] }, toks := s.toks }) :=
  .of_wp fun prog w A R s h => by
    obtain ⟨hp, g, d, tk, os⟩ := s
    obtain ⟨hl, h⟩ := h
    have f1 := AutoSeq1.idx_int
    have c0 : ¬ ((decide (k < -(2 ^ 63)) || decide (k ≥ 2 ^ 63)) = true) := by simp; omega
    have c1 : ¬ ((items.isEmpty || k == 1) = true) := by rw [hne]; simp; omega
    have c2 : (decide (k ≤ 0) || items.isEmpty) = true := by simp [h0]
    wp_walk using wpAny_loadPart' hl
    repeat (first
      | (refine wpAny_ite_false (decide_eq_false c0) ?_; wp_walk using wpAny_loadPart' hl)
      | (refine wpAny_ite_false (decide_eq_false c1) ?_; wp_walk using wpAny_loadPart' hl)
      | (refine wpAny_ite_true (decide_eq_true c2) ?_; wp_walk using wpAny_loadPart' hl))
    exact ⟨_, rfl, h⟩

/-- t * k for k up to 1: t itself, or a new () -/
def rRep1 (K : Frag) : R2 := fun x y H Q => ∃ l k xs, x = .ref l ∧ y = .int k ∧ SqT K H l xs ∧ xs ≠ [] ∧ -(2 ^ 63) ≤ k ∧ k ≤ 1 ∧ (k = 1 → Q (.ref l) H) ∧ (k ≤ 0 → ∀ p, H p = none → Q (.ref p) (upd H p (.tup [])))
theorem op_rep1 : OpR X (binaryOp .Mult) (rRep1 X.K) := by
  intro pins s σ H x y v u Q I rx ry h
  obtain ⟨l, k, xs, rfl, rfl, hT, hne, h1, h2, q1, q0⟩ := h
  cases rx
  obtain ⟨t, rfl⟩ := ry
  obtain ⟨its, r, ⟨⟨cls, dd, data, sl⟩, ho, hc, n, hd⟩, hs⟩ := I.tuple hT
  simp only at hc hd
  subst hc hd
  have hi : its.toArray.isEmpty = false := by
    cases r with
    | nil => exact absurd rfl hne
    | cons _ _ => rfl
  have go : wpAny (model X.prog X.w) X.A (call (.builtin "tuple.__mul__") [.ref l, .int k t]) (EP X pins σ Q) X.xe s := by
    by_cases hk : k ≤ 0
    · refine call_meets F.slot_tuple_mul ⟨_, ho, rfl⟩ F.entry_tuple_mul (F.args_tuple_mul_2 _ _) (mul_nil_T l its.toArray n dd sl k t hk h1 hi) ⟨ho, ?_⟩
      refine ⟨.ref s.heap.objs.size, _, I.laid (t' := s.toks) (o := .tup []) (fun b ob q => Heap.get?_push_of_some _ q) (Nat.le_refl _) ?_, rfl, q0 hk _ (I.hok.fresh (Nat.le_refl _))⟩
      exact ⟨Nat.zero_le _, [], .nil, IsTup.new _ _⟩
    · obtain rfl : k = 1 := by omega
      exact call_meets F.slot_tuple_mul ⟨_, ho, rfl⟩ F.entry_tuple_mul (F.args_tuple_mul_2 _ _) (mul_one_T l its.toArray n dd sl t) ⟨ho, .ref l, H, I, rfl, q1 rfl⟩
  exact wpAny_binaryOp_repeat_ref (T := "tuple") (U := "int") (by decide) ⟨_, ho, rfl⟩ (fun s' => typeIs_int s' k t) noFill_tuple_mul F.fills_int_mul F.slot_int_rmul repeat_tuple F.slot_int_index.lookup
    (call_meets F.slot_int_rmul (typeIs_int s k t) F.entry_int_rmul (F.args_int_rmul_2 _ _) (int_rmul_tuple k t l its.toArray n dd sl) ⟨ho, rfl, ⟨_, ho, rfl⟩, go⟩)
def dMul : DR2 := fun x y O q => match x, y with
  | .int i, .int j => CMul i j ∧ q (.int (i * j)) O
  | .tup a, .int k => a ≠ [] ∧ a.length ≤ 1000 ∧ (-(2 ^ 63) ≤ k ∧ k ≤ 1000) ∧ q (.tup (List.replicate k.toNat a).flatten) O
  | _, _ => False
abbrev rMulA (K : Frag) : R2 := fun x y H Q => (rI CMul fun i j => .int (i * j)) x y H Q ∨ (rRep1 K x y H Q ∨ rRepT K x y H Q)
theorem op_mulA : OpR X (binaryOp .Mult) (rMulA X.K) := op_mul.or (op_rep1.or op_repT)
theorem sim_mul : Sim2 B (rMulA B.K) dMul := by
  intro env O σ H F x y dx dy q Q R rx ry h k
  cases dx <;> cases dy <;> simp only [dMul] at h <;> try exact h.elim
  · cases rx; cases ry
    exact .inl ⟨_, _, rfl, rfl, h.1, k _ _ O H F (.refl R) (.int _) h.2⟩
  · rename_i a kk
    cases ry
    cases rx with
    | tup s1 r1 =>
      rename_i p xs
      obtain ⟨hne, hl, ⟨hk1, hk2⟩, h⟩ := h
      have hxs : xs ≠ [] := fun e => hne (by rw [e] at r1; cases r1; rfl)
      by_cases h1 : kk ≤ 1
      · refine .inr (.inl ⟨p, kk, xs, rfl, rfl, same_tup R.fh s1, hxs, hk1, h1, fun e => ?_, fun e => ?_⟩)
        · subst e
          refine k _ _ O H F (.refl R) (.tup s1 r1) ?_
          simpa using h
        · have e0 : kk.toNat = 0 := by omega
          rw [e0] at h
          exact fresh_tup (ds := []) R .nil h k
      · exact .inr (.inr ⟨p, kk, xs, rfl, rfl, same_tup R.fh s1, hxs, by omega, hk2, by rw [← r1.length]; exact hl, fresh_tup R (r1.rep _) h k⟩)
/-! ### // % ** -/
def dFdiv : DR2 := dI2 CDiv fun i j => .int (i / j)
theorem sim_fdiv : Sim2 B (rI CDiv fun i j => .int (i / j)) dFdiv := sim_I fun _ _ _ => .int _
def CPowW (i j : Int) : Prop := 0 ≤ j ∧ (Builtin.Int.intBits i : Int) * j ≤ 2 ^ 27
theorem op_powW : OpR X (binaryOp .Pow) (rI CPowW fun i j => .int (i ^ j.toNat)) := opI fun _ _ _ _ _ _ _ hc q => pow_int hc.1 hc.2 q
def dPow : DR2 := dI2 CPowW fun i j => .int (i ^ j.toNat)
theorem sim_pow : Sim2 B (rI CPowW fun i j => .int (i ^ j.toNat)) dPow := sim_I fun _ _ _ => .int _

/-! ### items, slices -/
def asT : D → Option (List D) | .tup ds => some ds | _ => none
theorem atI_rv {K : Frag} {F : Hp} {ds : List D} {vs : List V} {i : Int} {d : D} (r : RVs K F ds vs) (h : atI ds i = some d) : ∃ v, atI vs i = some v ∧ RV K F d v := by
  unfold atI at h ⊢
  rw [← r.length]
  cases e : ixN ds.length i with
  | none => rw [e] at h; cases h
  | some j =>
    rw [e] at h
    exact r.get h
def dIx : DR2 := fun x y O q => match x, y with
  | .tup ds, .int i => ∃ d, atI ds i = some d ∧ q d O
  | .str z, .int i => ∃ c, z.length ≤ sizeLine ∧ atI z.cps.toList i = some c ∧ q (.str ⟨#[c]⟩) O
  | x, .int i => ∃ ds d, asL O x = some ds ∧ atI ds i = some d ∧ q d O
  | _, _ => False
abbrev rIxA (K : Frag) : R2 := fun x y H Q => rIxL K x y H Q ∨ (rIxT K x y H Q ∨ rIxS x y H Q)
theorem ix_all : IxR X (rIxA X.K) := ix_list.or (ix_tup.or ix_str)
theorem sim_ix : Sim2 B (rIxA B.K) dIx := by
  intro env O σ H F x y dx dy q Q R rx ry h k
  have hL : ∀ i : Int, dy = .int i → (∃ ds d, asL O dx = some ds ∧ atI ds i = some d ∧ q d O) → rIxA B.K x y H Q := by
    rintro i rfl ⟨ds, d, e1, e2, h⟩
    cases ry
    obtain ⟨p, xs, rfl, s1, r1⟩ := asL_sq R.fh R.ow rx e1
    obtain ⟨v, e3, r⟩ := atI_rv r1 e2
    exact .inl ⟨p, xs, i, v, rfl, rfl, s1, e3, k _ _ O H F (.refl R) r h⟩
  cases dy <;> first | (cases dx <;> exact h.elim) | skip
  rename_i i
  cases dx <;> simp only [dIx] at h <;> try exact hL i rfl h
  · cases rx; cases ry
    obtain ⟨c, hz, e, h⟩ := h
    exact .inr (.inr ⟨_, i, c, rfl, rfl, hz, e, k _ _ O H F (.refl R) (.str _) h⟩)
  · cases ry
    cases rx with
    | tup s1 r1 =>
      obtain ⟨d, e, h⟩ := h
      obtain ⟨v, e3, r⟩ := atI_rv r1 e
      exact .inr (.inl ⟨_, _, i, v, rfl, rfl, same_tup R.fh s1, e3, k _ _ O H F (.refl R) r h⟩)
theorem de_ix {a b : Expr} {ta tb : DTE} (hK : X.K = B.K) (ha : PE X a (lift B ta)) (hb : PE X b (lift B tb)) (hs : PlainIx b) : PE X (.Subscript a b pos) (lift B (dOp dIx ta tb)) :=
  PE.weak (pe_ix ix_all ha hb hs) (by rw [hK]; exact lift_op sim_ix)
def cutD (ds : List D) (lo hi : Option Int) : List D := (ds.drop (HT.sIx ds.length 0 lo)).take (HT.sIx ds.length ds.length hi - HT.sIx ds.length 0 lo)
theorem RVs.cut {K : Frag} {F : Hp} {ds : List D} {vs : List V} (r : RVs K F ds vs) (lo hi : Option Int) : RVs K F (cutD ds lo hi) (cutV vs lo hi) := by
  unfold cutD cutV
  rw [← r.length]
  exact (r.drop _).take _
/-- a part of a slice -/
abbrev DTO := Env → Ow → (Option Int → Ow → Prop) → Prop
def liftO (B : Bd) (t : DTO) : TO := fun σ H Q => ∃ env O F q, Rel B env O σ H F ∧ t env O q ∧ ∀ i O' H' F', After B.K O H F O' H' F' → q i O' → Q i H'
def doNone : DTO := fun _ O q => q none O
def doSome (te : DTE) : DTO := fun env O q => te env O fun d O1 => match d with | .int i => q (some i) O1 | _ => False
theorem PO.weak {e : Option Expr} {t t' : TO} (h : PO X e t) (i : ∀ σ H Q, t' σ H Q → t σ H Q) : PO X e t' := ⟨fun pins s σ H Q I q => h.run pins s σ H Q I (i σ H Q q)⟩
theorem do_none : PO X none (liftO B doNone) := PO.weak po_none fun σ H Q h => by
  obtain ⟨env, O, F, q, R, h, k⟩ := h
  exact k none O H F (.refl R) h
theorem do_some {e : Expr} {te : DTE} (h : PE X e (lift B te)) : PO X (some e) (liftO B (doSome te)) := PO.weak (po_some h) fun σ H Q h => by
  obtain ⟨env, O, F, q, R, h, k⟩ := h
  refine ⟨env, O, F, _, R, h, fun d v O1 H1 F1 a1 r1 h1 => ?_⟩
  cases d <;> try exact h1.elim
  cases r1
  exact ⟨_, rfl, k _ O1 H1 F1 a1 h1⟩
def dSl (te : DTE) (tl th : DTO) : DTE := fun env O q => te env O fun x O1 => tl env O1 fun l O2 => th env O2 fun u O3 => match x with
  | .tup ds => q (.tup (cutD ds l u)) O3
  | x => ∃ ds, asL O3 x = some ds ∧ q (.lst (cutD ds l u)) O3
theorem de_slice {e : Expr} {lo hi : Option Expr} {p2 : Pos} {te : DTE} {tl th : DTO} (hK : X.K = B.K) (he : PE X e (lift B te)) (hl : PO X lo (liftO B tl)) (hu : PO X hi (liftO B th)) : PE X (.Subscript e (.Slice lo hi none p2) pos) (lift B (dSl te tl th)) :=
  PE.weak (pe_slice (sl_list.or sl_tupA) he hl hu) fun σ H Q h => by
    obtain ⟨env, O, F, q, R, h, k⟩ := h
    refine ⟨env, O, F, _, R, h, fun x v O1 H1 F1 a1 r1 h1 => ?_⟩
    have R1 := R.call a1
    refine ⟨env, O1, F1, _, R1, h1, fun l O2 H2 F2 a2 h2 => ?_⟩
    have R2 := R1.call a2
    refine ⟨env, O2, F2, _, R2, h2, fun u O3 H3 F3 a3 h3 => ?_⟩
    have R3 := R2.call a3
    have r3 := (r1.mono a2.ff).mono a3.ff
    have k' : ∀ d v O' H' F', After B.K O3 H3 F3 O' H' F' → RV B.K F' d v → q d O' → Q v H' := fun d v O' H' F' a => k d v O' H' F' (a1.trans (a2.trans (a3.trans a)))
    have hL : (∃ ds, asL O3 x = some ds ∧ q (.lst (cutD ds l u)) O3) → rSlL X.K v l u H3 Q := by
      rintro ⟨ds, e1, h3⟩
      obtain ⟨p, xs, rfl, s1, rr⟩ := asL_sq R3.fh R3.ow r3 e1
      exact ⟨p, xs, rfl, by rw [hK]; exact s1, fresh_lst R3 (rr.cut l u) h3 k'⟩
    cases x <;> simp only at h3 <;> try exact .inl (hL h3)
    cases r3 with
    | tup s1 rr =>
      rename_i ds p xs
      refine .inr ⟨p, xs, rfl, by rw [hK]; exact same_tup R3.fh s1, fun hw => ?_, fun _ => fresh_tup R3 (rr.cut l u) h3 k'⟩
      refine k' _ _ O3 H3 F3 (.refl R3) (.tup s1 rr) ?_
      have : cutD ds l u = ds := by
        unfold cutD
        rw [rr.length, hw.1, hw.2, List.drop_zero, Nat.sub_zero, List.take_of_length_le (Nat.le_of_eq rr.length)]
      rw [this] at h3
      exact h3

/-! ### built-ins by values -/
def SimC (B : Bd) (r : List V → Hp → VK → Prop) (dr : List D → Ow → DQ → Prop) : Prop := ∀ (env : Env) (O : Ow) (σ : St) (H F : Hp) (vs : List V) (ds : List D) (q : DQ) (Q : VK), Rel B env O σ H F → RVs B.K F ds vs → dr ds O q →
  (∀ d v O' H' F', After B.K O H F O' H' F' → RV B.K F' d v → q d O' → Q v H') → r vs H Q
def dCB (dr : List D → Ow → DQ → Prop) (ta : DTA) : DTE := fun env O q => ta env O fun ds O1 => dr ds O1 q
theorem lift_cb {r : List V → Hp → VK → Prop} {dr : List D → Ow → DQ → Prop} {ta : DTA} (s : SimC B r dr) (σ : St) (H : Hp) (Q : VK) (h : lift B (dCB dr ta) σ H Q) : tCB r (liftA B ta) σ H Q := by
  obtain ⟨env, O, F, q, R, h, k⟩ := h
  refine ⟨env, O, F, _, R, h, fun ds vs O1 H1 F1 a1 r1 h1 => ?_⟩
  exact s env O1 σ H1 F1 vs ds q Q (R.call a1) r1 h1 fun d v O' H' F' a => k d v O' H' F' (a1.trans a)
theorem de_cb {e : Expr} {r : List V → Hp → VK → Prop} {dr : List D → Ow → DQ → Prop} {ta : DTA} (s : SimC B r dr) (h : PE X e (tCB r (liftA B ta))) : PE X e (lift B (dCB dr ta)) := PE.weak h (lift_cb s)
def lenD (O : Ow) : D → Option Nat
  | .str x => if x.length ≤ sizeLine then some x.length else none
  | .tup ds => some ds.length
  | d => (asL O d).map List.length
def dLen : List D → Ow → DQ → Prop := fun ds O q => match ds with | [d] => ∃ n, lenD O d = some n ∧ q (.int (n : Int)) O | _ => False
theorem sim_len : SimC B (fun xs H Q => ∃ x n, xs = [x] ∧ LenV B.K x H n ∧ Q (.int (n : Nat)) H) dLen := by
  intro env O σ H F vs ds q Q R r h k
  match ds, r, h with
  | [d], r, ⟨n, e, h⟩ =>
    obtain ⟨v, rfl, r1⟩ := r.one
    refine ⟨v, n, rfl, ?_, k _ _ O H F (.refl R) (.int _) h⟩
    have hL : (asL O d).map List.length = some n → LenV B.K v H n := fun e => by
      cases e2 : asL O d with
      | none => rw [e2] at e; cases e
      | some ds =>
        rw [e2] at e
        cases e
        obtain ⟨p, xs, rfl, s1, rr⟩ := asL_sq R.fh R.ow r1 e2
        exact .inl ⟨xs, s1, rr.length⟩
    cases d <;> simp only [lenD] at e <;> try exact hL e
    · cases r1
      split at e
      · rename_i hz
        cases e
        exact ⟨hz, rfl⟩
      · cases e
    · cases e
      cases r1 with
      | tup s1 rr => exact .inr ⟨_, same_tup R.fh s1, rr.length⟩
def dAbs : List D → Ow → DQ → Prop := fun ds O q => match ds with | [.int i] => q (.int (if i < 0 then -i else i)) O | _ => False
theorem sim_abs : SimC B (fun xs H Q => ∃ i, xs = [.int i] ∧ Q (.int (if i < 0 then -i else i)) H) dAbs := by
  intro env O σ H F vs ds q Q R r h k
  match ds, r, h with
  | [.int i], r, h =>
    obtain ⟨v, rfl, r1⟩ := r.one
    cases r1
    exact ⟨i, rfl, k _ _ O H F (.refl R) (.int _) h⟩
def dMin2 : List D → Ow → DQ → Prop := fun ds O q => match ds with | [.int i, .int j] => q (.int (if j < i then j else i)) O | _ => False
def dMax2 : List D → Ow → DQ → Prop := fun ds O q => match ds with | [.int i, .int j] => q (.int (if j > i then j else i)) O | _ => False
theorem sim_min2 : SimC B (fun xs H Q => ∃ i j, xs = [.int i, .int j] ∧ Q (.int (if j < i then j else i)) H) dMin2 := by
  intro env O σ H F vs ds q Q R r h k
  match ds, r, h with
  | [.int i, .int j], r, h =>
    obtain ⟨v, w, rfl, r, r'⟩ := r.two
    cases r; cases r'
    exact ⟨i, j, rfl, k _ _ O H F (.refl R) (.int _) h⟩
theorem sim_max2 : SimC B (fun xs H Q => ∃ i j, xs = [.int i, .int j] ∧ Q (.int (if j > i then j else i)) H) dMax2 := by
  intro env O σ H F vs ds q Q R r h k
  match ds, r, h with
  | [.int i, .int j], r, h =>
    obtain ⟨v, w, rfl, r, r'⟩ := r.two
    cases r; cases r'
    exact ⟨i, j, rfl, k _ _ O H F (.refl R) (.int _) h⟩
def dInt1 : List D → Ow → DQ → Prop := fun ds O q => match ds with | [.int i] => q (.int i) O | [.bl b] => q (.int (if b then 1 else 0)) O | _ => False
theorem sim_int1 : SimC B (fun xs H Q => (∃ i, xs = [.int i] ∧ Q (.int i) H) ∨ ∃ k, xs = [.bl k] ∧ Q (.int (if k then 1 else 0)) H) dInt1 := by
  intro env O σ H F vs ds q Q R r h k
  match ds, r, h with
  | [.int i], r, h =>
    obtain ⟨v, rfl, r1⟩ := r.one
    cases r1
    exact .inl ⟨i, rfl, k _ _ O H F (.refl R) (.int _) h⟩
  | [.bl i], r, h =>
    obtain ⟨v, rfl, r1⟩ := r.one
    cases r1
    exact .inr ⟨i, rfl, k _ _ O H F (.refl R) (.int _) h⟩
end
end DL

set_option Elab.async false
set_option linter.all false
set_option maxRecDepth 100000
set_option maxHeartbeats 4000000
namespace DL
open PySem PySem.Spec PyProof.Rows L2

section
variable {X : Cx} {B : Bd} {pos : Pos}
/-! ### in -/
def rInA (K : Frag) (neg : Bool) : R2 := fun x y H Q => ∃ d ds, Dp K H x d ∧ (Dp K H y (.list ds) ∨ Dp K H y (.tuple ds)) ∧ SeqAt.shaped d = true ∧ SeqAt.shaped (.list ds) = true ∧ Q (.bl (if neg then !(ds.any fun z => PyData.eqv z d) else ds.any fun z => PyData.eqv z d)) H
theorem shaped_tl {ds : List PyData} (h : SeqAt.shaped (.list ds) = true) : SeqAt.shaped (.tuple ds) = true := by
  unfold SeqAt.shaped at h ⊢
  simpa [PyData.canLay0, PyData.depth] using h
theorem op_inA (hu : X.A.units + 65 < cLine) : OpR X (compareOp .In) (rInA X.K false) := by
  intro pins s σ H x y v u Q I rx ry h
  obtain ⟨d, ds, hd, hy, sd, sl, q⟩ := h
  rcases hy with hy | hy
  · exact op_inD hu pins s σ H x y v u Q I rx ry ⟨d, ds, hd, hy, sd, sl, q⟩
  · obtain ⟨as, r1⟩ := Dp.reads I d x v hd rx
    obtain ⟨bs, r2⟩ := Dp.reads I (.tuple ds) y u hy ry
    exact SeqAt.in_tuple_reads r2 r1 (SeqAt.canLay_of_shaped sl) (SeqAt.canLay_of_shaped sd) (room_in_shaped sd hu) ⟨.bl _, H, I, rfl, q⟩
theorem op_notInA (hu : X.A.units + 65 < cLine) : OpR X (compareOp .NotIn) (rInA X.K true) := by
  intro pins s σ H x y v u Q I rx ry h
  obtain ⟨d, ds, hd, hy, sd, sl, q⟩ := h
  rcases hy with hy | hy
  · exact op_notInD hu pins s σ H x y v u Q I rx ry ⟨d, ds, hd, hy, sd, sl, q⟩
  · obtain ⟨as, r1⟩ := Dp.reads I d x v hd rx
    obtain ⟨bs, r2⟩ := Dp.reads I (.tuple ds) y u hy ry
    exact SeqAt.notIn_tuple_reads r2 r1 (SeqAt.canLay_of_shaped sl) (SeqAt.canLay_of_shaped sd) (room_in_shaped sd hu) ⟨.bl _, H, I, rfl, q⟩
/-- the items of a list or a tuple, as plain data -/
def asPs (O : Ow) : D → Option (List PyData)
  | .tup ds => if pds ds = true then some (pys ds) else none
  | d => (asL O d).bind fun ds => if pds ds = true then some (pys ds) else none
def dInG (neg : Bool) : DR2 := fun x y O q => ∃ a ds, asP O x = some a ∧ asPs O y = some ds ∧ SeqAt.shaped a = true ∧ SeqAt.shaped (.list ds) = true ∧ q (.bl (if neg then !(ds.any fun z => PyData.eqv z a) else ds.any fun z => PyData.eqv z a)) O
abbrev dIn := dInG false
abbrev dNotIn := dInG true
theorem asPs_dp {K : Frag} {O : Ow} {H F : Hp} (fh : Same F H) (ow : OwOk K O H F) {d : D} {v : V} {a : List PyData} (r : RV K F d v) (h : asPs O d = some a) : Dp K H v (.list a) ∨ Dp K H v (.tuple a) := by
  have hL : ((asL O d).bind fun ds => if pds ds = true then some (pys ds) else none) = some a → Dp K H v (.list a) := fun h => by
    cases e : asL O d with
    | none => rw [e] at h; cases h
    | some ds =>
      rw [e] at h
      simp only [Option.bind_some] at h
      split at h
      · rename_i e2
        cases h
        obtain ⟨p, xs, rfl, s1, rr⟩ := asL_sq fh ow r e
        exact .lst s1 (rr.dp fh e2)
      · cases h
  cases d <;> simp only [asPs] at h <;> try exact .inl (hL h)
  split at h
  · rename_i e2
    cases h
    cases r with
    | tup s1 rr => exact .inr (.tup (same_tup fh s1) (rr.dp fh e2))
  · cases h
theorem sim_in {neg : Bool} : Sim2 B (rInA B.K neg) (dInG neg) := by
  intro env O σ H F x y dx dy q Q R rx ry h k
  obtain ⟨a, ds, e1, e2, s1, s2, h⟩ := h
  exact ⟨a, ds, asP_dp R.fh R.ow rx e1, asPs_dp R.fh R.ow ry e2, s1, s2, k _ _ O H F (.refl R) (.bl _) h⟩

/-! ### list(..), tuple(..) -/
def asS (O : Ow) : D → Option (List D)
  | .tup ds => some ds
  | d => asL O d
theorem asS_sq {K : Frag} {O : Ow} {H F : Hp} (fh : Same F H) (ow : OwOk K O H F) {d : D} {v : V} {ds : List D} (r : RV K F d v) (h : asS O d = some ds) : ∃ a xs, v = .ref a ∧ (SqL K H a xs ∨ SqT K H a xs) ∧ RVs K F ds xs := by
  have hL : asL O d = some ds → ∃ a xs, v = .ref a ∧ (SqL K H a xs ∨ SqT K H a xs) ∧ RVs K F ds xs := fun h => by
    obtain ⟨p, xs, e, s1, rr⟩ := asL_sq fh ow r h
    exact ⟨p, xs, e, .inl s1, rr⟩
  cases d <;> simp only [asS] at h <;> try exact hL h
  cases h
  cases r with
  | tup s1 rr => exact ⟨_, _, rfl, .inr (same_tup fh s1), rr⟩
def dList1 : List D → Ow → DQ → Prop := fun ds O q => match ds with | [d] => ∃ es, asS O d = some es ∧ q (.lst es) O | _ => False
def dList1O : List D → Ow → DQ → Prop := fun ds O q => match ds with | [d] => ∃ es, asS O d = some es ∧ ∀ p, O p = none → q (.ref p) (setO O p (.lst es)) | _ => False
def dTuple1 : List D → Ow → DQ → Prop := fun ds O q => match ds with | [d] => ∃ es, asS O d = some es ∧ q (.tup es) O | _ => False
theorem sim_list1 : SimC B (fun xs H Q => ∃ p ys, xs = [.ref p] ∧ (SqL B.K H p ys ∨ SqT B.K H p ys) ∧ ∀ l, H l = none → Q (.ref l) (upd H l (.lst ys))) dList1 := by
  intro env O σ H F vs ds q Q R r h k
  match ds, r, h with
  | [d], r, ⟨es, e, h⟩ =>
    obtain ⟨v, rfl, r1⟩ := r.one
    obtain ⟨p, xs, rfl, s1, rr⟩ := asS_sq R.fh R.ow r1 e
    exact ⟨p, xs, rfl, s1, fresh_lst R rr h k⟩
theorem sim_list1O : SimC B (fun xs H Q => ∃ p ys, xs = [.ref p] ∧ (SqL B.K H p ys ∨ SqT B.K H p ys) ∧ ∀ l, H l = none → Q (.ref l) (upd H l (.lst ys))) dList1O := by
  intro env O σ H F vs ds q Q R r h k
  match ds, r, h with
  | [d], r, ⟨es, e, h⟩ =>
    obtain ⟨v, rfl, r1⟩ := r.one
    obtain ⟨p, xs, rfl, s1, rr⟩ := asS_sq R.fh R.ow r1 e
    exact ⟨p, xs, rfl, s1, fun l hl => k _ _ _ _ F (R.own hl (u := .lst es) ⟨xs, rfl, rr⟩) (.ref l) (h l (R.free hl).1)⟩
theorem sim_tuple1 : SimC B (fun xs H Q => ∃ p ys, xs = [.ref p] ∧ ((SqL B.K H p ys ∧ ∀ l, H l = none → Q (.ref l) (upd H l (.tup ys))) ∨ (SqT B.K H p ys ∧ Q (.ref p) H))) dTuple1 := by
  intro env O σ H F vs ds q Q R r h k
  match ds, r, h with
  | [d], r, ⟨es, e, h⟩ =>
    obtain ⟨v, rfl, r1⟩ := r.one
    have hL : asL O d = some es → ∃ p ys, [v] = [.ref p] ∧ ((SqL B.K H p ys ∧ ∀ l, H l = none → Q (.ref l) (upd H l (.tup ys))) ∨ (SqT B.K H p ys ∧ Q (.ref p) H)) := fun e => by
      obtain ⟨p, xs, rfl, s1, rr⟩ := asL_sq R.fh R.ow r1 e
      exact ⟨p, xs, rfl, .inl ⟨s1, fresh_tup R rr h k⟩⟩
    cases d <;> simp only [asS] at e <;> try exact hL e
    cases e
    cases r1 with
    | tup s1 rr => exact ⟨_, _, rfl, .inr ⟨same_tup R.fh s1, k _ _ O H F (.refl R) (.tup s1 rr) h⟩⟩
/-- list(range(..)) -/
def dListRg1 (ta : DTE) : DTE := fun env O q => ta env O fun d O1 => match d with | .int n => RgOk 0 n ∧ q (.lst (rgD 0 n)) O1 | _ => False
theorem rgD_rv {K : Frag} {F : Hp} (a b : Int) : RVs K F (rgD a b) (rgV a b) := by
  unfold rgD rgV
  have : ∀ l : List Nat, RVs K F (l.map fun (k : Nat) => D.int (a + (k : Int))) (l.map fun i => V.int (a + (i : Nat))) := by
    intro l
    induction l with
    | nil => exact .nil
    | cons x l ih => exact .cons (.int _) ih
  exact this _
theorem de_listRg1 {e : Expr} {ta : DTE} (h : PE X e (tLstRg (tRg1 (lift B ta)))) : PE X e (lift B (dListRg1 ta)) := PE.weak h fun σ H Q h => by
  obtain ⟨env, O, F, q, R, h, k⟩ := h
  refine ⟨env, O, F, _, R, h, fun d v O1 H1 F1 a1 r1 h1 => ?_⟩
  cases d <;> try exact h1.elim
  cases r1
  exact ⟨_, rfl, h1.1, fresh_lst (R.call a1) (rgD_rv _ _) h1.2 fun d v O' H' F' a => k d v O' H' F' (a1.trans a)⟩

/-! ### sorted -/
abbrev srtD (ds : List D) : List D := ds.mergeSort (PySem.W.dataLe false py)
def rSortG (K : Frag) : List V → Hp → VK → Prop := fun vs H Q => ∃ (a : Addr) (bs : List (V × D)), vs = [.ref a] ∧ SqL K H a (bs.map (·.1)) ∧ (∀ b ∈ bs, Dp K H b.1 (py b.2)) ∧ PySem.W.AllAlike (bs.map fun b => py b.2) ∧ PySem.W.Sortable (bs.map fun b => py b.2) ∧
  (∀ b ∈ bs, (py b.2).depth ≤ 64) ∧ ∀ p, H p = none → Q (.ref p) (upd H p (.lst ((bs.mergeSort (PySem.W.dataLe false fun b => py b.2)).map (·.1))))
theorem eachIs_vals : ∀ {us : List Value} {bs : List (V × D)}, PySem.W.EachIs (fun u (b : V × D) => RelV b.1 u) us bs → Vals (bs.map (·.1)) us
  | _, _, .nil => .nil
  | _, _, .cons h t => .cons h (eachIs_vals t)
theorem vals_eachIs : ∀ {us : List Value} {bs : List (V × D)}, Vals (bs.map (·.1)) us → PySem.W.EachIs (fun u (b : V × D) => RelV b.1 u) us bs
  | _, [], h => by cases h; exact .nil
  | _, b :: bs, h => by
    cases h with
    | cons h t => exact .cons h (vals_eachIs t)
theorem eachIs_and {α β : Type} {R S : α → β → Prop} : ∀ {us : List α} {bs : List β}, PySem.W.EachIs R us bs → (∀ u b, b ∈ bs → R u b → S u b) → PySem.W.EachIs S us bs
  | _, _, .nil, _ => .nil
  | _, _, .cons h t, f => .cons (f _ _ List.mem_cons_self h) (eachIs_and t fun u b hb => f u b (List.mem_cons_of_mem _ hb))
theorem cr_sortG (hu : X.A.units + 66 < cLine) : CallR X (.builtin "sorted") (rSortG X.K) := by
  intro pins s σ H xs us Q I r h
  obtain ⟨a, bs, rfl, hs, hd, hal, hso, hdp, q⟩ := h
  obtain ⟨u, rfl, ru⟩ := vals1 r
  cases ru
  obtain ⟨its, rv, pl, hz⟩ := I.list hs
  have e1 := vals_eachIs rv
  have hlen : bs.length ≤ sizeLine := by simpa using hz
  refine PySem.W.sorted_data (bs := bs) (enc := fun b => py b.2) (R := fun u (b : V × D) => RelV b.1 u) (vs := its) pl.isList e1 (eachIs_and e1 fun u b hb hr => Dp.reads I (py b.2) b.1 u (hd b hb) hr) hal hso hlen (fun b hb => by have := hdp b hb; omega) fun out ho eo => ?_
  obtain ⟨c, hc⟩ := PyProof.Rows.sortedAll_at s.heap its out.toArray
  refine ⟨.ref (s.heap.objs.size + 1), _, I.laid (t' := s.toks) (a := s.heap.objs.size + 1) (o := .lst ((bs.mergeSort (PySem.W.dataLe false fun b => py b.2)).map (·.1))) (fun b o => PyProof.Rows.sortedAll_old) (Nat.le_succ _) ?_, rfl, q _ (I.hok.fresh (Nat.le_succ _))⟩
  exact ⟨by simpa using hlen, out, c, eachIs_vals eo, hc⟩
def dSorted : List D → Ow → DQ → Prop := fun ds O q => match ds with
  | [d] => ∃ es, asL O d = some es ∧ pds es = true ∧ PySem.W.AllAlike (es.map py) ∧ PySem.W.Sortable (es.map py) ∧ (∀ e ∈ es, (py e).depth ≤ 64) ∧ q (.lst (srtD es)) O
  | _ => False
theorem zipRV {K : Frag} {F : Hp} : ∀ {ds : List D} {vs : List V}, RVs K F ds vs → ∃ bs : List (V × D), bs.map (·.1) = vs ∧ bs.map (·.2) = ds ∧ ∀ b ∈ bs, RV K F b.2 b.1
  | _, _, .nil => ⟨[], rfl, rfl, fun _ h => by cases h⟩
  | d :: _, v :: _, .cons h hs => by
    obtain ⟨bs, e1, e2, hb⟩ := zipRV hs
    refine ⟨(v, d) :: bs, by simp [e1], by simp [e2], fun b hm => ?_⟩
    rcases List.mem_cons.mp hm with rfl | hm
    · exact h
    · exact hb b hm
theorem rvs_of_zip {K : Frag} {F : Hp} : ∀ (bs : List (V × D)), (∀ b ∈ bs, RV K F b.2 b.1) → RVs K F (bs.map (·.2)) (bs.map (·.1))
  | [], _ => .nil
  | b :: bs, h => .cons (h b List.mem_cons_self) (rvs_of_zip bs fun c hc => h c (List.mem_cons_of_mem _ hc))
theorem pds_mem : ∀ {ds : List D} {d : D}, pds ds = true → d ∈ ds → pd d = true
  | e :: ds, d, h, hm => by
    simp only [pds, Bool.and_eq_true] at h
    rcases List.mem_cons.mp hm with rfl | hm
    · exact h.1
    · exact pds_mem h.2 hm
theorem sim_sorted : SimC B (rSortG B.K) dSorted := by
  intro env O σ H F vs ds q Q R r h k
  match ds, r, h with
  | [d], r, ⟨es, e, hp, hal, hso, hdp, h⟩ =>
    obtain ⟨v, rfl, r1⟩ := r.one
    obtain ⟨p, xs, rfl, s1, rr⟩ := asL_sq R.fh R.ow r1 e
    obtain ⟨bs, rfl, rfl, hb⟩ := zipRV rr
    have em : (bs.map fun b => py b.2) = (bs.map (·.2)).map py := by simp
    refine ⟨p, bs, rfl, s1, fun b hm => (hb b hm).dp R.fh (pds_mem hp (List.mem_map.mpr ⟨b, hm, rfl⟩)), by rw [em]; exact hal, by rw [em]; exact hso, fun b hm => hdp _ (List.mem_map.mpr ⟨b, hm, rfl⟩), ?_⟩
    have hmap : (bs.mergeSort (PySem.W.dataLe false fun b => py b.2)).map (·.2) = srtD (bs.map (·.2)) := List.map_mergeSort fun _ _ _ _ => rfl
    refine fresh_lst (ds := srtD (bs.map (·.2))) R ?_ h k
    rw [← hmap]
    exact rvs_of_zip _ fun b hm => hb b (List.mem_mergeSort.mp hm)

/-! ### repr -/
def rRepr (K : Frag) : List V → Hp → VK → Prop := fun xs H Q => ∃ v d, xs = [v] ∧ Dp K H v d ∧ d.showable = true ∧ d.depth ≤ 64 ∧ d.shown.length ≤ sizeLine ∧ Q (.str d.shown) H
theorem dp_noDict {K : Frag} {H : Hp} : ∀ {v : V} {d : PyData}, Dp K H v d → d.hasDict = false := by
  intro v d h
  exact Dp.rec (motive_1 := fun _ d _ => d.hasDict = false) (motive_2 := fun _ ds _ => PyData.hasDictAll ds = false) (by simp [PyData.hasDict]) (fun _ => by simp [PyData.hasDict]) (fun _ => by simp [PyData.hasDict]) (fun _ => by simp [PyData.hasDict])
    (fun _ _ ih => by simpa [PyData.hasDict] using ih) (fun _ _ ih => by simpa [PyData.hasDict] using ih) (by simp [PyData.hasDictAll]) (fun _ _ i1 i2 => by simp [PyData.hasDictAll, i1, i2]) h
theorem cr_repr (hgd : X.A.guards = some []) (hu : X.A.units + 66 < cLine) : CallR X (.builtin "repr") (rRepr X.K) := by
  intro pins s σ H xs us Q I r h
  obtain ⟨v, d, rfl, hd, hs, hdp, hz, q⟩ := h
  obtain ⟨u, rfl, ru⟩ := vals1 r
  have hnd := dp_noDict hd
  cases v with
  | ref a =>
    cases ru
    obtain ⟨as, rd⟩ := Dp.reads I d _ _ hd rfl
    exact repr_of_reads' rd hs (PyData.noDict_hsm hnd) hgd (by omega) (fun _ _ e => e) (fun h' u tk hk => ⟨.str _, H, I.kept hk, ⟨_, rfl⟩, q⟩) hz
  | non => cases hd; cases ru; exact PySem.P.repr_of_none ⟨.str _, H, I.tok _, ⟨_, rfl⟩, by simpa [PyData.shown] using q⟩
  | bl b => cases hd; cases ru; exact PySem.P.repr_of_bool ⟨.str _, H, I.tok _, ⟨_, rfl⟩, by simpa [PyData.shown] using q⟩
  | int i => cases hd; obtain ⟨t, rfl⟩ := ru; exact PySem.P.repr_of_int (by simpa [PyData.showable] using hs) ⟨.str _, H, I.tok _, ⟨_, rfl⟩, by simpa [PyData.shown] using q⟩
  | str i => cases hd; obtain ⟨t, rfl⟩ := ru; exact PySem.P.repr_of_str ⟨.str _, H, I.tok _, ⟨_, rfl⟩, by simpa [PyData.shown] using q⟩ (by simpa [PyData.shown] using hz)
  | byt _ => cases hd
  | flt _ => cases hd
  | ty _ => cases hd
def dRepr : List D → Ow → DQ → Prop := fun ds O q => match ds with
  | [d] => ∃ a, asP O d = some a ∧ a.showable = true ∧ a.depth ≤ 64 ∧ a.shown.length ≤ sizeLine ∧ q (.str a.shown) O
  | _ => False
theorem sim_repr : SimC B (rRepr B.K) dRepr := by
  intro env O σ H F vs ds q Q R r h k
  match ds, r, h with
  | [d], r, ⟨a, e, h1, h2, h3, h⟩ =>
    obtain ⟨v, rfl, r1⟩ := r.one
    exact ⟨v, a, rfl, asP_dp R.fh R.ow r1 e, h1, h2, h3, k _ _ O H F (.refl R) (.str _) h⟩

/-! ### own lists change -/
def dAppend (to : DTE) (ta : DTA) : DTE := fun env O q => to env O fun x O1 => match x with
  | .ref p => ∃ es, O1 p = some (.lst es) ∧ ta env O1 fun ds O2 => match ds with | [d] => O2 p = some (.lst es) ∧ es.length < sizeLine ∧ q .non (setO O2 p (.lst (es ++ [d]))) | _ => False
  | _ => False
theorem de_append {e : Expr} {to : DTE} {ta : DTA} (hK : X.K = B.K) (h : PE X e (tBM X.K "list" rAppend (lift B to) (liftA B ta))) : PE X e (lift B (dAppend to ta)) := PE.weak h fun σ H Q h => by
  obtain ⟨env, O, F, q, R, h, k⟩ := h
  refine ⟨env, O, F, _, R, h, fun x v O1 H1 F1 a1 r1 h1 => ?_⟩
  cases x <;> try exact h1.elim
  rename_i p
  cases r1
  obtain ⟨es, e1, h1⟩ := h1
  obtain ⟨_, ho, e2, vs, rfl, rr⟩ := a1.ow p _ e1
  have R1 := R.call a1
  refine ⟨.inl ⟨rfl, vs, SqL.of e2⟩, env, O1, F1, _, R1, h1, fun ds us O2 H2 F2 a2 r2 h2 => ?_⟩
  match ds, r2, h2 with
  | [d], r2, ⟨e3, hz, h2⟩ =>
    obtain ⟨u, rfl, ru⟩ := r2.one
    obtain ⟨_, ho, e4, vs2, rfl, rr2⟩ := a2.ow p _ e3
    refine ⟨p, vs2, u, rfl, rfl, e4, by rw [← rr2.length]; exact hz, ?_⟩
    exact k _ _ _ _ F2 (a1.trans (a2.trans ((R1.call a2).put e3 (u := .lst (es ++ [d])) ⟨_, rfl, rr2.append (.cons ru .nil)⟩))) .non h2
/-- o[i] = v, o a list of one's own -/
def dgSub (to ti : DTE) : DTG := fun d env O q => to env O fun x O1 => ti env O1 fun y O2 => match x, y with
  | .ref p, .int i => ∃ es j, O2 p = some (.lst es) ∧ ixN es.length i = some j ∧ q env (setO O2 p (.lst (es.set j d)))
  | _, _ => False
theorem dg_sub {tg : Expr} {to ti : DTE} (h : PG X tg (gSub (lift B to) (lift B ti) rSetL)) : PG X tg (liftG B (dgSub to ti)) := PG.weak h fun v σ H Q h => by
  obtain ⟨d, env, O, F, q, R, r, h, k⟩ := h
  refine ⟨env, O, F, _, R, h, fun x xv O1 H1 F1 a1 r1 h1 => ?_⟩
  have R1 := R.call a1
  refine ⟨env, O1, F1, _, R1, h1, fun y yv O2 H2 F2 a2 r2 h2 => ?_⟩
  cases x <;> cases y <;> try exact h2.elim
  cases r1; cases r2
  rename_i p i
  obtain ⟨es, j, e1, e2, h2⟩ := h2
  obtain ⟨_, ho, e3, vs, rfl, rr⟩ := a2.ow p _ e1
  have r' := (r.mono a1.ff).mono a2.ff
  have a3 := (R1.call a2).put e1 (u := .lst (es.set j d)) ⟨vs.set j v, rfl, rr.set r' j⟩
  exact ⟨p, vs, i, j, rfl, rfl, e3, by rw [← rr.length]; exact e2, k _ _ _ _ _ (a1.trans (a2.trans a3)) (((R.sl.mono a1.ff).mono a2.ff).mono a3.ff) h2⟩
end

/-! ### a def by its body -/
section
variable {P : Program} {w : World} {K : Frag} {mg : Str → Option Value} {base : Heap}
/-- at a def's end some of the ghost heap may be forgotten -/
def rtK (q : DQ) : DQ := fun d O => ∃ o2, SubO o2 O ∧ q d o2
theorem rt_same {q : DQ} {d : D} {O : Ow} (h : q d O) : rtK q d O := ⟨O, .refl O, h⟩
/-- what a body's walk may lean on -/
structure Site (X : Cx) (B : Bd) (k : Nat) (wx : DW) : Prop where
  hK : X.K = B.K
  gd : X.A.guards = some []
  rm : Room k X.A
  tk : TakesD X B wx
  po : PassesOwn (model X.prog X.w) X.A X.env X.xe
theorem fn_D {x qual : Str} {st : Stmt} {f : Addr} {fd : FuncData} {N ps : List Str} {n k : Nat} {fn : DF} (F : Fun K x qual st f fd) (S : FnScope N ps (defScope st)) (hn : ps.length = n)
    (hb : ∀ (cdv : Value) (A : Around) (outer : List PySem.Env) (s : Shared) (H : Hp) (E : XK) (O0 : Ow) (H0 F0 : Hp) (ds : List D) (O : Ow) (q : DQ) (xx : DX), ds.length = n → fn ds O q xx →
      Site (cxOf (L2.CX P w) P w K mg base N qual (defScope st) f cdv A outer s H E) ⟨K, O0, H0, F0⟩ k (fun c fs _ O => xx c fs O) →
      ∃ t : DTS, PSs (cxOf (L2.CX P w) P w K mg base N qual (defScope st) f cdv A outer s H E) (defBody st) (liftS ⟨K, O0, H0, F0⟩ t) ∧ t { nx := fun _ O' => rtK q .non O', rt := rtK q } (envOf N.length ds) O) :
    FnG P w K mg base (L2.CX P w) (k + 1) f fd ps (spD K n fn) := by
  refine FnG.ofFun F S (spD_len hn) fun cdv A outer s H vs Q E hg hr h => ?_
  obtain ⟨F0, O, ds, q, xx, fh, ow, rv, hl, hf, k1, k2⟩ := h
  obtain ⟨t, ht, hq⟩ := hb cdv A outer s H E O H F0 ds O q xx hl hf ⟨rfl, hg, hr, (takes_of rfl rfl rfl rfl).imp fun c d σ H' z => by
    obtain ⟨env, O', F', fs, R, xr, hx⟩ := z
    exact k2 c d fs O' H' F' R.af xr hx, passes_of rfl⟩
  refine ⟨_, ht, envOf N.length ds, O, F0, _, rel_start fh ow rv, hq, ⟨fun env' O' σ' H' F' a _ ⟨o2, sb, z⟩ => k1 .non .non o2 H' F' (a.weak sb) .non z, fun x v O' H' F' a r ⟨o2, sb, z⟩ => k1 x v o2 H' F' (a.weak sb) r z, fun _ _ _ _ _ _ _ z => z.elim, fun _ _ _ _ _ _ _ z => z.elim⟩⟩
theorem fn_DD {x qual : Str} {params : Arguments} {body : List Stmt} {scope : Scope} {dvs : List V} {kws : List (Str × V)} {f : Addr} {fd : FuncData} {N ps : List Str} {n k : Nat} {fn : DF} (F : FunD K x qual params body scope dvs kws f fd) (S : FnScope N ps scope) (hn : ps.length = n)
    (hb : ∀ (cdv : Value) (A : Around) (outer : List PySem.Env) (s : Shared) (H : Hp) (E : XK) (O0 : Ow) (H0 F0 : Hp) (ds : List D) (O : Ow) (q : DQ) (xx : DX), ds.length = n → fn ds O q xx →
      Site (cxOf (L2.CX P w) P w K mg base N qual scope f cdv A outer s H E) ⟨K, O0, H0, F0⟩ k (fun c fs _ O => xx c fs O) →
      ∃ t : DTS, PSs (cxOf (L2.CX P w) P w K mg base N qual scope f cdv A outer s H E) body (liftS ⟨K, O0, H0, F0⟩ t) ∧ t { nx := fun _ O' => rtK q .non O', rt := rtK q } (envOf N.length ds) O) :
    FnG P w K mg base (L2.CX P w) (k + 1) f fd ps (spD K n fn) := by
  refine FnG.ofFunD F S (spD_len hn) fun cdv A outer s H vs Q E hg hr h => ?_
  obtain ⟨F0, O, ds, q, xx, fh, ow, rv, hl, hf, k1, k2⟩ := h
  obtain ⟨t, ht, hq⟩ := hb cdv A outer s H E O H F0 ds O q xx hl hf ⟨rfl, hg, hr, (takes_of rfl rfl rfl rfl).imp fun c d σ H' z => by
    obtain ⟨env, O', F', fs, R, xr, hx⟩ := z
    exact k2 c d fs O' H' F' R.af xr hx, passes_of rfl⟩
  refine ⟨_, ht, envOf N.length ds, O, F0, _, rel_start fh ow rv, hq, ⟨fun env' O' σ' H' F' a _ ⟨o2, sb, z⟩ => k1 .non .non o2 H' F' (a.weak sb) .non z, fun x v O' H' F' a r ⟨o2, sb, z⟩ => k1 x v o2 H' F' (a.weak sb) r z, fun _ _ _ _ _ _ _ z => z.elim, fun _ _ _ _ _ _ _ z => z.elim⟩⟩
end
end DL

set_option Elab.async false
set_option linter.all false
set_option maxRecDepth 100000
set_option maxHeartbeats 4000000
namespace DL
open PySem PySem.Spec PyProof.Rows L2
/-! ### the law's end -/
/-- the script alone is tracked, and known -/
def scrH (K : Frag) (a : Addr) (vs : List Value) (ns : List Int) : Hp := fun b => if b = a ∧ K.lookup a = none then some (.frz { cls := .type "list", data := .seq vs.toArray } (.lst (ns.map V.int))) else none
theorem scrH_some {K : Frag} {a b : Addr} {vs : List Value} {ns : List Int} {o : HO} (e : scrH K a vs ns b = some o) : b = a ∧ K.lookup a = none ∧ o = .frz { cls := .type "list", data := .seq vs.toArray } (.lst (ns.map V.int)) := by
  unfold scrH at e
  split at e
  · rename_i h
    exact ⟨h.1, h.2, (Option.some.inj e).symm⟩
  · cases e
theorem law_G {P : Program} {w : World} {K : Frag} {mg mb : Str → Option Value} {k : Nat} {fa a : Addr} {fd : FuncData} {x : Str} {fn : DF} {t : Shared} {vs : List Value} {ns : List Int}
    (kin : K.In t.heap) (gl : t.heap.Ns mainGlobals mg) (bl : t.heap.Ns builtinsNs mb) (bb : ∀ x : Str, x ≠ "__name__" → mb x = bootBuiltins x) (lim : t.heap.NoLimit) (gens : t.gens = #[])
    (scr : t.heap.get? a = some { cls := .type "list", data := .seq vs.toArray }) (hin : IntsAre vs ns) (short : ns.length ≤ sizeLine) (room : Room k callerA)
    (F : ∀ base : Heap, K.In base → base.Ns mainGlobals mg → FnG P w K mg base (L2.CX P w) k fa fd [x] (spD K 1 fn)) (bind : ∀ (s : Shared) (u : Value), BindsTo s fd ⟨[u], []⟩ [(x, u)])
    (hfn : fn [.lst (ns.map D.int)] (fun _ => none) (fun d _ => d = .bl true) (fun _ _ _ => False)) :
    codeAny (model P w) callerA (.call (.ref fa) ⟨[.ref a], []⟩) (fun r s' => r = .ok (.ret (.bool true)) ∧ OldK t.heap s'.heap ∧ s'.os = t.os ∧ AllBare s'.gens) t := by
  let H := scrH K a vs ns
  have vals : Vals (ns.map V.int) vs := vals_ints hin
  have hlen := hin.length
  have dat : ∀ {b : Addr} {o : Obj} {es : Array DictEntry} {ep : Nat}, t.heap.get? b = some o → o.data = .dict es ep → H b = none := by
    intro b o es ep e de
    cases z : H b with
    | none => rfl
    | some u =>
      obtain ⟨rfl, _, _⟩ := scrH_some z
      rw [scr] at e
      cases e
      cases de
  have nsOf : ∀ {b : Addr} {m : Str → Option Value}, t.heap.Ns b m → (hidT t.heap H).Ns b m := by
    rintro b m ⟨o, es, ep, e, de, rest⟩
    exact ⟨o, es, ep, hidT_get e (dat e de), de, rest⟩
  have kB : K.In (hidT t.heap H) := by
    intro b o e
    refine hidT_get (kin b o e) ?_
    cases z : H b with
    | none => rfl
    | some u =>
      obtain ⟨rfl, kn, _⟩ := scrH_some z
      rw [kn] at e; cases e
  have hok : HOk P w H t.heap := by
    intro b o e
    obtain ⟨rfl, _, rfl⟩ := scrH_some e
    exact ⟨scr, by simpa using short, vs, _, vals, scr⟩
  have m0 : Mod K mg (hidT t.heap H) := by
    obtain ⟨mc, l1, l2⟩ := lim
    exact ⟨kB, nsOf gl, ⟨mb, nsOf bl, bb⟩, ⟨mc, nsOf l1, l2⟩⟩
  have e0 : Env0 P w K mg (hidT t.heap H) callerA [] t H :=
    ⟨rfl, m0, fun b o e => of_hidT e, Nat.le_of_eq (hidT_size _ _), trivial, fun b z => absurd (show b ∈ ([] : List Addr) from z) (by simp), hok, .of_eq gens⟩
  have sq : SqL K H a (ns.map V.int) := by
    cases hk : K.lookup a with
    | none => exact .inl (.inr ⟨_, if_pos ⟨rfl, hk⟩⟩)
    | some o =>
      have e := kin a o hk
      rw [scr] at e
      cases e
      exact .inr ⟨_, vs.toArray, _, hk, rfl, rfl, rfl, by rw [List.size_toArray, hlen]; exact short, by simpa using vals⟩
  have rvs : ∀ l : List Int, RVs K H (l.map D.int) (l.map V.int) := by
    intro l
    induction l with
    | nil => exact .nil
    | cons i l ih => exact .cons (.int i) ih
  have hsp : spD K 1 fn [.ref a] H (fun v _ => v = .bl true) (fun _ _ _ => False) := by
    refine ⟨H, fun _ => none, [.lst (ns.map D.int)], _, _, Same.refl _, (fun p o z => by cases z), .cons (.lst sq (rvs ns)) .nil, rfl, hfn, fun d v O' H' F' _ r z => ?_, fun _ _ _ _ _ _ _ _ z => z⟩
    subst z
    cases r
    rfl
  refine codeAny_mono ((F _ kB (nsOf gl)).run callerA [] t H ⟨[.ref a], []⟩ [.ref a] [.ref a] _ _ rfl room e0 (bind t (.ref a)) (.cons rfl .nil) hsp) ?_
  intro r s' z
  match r, z with
  | .error e, z =>
    obtain ⟨_, _, _, _, _, _, _, _, _, _, _, _, z⟩ := z
    exact z.elim
  | .ok .next, z => exact False.elim z
  | .ok .brk, z => exact False.elim z
  | .ok .cont, z => exact False.elim z
  | .ok (.ret u), z =>
    obtain ⟨v, H', os, bare, un, hok', rv, q⟩ := z
    have q' : v = .bl true := q
    subst q'
    obtain rfl : u = Value.bool true := rv
    refine ⟨rfl, OldK.of_keep fun b o e => ?_, os, bare⟩
    cases z : H b with
    | none => exact un.keep b o e z (fun y => absurd (show b ∈ ([] : List Addr) from y) (by simp)) (by simp)
    | some y =>
      obtain ⟨rfl, _, rfl⟩ := scrH_some z
      have y2 := (hok' _ _ (un.frzs _ _ _ z)).1
      rw [scr] at e
      cases e
      exact y2
theorem walk_G {l : PySem.W.OpenLaw} {n k : Nat} {q : Program} {loose : List Str} {XP : (Str → Option Value) → Heap → Prop} {YP : World → Heap → Prop} {d : DefRec} {K : Params → Frag} {x : Str} {fn : DF}
    (hn : l.most = some n) (hn2 : n ≤ sizeLine) (hdf : d.params.defaults = []) (hr : Room k callerA) (hY : ∀ (w : World) (h : Heap), YP w h → (K w.params).In h)
    (F : ∀ (w : World) (mg : Str → Option Value) (fa : Addr) (h : Heap), (K w.params).In h → h.Ns mainGlobals mg → mg d.name = some (.ref fa) →
      ∃ fd : FuncData, (∀ (s : Shared) (u : Value), BindsTo s fd ⟨[u], []⟩ [(x, u)]) ∧ ∀ base : Heap, (K w.params).In base → base.Ns mainGlobals mg → FnG l.prog w (K w.params) mg base (L2.CX l.prog w) k fa fd [x] (spD (K w.params) 1 fn))
    (hfn : ∀ ns : List Int, ns.length ≤ n → (∀ k ∈ ns, Builtin.Int.intBits k ≤ 1048576) → fn [.lst (ns.map D.int)] (fun _ => none) (fun d _ => d = .bl true) (fun _ _ _ => False)) :
    PySem.W.WalkO q loose XP YP l.row.toRowW d [] (fun f vs => PySem.call f vs) := by
  refine Att.attach_callB hn hdf fun w s₀ s₁ mg mb fa o pm cd doc a vs ns G Y ho hd hcd hmg hobj hints hlen hbits hg => ?_
  obtain ⟨fd, hb, hF⟩ := F w mg fa _ (hY w _ Y) G.T.g hmg
  exact law_G (hY w _ Y) G.T.g G.T.b G.T.builtins G.T.nolimit hg hobj hints (Nat.le_trans hlen hn2) hr hF hb (hfn ns hlen hbits)
end DL

set_option Elab.async false
set_option linter.all false
set_option maxRecDepth 100000
set_option maxHeartbeats 4000000
namespace DL
open PySem PySem.Spec PyProof.Rows L2
/-! ### a def that is called -/
structure Cal (P : Program) (w : World) (K : Frag) (mg : Str → Option Value) (base : Heap) (x : Str) (ps : List Str) (n k : Nat) (fn : DF) (f : Addr) (fd : FuncData) : Prop where
  G : FnG P w K mg base (L2.CX P w) k f fd ps (spD K n fn)
  mg : mg x = some (.ref f)
  kp : PySem.W.keepIn K (.ref f) = true

section
variable {X : Cx} {B : Bd} {pos : Pos} {k : Nat} {wx : DW} {a b c : Expr} {ta tb tc : DTE}
/-! ### the sites within a body -/
theorem Site.blk (S : Site X B k wx) {s : Shared} {H : Hp} {scope : Scope} {cenv : PySem.Env} {fp : List Addr} : Site (X.blk s H scope cenv fp) B k w0 := ⟨S.hK, S.gd, S.rm, takesD0, PassesOwn.never⟩
/-! ### operators at a site -/
theorem so_eq (S : Site X B k wx) (ha : PE X a (lift B ta)) (hb : PE X b (lift B tb)) : PE X (.Compare a [.Eq] [b] pos) (lift B (dOp dEq ta tb)) := de_cmp (op_eqD S.rm.units) (by rw [S.hK]; exact sim_eq) ha hb (nomark _)
theorem so_ne (S : Site X B k wx) (ha : PE X a (lift B ta)) (hb : PE X b (lift B tb)) : PE X (.Compare a [.NotEq] [b] pos) (lift B (dOp dNe ta tb)) := de_cmp (op_neD S.rm.units) (by rw [S.hK]; exact sim_ne) ha hb (nomark _)
theorem so_lt (S : Site X B k wx) (ha : PE X a (lift B ta)) (hb : PE X b (lift B tb)) : PE X (.Compare a [.Lt] [b] pos) (lift B (dOp dLt ta tb)) := de_cmp op_lt sim_lt ha hb (nomark _)
theorem so_le (S : Site X B k wx) (ha : PE X a (lift B ta)) (hb : PE X b (lift B tb)) : PE X (.Compare a [.LtE] [b] pos) (lift B (dOp dLe ta tb)) := de_cmp op_le sim_le ha hb (nomark _)
theorem so_gt (S : Site X B k wx) (ha : PE X a (lift B ta)) (hb : PE X b (lift B tb)) : PE X (.Compare a [.Gt] [b] pos) (lift B (dOp dGt ta tb)) := de_cmp op_gt sim_gt ha hb (nomark _)
theorem so_ge (S : Site X B k wx) (ha : PE X a (lift B ta)) (hb : PE X b (lift B tb)) : PE X (.Compare a [.GtE] [b] pos) (lift B (dOp dGe ta tb)) := de_cmp op_ge sim_ge ha hb (nomark _)
theorem so_is (S : Site X B k wx) (ha : PE X a (lift B ta)) (hb : PE X b (lift B tb)) : PE X (.Compare a [.Is] [b] pos) (lift B (dOp dIsN ta tb)) := de_cmp op_isN sim_isN ha hb (nomark _)
theorem so_isnot (S : Site X B k wx) (ha : PE X a (lift B ta)) (hb : PE X b (lift B tb)) : PE X (.Compare a [.IsNot] [b] pos) (lift B (dOp dNotN ta tb)) := de_cmp op_notN sim_notN ha hb (nomark _)
theorem Site.u65 (S : Site X B k wx) : X.A.units + 65 < cLine := by have := S.rm.un; omega
theorem Site.u66 (S : Site X B k wx) : X.A.units + 66 < cLine := by have := S.rm.un; omega
theorem so_in (S : Site X B k wx) (ha : PE X a (lift B ta)) (hb : PE X b (lift B tb)) (hm : behindInMarks .In b = false := by rfl) : PE X (.Compare a [.In] [b] pos) (lift B (dOp dIn ta tb)) := de_cmp (op_inA S.u65) (by rw [S.hK]; exact sim_in) ha hb hm
theorem so_notin (S : Site X B k wx) (ha : PE X a (lift B ta)) (hb : PE X b (lift B tb)) (hm : behindInMarks .NotIn b = false := by rfl) : PE X (.Compare a [.NotIn] [b] pos) (lift B (dOp dNotIn ta tb)) := de_cmp (op_notInA S.u65) (by rw [S.hK]; exact sim_in) ha hb hm
theorem st_eq (S : Site X B k wx) (ha : PE X a (lift B ta)) (hb : PE X b (lift B tb)) : PT X (.Compare a [.Eq] [b] pos) (liftT B (dTest (dOp dEq ta tb))) := dt_cmp (op_eqD S.rm.units) (by rw [S.hK]; exact sim_eq) ha hb (nomark _)
theorem st_ne (S : Site X B k wx) (ha : PE X a (lift B ta)) (hb : PE X b (lift B tb)) : PT X (.Compare a [.NotEq] [b] pos) (liftT B (dTest (dOp dNe ta tb))) := dt_cmp (op_neD S.rm.units) (by rw [S.hK]; exact sim_ne) ha hb (nomark _)
theorem st_lt (S : Site X B k wx) (ha : PE X a (lift B ta)) (hb : PE X b (lift B tb)) : PT X (.Compare a [.Lt] [b] pos) (liftT B (dTest (dOp dLt ta tb))) := dt_cmp op_lt sim_lt ha hb (nomark _)
theorem st_le (S : Site X B k wx) (ha : PE X a (lift B ta)) (hb : PE X b (lift B tb)) : PT X (.Compare a [.LtE] [b] pos) (liftT B (dTest (dOp dLe ta tb))) := dt_cmp op_le sim_le ha hb (nomark _)
theorem st_gt (S : Site X B k wx) (ha : PE X a (lift B ta)) (hb : PE X b (lift B tb)) : PT X (.Compare a [.Gt] [b] pos) (liftT B (dTest (dOp dGt ta tb))) := dt_cmp op_gt sim_gt ha hb (nomark _)
theorem st_ge (S : Site X B k wx) (ha : PE X a (lift B ta)) (hb : PE X b (lift B tb)) : PT X (.Compare a [.GtE] [b] pos) (liftT B (dTest (dOp dGe ta tb))) := dt_cmp op_ge sim_ge ha hb (nomark _)
theorem st_is (S : Site X B k wx) (ha : PE X a (lift B ta)) (hb : PE X b (lift B tb)) : PT X (.Compare a [.Is] [b] pos) (liftT B (dTest (dOp dIsN ta tb))) := dt_cmp op_isN sim_isN ha hb (nomark _)
theorem st_isnot (S : Site X B k wx) (ha : PE X a (lift B ta)) (hb : PE X b (lift B tb)) : PT X (.Compare a [.IsNot] [b] pos) (liftT B (dTest (dOp dNotN ta tb))) := dt_cmp op_notN sim_notN ha hb (nomark _)
theorem st_in (S : Site X B k wx) (ha : PE X a (lift B ta)) (hb : PE X b (lift B tb)) (hm : behindInMarks .In b = false := by rfl) : PT X (.Compare a [.In] [b] pos) (liftT B (dTest (dOp dIn ta tb))) := dt_cmp (op_inA S.u65) (by rw [S.hK]; exact sim_in) ha hb hm
theorem st_notin (S : Site X B k wx) (ha : PE X a (lift B ta)) (hb : PE X b (lift B tb)) (hm : behindInMarks .NotIn b = false := by rfl) : PT X (.Compare a [.NotIn] [b] pos) (liftT B (dTest (dOp dNotIn ta tb))) := dt_cmp (op_notInA S.u65) (by rw [S.hK]; exact sim_in) ha hb hm
theorem so_add (S : Site X B k wx) (ha : PE X a (lift B ta)) (hb : PE X b (lift B tb)) : PE X (.BinOp a .Add b pos) (lift B (dOp dAdd ta tb)) := de_op op_addA (by rw [S.hK]; exact sim_add) ha hb
theorem so_sub (S : Site X B k wx) (ha : PE X a (lift B ta)) (hb : PE X b (lift B tb)) : PE X (.BinOp a .Sub b pos) (lift B (dOp dSub ta tb)) := de_op op_sub sim_sub ha hb
theorem so_mul (S : Site X B k wx) (ha : PE X a (lift B ta)) (hb : PE X b (lift B tb)) : PE X (.BinOp a .Mult b pos) (lift B (dOp dMul ta tb)) := de_op op_mulA (by rw [S.hK]; exact sim_mul) ha hb
theorem so_fdiv (S : Site X B k wx) (ha : PE X a (lift B ta)) (hb : PE X b (lift B tb)) : PE X (.BinOp a .FloorDiv b pos) (lift B (dOp dFdiv ta tb)) := de_op op_fdiv sim_fdiv ha hb
theorem so_mod (S : Site X B k wx) (ha : PE X a (lift B ta)) (hb : PE X b (lift B tb)) : PE X (.BinOp a .Mod b pos) (lift B (dOp dMod ta tb)) := de_op op_mod sim_mod ha hb
theorem so_pow (S : Site X B k wx) (ha : PE X a (lift B ta)) (hb : PE X b (lift B tb)) : PE X (.BinOp a .Pow b pos) (lift B (dOp dPow ta tb)) := de_op op_powW sim_pow ha hb
def dNeg (ta : DTE) : DTE := fun env O q => ta env O fun x O1 => match x with | .int i => q (.int (-i)) O1 | _ => False
theorem so_neg (S : Site X B k wx) (ha : PE X a (lift B ta)) : PE X (.UnaryOp .USub a pos) (lift B (dNeg ta)) := PE.weak (pe_un un_neg ha) fun σ H Q h => by
  obtain ⟨env, O, F, q, R, h, kk⟩ := h
  refine ⟨env, O, F, _, R, h, fun d v O1 H1 F1 a1 r1 h1 => ?_⟩
  cases d <;> try exact h1.elim
  cases r1
  exact ⟨_, rfl, kk _ _ O1 H1 F1 a1 (.int _) h1⟩
theorem so_ix (S : Site X B k wx) (ha : PE X a (lift B ta)) (hb : PE X b (lift B tb)) (hs : PlainIx b) : PE X (.Subscript a b pos) (lift B (dOp dIx ta tb)) := de_ix S.hK ha hb hs
/-! ### chains -/
def dChain (r r' : DR2) (ta tb tc : DTE) : DTE := fun env O q => ta env O fun x O1 => tb env O1 fun y O2 => r x y O2 fun z O3 => match z with
  | .bl true => tc env O3 fun u O4 => r' y u O4 q
  | .bl false => q (.bl false) O3
  | _ => False
theorem lift_chain {r r' : R2} {dr dr' : DR2} (s : Sim2 B r dr) (s' : Sim2 B r' dr') (σ : St) (H : Hp) (Q : VK) (h : lift B (dChain dr dr' ta tb tc) σ H Q) : tChain r r' (lift B ta) (lift B tb) (lift B tc) σ H Q := by
  obtain ⟨env, O, F, q, R, h, k⟩ := h
  refine ⟨env, O, F, _, R, h, fun dx x O1 H1 F1 a1 r1 h1 => ?_⟩
  have R1 := R.call a1
  refine ⟨env, O1, F1, _, R1, h1, fun dy y O2 H2 F2 a2 r2 h2 => ?_⟩
  have R2 := R1.call a2
  refine s env O2 σ H2 F2 x y dx dy _ _ R2 (r1.mono a2.ff) r2 h2 fun d v O3 H3 F3 a3 r3 h3 => ?_
  have R3 := R2.call a3
  have b3 := a1.trans (a2.trans a3)
  cases d <;> try exact h3.elim
  rename_i bb
  cases r3
  cases bb with
  | true => exact ⟨true, rfl, iteT ⟨env, O3, F3, _, R3, h3, fun du u O4 H4 F4 a4 r4 h4 => s' env O4 σ H4 F4 y u dy du q Q (R3.call a4) ((r2.mono a3.ff).mono a4.ff) r4 h4 fun d v O' H' F' a' => k d v O' H' F' (b3.trans (a4.trans a'))⟩⟩
  | false => exact ⟨false, rfl, iteF (k _ _ O3 H3 F3 b3 (.bl _) h3)⟩
theorem so_chain {op op' : CmpOp} {r r' : R2} {dr dr' : DR2} (ho : OpR X (compareOp op) r) (s : Sim2 B r dr) (ho' : OpR X (compareOp op') r') (s' : Sim2 B r' dr') (ha : PE X a (lift B ta)) (hb : PE X b (lift B tb)) (hc : PE X c (lift B tc))
    (hm : lastMarks [op, op'] [b, c] = false := by with_unfolding_all rfl) : PE X (.Compare a [op, op'] [b, c] pos) (lift B (dChain dr dr' ta tb tc)) := PE.weak (pe_chain ho ho' ha hb hc hm) (lift_chain s s')
theorem st_chain {op op' : CmpOp} {r r' : R2} {dr dr' : DR2} (ho : OpR X (compareOp op) r) (s : Sim2 B r dr) (ho' : OpR X (compareOp op') r') (s' : Sim2 B r' dr') (ha : PE X a (lift B ta)) (hb : PE X b (lift B tb)) (hc : PE X c (lift B tc))
    (hm : lastMarks [op, op'] [b, c] = false := by with_unfolding_all rfl) : PT X (.Compare a [op, op'] [b, c] pos) (liftT B (dTest (dChain dr dr' ta tb tc))) :=
  PT.weak (pt_chain ho ho' ha hb hc hm) fun σ H Q h => tTest_mono (lift_chain s s') σ H Q (lift_test σ H Q h)
/-! ### truth -/
def truD (O : Ow) : D → Option Bool
  | .non => some false
  | .bl b => some b
  | .int i => some (i != 0)
  | .str x => if x.length ≤ sizeLine then some (x.length != 0) else none
  | .tup ds => some (!ds.isEmpty)
  | .ty _ => none
  | d => (asL O d).map fun ds => !ds.isEmpty
def dTru (t : DTE) : DTT := fun env O q => t env O fun x O' => ∃ k, truD O' x = some k ∧ q k O'
theorem isEmpty_rv {K : Frag} {F : Hp} {ds : List D} {vs : List V} (r : RVs K F ds vs) : ds.isEmpty = vs.isEmpty := by cases r <;> rfl
theorem tru_v {K : Frag} {O : Ow} {H F : Hp} (fh : Same F H) (ow : OwOk K O H F) {d : D} {v : V} {b : Bool} (r : RV K F d v) (e : truD O d = some b) : TruV K v H b := by
  have hL : ((asL O d).map fun ds => !ds.isEmpty) = some b → TruV K v H b := fun e => by
    cases e2 : asL O d with
    | none => rw [e2] at e; cases e
    | some ds =>
      rw [e2] at e
      cases e
      obtain ⟨p, xs, rfl, s1, rr⟩ := asL_sq fh ow r e2
      exact .inl ⟨xs, s1, by show (!ds.isEmpty) = _; rw [isEmpty_rv rr]⟩
  cases d <;> simp only [truD] at e <;> try exact hL e
  · cases r; cases e; rfl
  · cases r; cases e; rfl
  · cases r; cases e; rfl
  · cases r
    split at e
    · rename_i hz
      cases e
      refine ⟨hz, ?_⟩
      rw [Bool.eq_iff_iff]
      simp
    · cases e
  · cases e
    cases r with
    | tup s1 rr => exact .inr (.inl ⟨_, same_tup fh s1, by rw [isEmpty_rv rr]⟩)
theorem st_tru (S : Site X B k wx) (ha : PE X a (lift B ta)) (he : ∀ whole, isTrue a X.env whole = (do let v ← whole; standAt a.pos; holding [v] (truthy v)) := by intro _; rfl) : PT X a (liftT B (dTru ta)) := PT.weak (pt_truth ha he) fun σ H Q h => by
  obtain ⟨env, O, F, q, R, h, kk⟩ := h
  refine ⟨env, O, F, _, R, h, fun d v O1 H1 F1 a1 r1 h1 => ?_⟩
  obtain ⟨b, e, h1⟩ := h1
  exact ⟨b, by rw [S.hK]; exact tru_v a1.fh a1.ow r1 e, kk b O1 H1 F1 a1 h1⟩
/-! ### calls at a site -/
variable {x : Str} {p : Pos} {e : Expr} {es : List Expr} {ps : List Str} {n j : Nat} {fn : DF} {f : Addr} {fd : FuncData} {tA tB : DTA}
theorem so_call (S : Site X B k wx) (C : Cal X.prog X.w X.K X.mg X.base x ps n j fn f fd) (hj : j ≤ k) (hb : Binds X.K fd ps []) (hg : Gl X x) (ha : PA X (e :: es) (liftA B tA))
    (hdb : (x == ("__debug__" : Str)) = false := by decide) (he : starEach (e :: es) X.env = (false, eval e X.env) :: starEach es X.env := by rfl) (hpl : (backTo pos (starEach es X.env)).any (·.1) = false := by rfl) :
    PE X (.Call (.Name x p) (e :: es) [] pos) (lift B (dCall fn n wx [] tA)) :=
  de_call (S.hK ▸ C.G) S.gd (S.rm.mono hj) hg C.mg C.kp hb .nil (fun _ => .nil) S.tk ha hdb he hpl
/-- with defaults behind the written ones -/
theorem so_callD {dvs : List V} {dds : List D} {ds : List Value} (S : Site X B k wx) (C : Cal X.prog X.w X.K X.mg X.base x ps n j fn f fd) (hj : j ≤ k) (hb : Binds X.K fd ps ds) (hd : Vals dvs ds) (hdd : ∀ F, RVs B.K F dds dvs) (hg : Gl X x) (ha : PA X (e :: es) (liftA B tA))
    (hdb : (x == ("__debug__" : Str)) = false := by decide) (he : starEach (e :: es) X.env = (false, eval e X.env) :: starEach es X.env := by rfl) (hpl : (backTo pos (starEach es X.env)).any (·.1) = false := by rfl) :
    PE X (.Call (.Name x p) (e :: es) [] pos) (lift B (dCall fn n wx dds tA)) :=
  de_call (S.hK ▸ C.G) S.gd (S.rm.mono hj) hg C.mg C.kp hb hd hdd S.tk ha hdb he hpl
theorem so_call0 (S : Site X B k wx) (C : Cal X.prog X.w X.K X.mg X.base x ps n j fn f fd) (hj : j ≤ k) (hb : Binds X.K fd ps []) (hg : Gl X x) (hdb : (x == ("__debug__" : Str)) = false := by decide) :
    PE X (.Call (.Name x p) [] [] pos) (lift B (dCall fn n wx [] fun _ O q => q [] O)) :=
  de_call0 (S.hK ▸ C.G) S.gd (S.rm.mono hj) hg C.mg C.kp hb .nil (fun _ => .nil) S.tk hdb
theorem so_callK {m : Nat} {ks : List Str} {kws : List Keyword} {g : List Value → List Value → List Value} {gV : List V → List V → List V} {gD : List D → List D → List D} (S : Site X B k wx) (C : Cal X.prog X.w X.K X.mg X.base x ps n j fn f fd) (hj : j ≤ k)
    (hb : KBn X.K fd ps m ks g gV) (hgD : ∀ F ds vs es zs, RVs B.K F ds vs → RVs B.K F es zs → RVs B.K F (gD ds es) (gV vs zs)) (hg : Gl X x) (ha : PA X (e :: es) (liftA B tA)) (hkw : PK X kws (liftA B tB))
    (hall : (backToKw pos (keywordEach kws X.env)).all (·.1.isSome) = true := by rfl) (hks : (backToKw pos (keywordEach kws X.env)).filterMap (·.1) = ks := by rfl)
    (hdb : (x == ("__debug__" : Str)) = false := by decide) (he : starEach (e :: es) X.env = (false, eval e X.env) :: starEach es X.env := by rfl)
    (hpl : ((backTo pos (starEach (e :: es) X.env)).any (·.1) || (backToKw pos (keywordEach kws X.env)).any (·.1.isNone)) = false := by rfl) :
    PE X (.Call (.Name x p) (e :: es) kws pos) (lift B (dCallK fn n m ks.length wx gD tA tB)) :=
  de_callK (S.hK ▸ C.G) S.gd (S.rm.mono hj) hg C.mg C.kp hb hgD S.tk ha hkw hall hks hdb he hpl
/-! ### built-ins at a site -/
theorem so_len (S : Site X B k wx) (hg : Gl X "len") (hm : X.mg "len" = none) (ha : PA X [e] (liftA B tA)) (he : starEach [e] X.env = (false, eval e X.env) :: starEach [] X.env := by rfl) (hpl : (backTo pos (starEach [] X.env)).any (·.1) = false := by rfl) : PE X (.Call (.Name "len" p) [e] [] pos) (lift B (dCB dLen tA)) :=
  de_cb (by rw [S.hK]; exact sim_len) (pe_callB call_len hg hm PySem.boot_len ha (by decide) (by decide) he hpl)
theorem bt_abs : bootBuiltins "abs" = some (.builtin "abs") := by decide +kernel
theorem bt_min : bootBuiltins "min" = some (.builtin "min") := by decide +kernel
theorem bt_max : bootBuiltins "max" = some (.builtin "max") := by decide +kernel
theorem bt_int : bootBuiltins "int" = some (.type "int") := by decide +kernel
theorem bt_list : bootBuiltins "list" = some (.type "list") := by decide +kernel
theorem bt_tuple : bootBuiltins "tuple" = some (.type "tuple") := by decide +kernel
theorem bt_sorted : bootBuiltins "sorted" = some (.builtin "sorted") := by decide +kernel
theorem bt_repr : bootBuiltins "repr" = some (.builtin "repr") := by decide +kernel
theorem so_abs (S : Site X B k wx) (hg : Gl X "abs") (hm : X.mg "abs" = none) (ha : PA X [e] (liftA B tA)) (he : starEach [e] X.env = (false, eval e X.env) :: starEach [] X.env := by rfl) (hpl : (backTo pos (starEach [] X.env)).any (·.1) = false := by rfl) : PE X (.Call (.Name "abs" p) [e] [] pos) (lift B (dCB dAbs tA)) :=
  de_cb sim_abs (pe_callB call_abs hg hm bt_abs ha (by decide) (by decide) he hpl)
theorem so_min2 {e2 : Expr} (S : Site X B k wx) (hc : X.calm = true) (hg : Gl X "min") (hm : X.mg "min" = none) (ha : PA X [e, e2] (liftA B tA)) (he : starEach [e, e2] X.env = (false, eval e X.env) :: starEach [e2] X.env := by rfl) (hpl : (backTo pos (starEach [e2] X.env)).any (·.1) = false := by rfl) : PE X (.Call (.Name "min" p) [e, e2] [] pos) (lift B (dCB dMin2 tA)) :=
  de_cb sim_min2 (pe_callB (call_min2 hc) hg hm bt_min ha (by decide) (by decide) he hpl)
theorem so_max2 {e2 : Expr} (S : Site X B k wx) (hc : X.calm = true) (hg : Gl X "max") (hm : X.mg "max" = none) (ha : PA X [e, e2] (liftA B tA)) (he : starEach [e, e2] X.env = (false, eval e X.env) :: starEach [e2] X.env := by rfl) (hpl : (backTo pos (starEach [e2] X.env)).any (·.1) = false := by rfl) : PE X (.Call (.Name "max" p) [e, e2] [] pos) (lift B (dCB dMax2 tA)) :=
  de_cb sim_max2 (pe_callB (call_max2 hc) hg hm bt_max ha (by decide) (by decide) he hpl)
theorem so_int (S : Site X B k wx) (hg : Gl X "int") (hm : X.mg "int" = none) (ha : PA X [e] (liftA B tA)) (he : starEach [e] X.env = (false, eval e X.env) :: starEach [] X.env := by rfl) (hpl : (backTo pos (starEach [] X.env)).any (·.1) = false := by rfl) : PE X (.Call (.Name "int" p) [e] [] pos) (lift B (dCB dInt1 tA)) :=
  de_cb sim_int1 (pe_callTy call_int1 hg hm bt_int ha (by decide) (by decide) he hpl)
theorem so_list (S : Site X B k wx) (hg : Gl X "list") (hm : X.mg "list" = none) (ha : PA X [e] (liftA B tA)) (he : starEach [e] X.env = (false, eval e X.env) :: starEach [] X.env := by rfl) (hpl : (backTo pos (starEach [] X.env)).any (·.1) = false := by rfl) : PE X (.Call (.Name "list" p) [e] [] pos) (lift B (dCB dList1 tA)) :=
  de_cb (by rw [S.hK]; exact sim_list1) (pe_callTy call_list_of hg hm bt_list ha (by decide) (by decide) he hpl)
theorem so_listO (S : Site X B k wx) (hg : Gl X "list") (hm : X.mg "list" = none) (ha : PA X [e] (liftA B tA)) (he : starEach [e] X.env = (false, eval e X.env) :: starEach [] X.env := by rfl) (hpl : (backTo pos (starEach [] X.env)).any (·.1) = false := by rfl) : PE X (.Call (.Name "list" p) [e] [] pos) (lift B (dCB dList1O tA)) :=
  de_cb (by rw [S.hK]; exact sim_list1O) (pe_callTy call_list_of hg hm bt_list ha (by decide) (by decide) he hpl)
theorem so_tuple (S : Site X B k wx) (hg : Gl X "tuple") (hm : X.mg "tuple" = none) (ha : PA X [e] (liftA B tA)) (he : starEach [e] X.env = (false, eval e X.env) :: starEach [] X.env := by rfl) (hpl : (backTo pos (starEach [] X.env)).any (·.1) = false := by rfl) : PE X (.Call (.Name "tuple" p) [e] [] pos) (lift B (dCB dTuple1 tA)) :=
  de_cb (by rw [S.hK]; exact sim_tuple1) (pe_callTy call_tuple_of hg hm bt_tuple ha (by decide) (by decide) he hpl)
theorem so_sorted (S : Site X B k wx) (hg : Gl X "sorted") (hm : X.mg "sorted" = none) (ha : PA X [e] (liftA B tA)) (he : starEach [e] X.env = (false, eval e X.env) :: starEach [] X.env := by rfl) (hpl : (backTo pos (starEach [] X.env)).any (·.1) = false := by rfl) : PE X (.Call (.Name "sorted" p) [e] [] pos) (lift B (dCB dSorted tA)) :=
  de_cb (by rw [S.hK]; exact sim_sorted) (pe_callB (cr_sortG S.u66) hg hm bt_sorted ha (by decide) (by decide) he hpl)
theorem so_repr (S : Site X B k wx) (hg : Gl X "repr") (hm : X.mg "repr" = none) (ha : PA X [e] (liftA B tA)) (he : starEach [e] X.env = (false, eval e X.env) :: starEach [] X.env := by rfl) (hpl : (backTo pos (starEach [] X.env)).any (·.1) = false := by rfl) : PE X (.Call (.Name "repr" p) [e] [] pos) (lift B (dCB dRepr tA)) :=
  de_cb (by rw [S.hK]; exact sim_repr) (pe_callB (cr_repr S.gd S.u66) hg hm bt_repr ha (by decide) (by decide) he hpl)
theorem so_listRg1 (S : Site X B k wx) {p2 pos2 : Pos} (hc : X.calm = true) (hg : Gl X "list") (hm : X.mg "list" = none) (hg2 : Gl X "range") (hm2 : X.mg "range" = none) (ha : PE X a (lift B ta)) (na2 : starEach [a] X.env = (false, eval a X.env) :: starEach [] X.env := by rfl)
    (na : starEach [.Call (.Name "range" p2) [a] [] pos2] X.env = (false, eval (.Call (.Name "range" p2) [a] [] pos2) X.env) :: starEach [] X.env := by rfl) : PE X (.Call (.Name "list" p) [.Call (.Name "range" p2) [a] [] pos2] [] pos) (lift B (dListRg1 ta)) :=
  de_listRg1 (pe_listRg hc hg hm (prg_1 hg2 hm2 ha na2) na)
theorem so_append (S : Site X B k wx) {apos : Pos} {to : DTE} (ho : PE X a (lift B to)) (ha : PA X [e] (liftA B tA)) (hbase : attributeBase a "append" X.env (eval a X.env) = eval a X.env := by rfl)
    (hfew : ((backTo pos (starEach [e] X.env)).all (fun x => !x.1) && (backToKw pos (keywordEach [] X.env)).all (fun x => x.1.isSome) && decide ([e].length + ([] : List Keyword).length + (if ([] : List Keyword).isEmpty then 0 else 1) < 30)) = true := by rfl)
    (hline : (apos.endLine == pos.line) = true := by rfl) (hs : starEach [e] X.env = (false, eval e X.env) :: starEach [] X.env := by rfl) (hplain : (backTo pos (starEach [] X.env)).any (·.1) = false := by rfl) : PE X (.Call (.Attribute a "append" apos) [e] [] pos) (lift B (dAppend to tA)) :=
  de_append S.hK (pe_bm PySem.F.plainAttrs_list PySem.F.slot_list_append PySem.F.type_list_append mt_append ho ha hbase hfew hline hs hplain)
/-! ### a list or a tuple walked -/
theorem pi_seq {tg l : Expr} {tl : TE} (hl : PE X l tl) : PI X tg l (fun σ H R => tl σ H fun x H1 => ∃ a, x = .ref a ∧ (((∃ xs, SqL X.K H1 a xs) ∧ R (Itl X.K a) H1) ∨ ((∃ xs, SqT X.K H1 a xs) ∧ R (Itt X.K a) H1))) := by
  refine ⟨fun pins s σ H R I h => thn (hl.run pins s σ H _ I h) fun v s1 hh => ?_⟩
  obtain ⟨x, H1, I1, r1, a, rfl, q⟩ := hh
  cases r1
  have fp : ∀ b ∈ [s1.heap.objs.size], FpOk X pins H1 b := fun b hb => by
    obtain rfl : b = s1.heap.objs.size := by simpa using hb
    exact I1.fpOk (Nat.le_refl _) (I1.hok.fresh (Nat.le_refl _))
  rcases q with ⟨⟨xs, hs⟩, q⟩ | ⟨⟨xs, hs⟩, q⟩
  · obtain ⟨its, _, pl, _⟩ := I1.list hs
    exact wpAny_pyIter_list pl.isList ⟨_, [s1.heap.objs.size], _, _, H1, rfl, I1.kept (t' := s1.toks) fun b o e => Heap.get?_push_of_some _ e, turn_list a _, ⟨_, Heap.get?_push_size _ rfl, rfl, rfl⟩, fp, q⟩
  · obtain ⟨its, _, pl, _⟩ := I1.tuple hs
    exact wpAny_pyIter_tuple (show s1.heap.IsTuple a its.toArray from pl) ⟨_, [s1.heap.objs.size], _, _, H1, rfl, I1.kept (t' := s1.toks) fun b o e => Heap.get?_push_of_some _ e, turn_tuple a _, ⟨_, Heap.get?_push_size _ rfl, rfl, rfl⟩, fp, q⟩
def diSeq (te : DTE) : DTI := fun env O q => te env O fun d O1 => match d with
  | .tup ds => q ds (fun _ => True) O1
  | d => ∃ ds, asL O1 d = some ds ∧ q ds (gdL O1 d) O1
theorem di_seq {tg l : Expr} {te : DTE} (S : Site X B k wx) (h : PE X l (lift B te)) : PI X tg l (liftI B (diSeq te)) := PI.weak (pi_seq h) fun σ H R hh => by
  have hK := S.hK
  obtain ⟨env, O, F, q, R0, hh, kk⟩ := hh
  refine ⟨env, O, F, _, R0, hh, fun d v O1 H1 F1 a1 r1 h1 => ?_⟩
  have hL : (∃ ds, asL O1 d = some ds ∧ q ds (gdL O1 d) O1) → ∃ a, v = .ref a ∧ (((∃ xs, SqL X.K H1 a xs) ∧ R (Itl X.K a) H1) ∨ ((∃ xs, SqT X.K H1 a xs) ∧ R (Itt X.K a) H1)) := by
    rintro ⟨ds, e, h1⟩
    obtain ⟨a, xs, rfl, hs, hr⟩ := asL_sq a1.fh a1.ow r1 e
    refine ⟨a, rfl, .inl ⟨⟨xs, by rw [hK]; exact hs⟩, kk ds _ O1 H1 F1 _ a1 ?_ h1⟩⟩
    intro O2 H2 F2 i s2 fh2 ow2 gd
    obtain ⟨a', ys, e', hs', hr'⟩ := asL_sq fh2 ow2 (r1.mono s2) (asL_gd e gd)
    cases e'
    rw [hK]
    refine ⟨fun x hx => ?_, fun hi => ⟨ys, hs', by rw [hi, hr'.length]; exact Nat.le_refl _⟩⟩
    obtain ⟨v', e1, r'⟩ := hr'.get hx
    refine ⟨⟨ys, v', hs', e1⟩, fun v H3 hy => ?_⟩
    obtain ⟨rfl, hy⟩ := hy
    obtain rfl : v = v' := Option.some.inj ((hy ys hs').symm.trans e1)
    exact ⟨F2, .rfl' fh2 ow2, r'⟩
  cases d <;> simp only at h1 <;> try exact hL h1
  cases r1 with
  | tup hs hr =>
    rename_i a xs
    refine ⟨a, rfl, .inr ⟨⟨xs, by rw [hK]; exact same_tup a1.fh hs⟩, kk _ _ O1 H1 F1 _ a1 ?_ h1⟩⟩
    intro O2 H2 F2 i s2 fh2 ow2 _
    have hs' : SqT B.K H2 a xs := same_tup (s2.trans fh2) hs
    rw [hK]
    refine ⟨fun x hx => ?_, fun hi => ⟨xs, hs', by rw [hi, hr.length]; exact Nat.le_refl _⟩⟩
    obtain ⟨v', e1, r'⟩ := hr.get hx
    refine ⟨⟨xs, v', hs', e1⟩, fun v H3 hy => ?_⟩
    obtain ⟨rfl, hy⟩ := hy
    obtain rfl : v = v' := Option.some.inj ((hy xs hs').symm.trans e1)
    exact ⟨F2, .rfl' fh2 ow2, r'.mono s2⟩
/-! ### name += e -/
def dAugI (f : Int → Int → Int) (i : Nat) (te : DTE) : DTS := fun E env O => ∃ x, env[i]? = some (some (.int x)) ∧ te env O fun y O1 => match y with | .int z => E.nx (env.set i (some (.int (f x z)))) O1 | _ => False
theorem ss_augI {st : Stmt} {f : Int → Int → Int} {i : Nat} {te : DTE} (h : PS X st (tAug i (lift B te) (ipI f))) : PS X st (liftS B (dAugI f i te)) := PS.weak h fun E σ H h => by
  obtain ⟨env, O, F, d, R, ⟨x, e, h⟩, m⟩ := h
  obtain ⟨v, e1, r⟩ := R.sl.2 i _ e
  cases r
  refine ⟨_, e1, env, O, F, _, R, h, fun y v O1 H1 F1 a1 r1 h1 => ?_⟩
  cases y <;> try exact h1.elim
  cases r1
  exact ⟨_, _, rfl, rfl, m.nx _ O1 _ H1 F1 a1 ((R.sl.mono a1.ff).setv (.int _)) h1⟩
end
end DL

set_option Elab.async false
set_option linter.all false
set_option maxRecDepth 100000
set_option maxHeartbeats 4000000
namespace DL
open PySem PySem.Spec PyProof.Rows L2
/-! ### one step of a reading -/
section
variable {env : Env} {O : Ow} {q : DQ} {ta tb tc te to ti : DTE} {tA tB : DTA} {E : DEnds} {t u : DTS} {cT cU : DTT} {qb : Bool → Ow → Prop} {qa : List D → Ow → Prop} {g : DTG} {qe : Env → Ow → Prop}
theorem i_seq (h : t { E with nx := u E } env O) : dSeq t u E env O := h
theorem i_next (h : E.nx env O) : dNext E env O := h
theorem i_asg (h : te env O fun d O1 => g d env O1 E.nx) : dAsg te g E env O := h
theorem i_gname {i : Nat} {d : D} (h : qe (env.set i (some d)) O) : dgName i d env O qe := h
theorem i_ret (h : te env O E.rt) : dRet te E env O := h
theorem i_retN (h : E.rt .non O) : dRetN E env O := h
theorem i_expr (h : te env O fun _ O1 => E.nx env O1) : dExpr te E env O := h
theorem i_if (h : cT env O fun b O1 => if b = true then t E env O1 else u E env O1) : dIf cT t u E env O := h
theorem i_break (h : E.bk env O) : dBreak E env O := h
theorem i_cont (h : E.ct env O) : dCont E env O := h
theorem i_par {i j : Nat} (h : tA env O fun ds O1 => match ds with | [d, e] => E.nx ((env.set i (some d)).set j (some e)) O1 | _ => False) : dPar i j tA E env O := h
theorem i_for {wi : DTI} (h : wi env O fun xs Gd O1 => forGo g t Gd E xs env O1) : dFor wi g t E env O := h
theorem i_gtup {n : Nat} {gs : DTGs} {ds : List D} (h : ds.length = n) (h2 : gs ds env O qe) : dgTup n gs (.tup ds) env O qe := ⟨h, h2⟩
theorem i_gnil (h : qe env O) : dgNil [] env O qe := ⟨rfl, h⟩
theorem i_gcons {gs : DTGs} {d : D} {ds : List D} (h : g d env O fun env' O' => gs ds env' O' qe) : dgCons g gs (d :: ds) env O qe := h
theorem i_augI {f : Int → Int → Int} {i : Nat} {x : Int} (e : env[i]? = some (some (.int x))) (h : te env O fun y O1 => match y with | .int z => E.nx (env.set i (some (.int (f x z)))) O1 | _ => False) : dAugI f i te E env O := ⟨x, e, h⟩
-- expressions
theorem i_var {i : Nat} {d : D} (e : env[i]? = some (some d)) (h : q d O) : dVar i env O q := ⟨d, e, h⟩
theorem i_c {d : D} (h : q d O) : dC d env O q := h
theorem i_op {r : DR2} (h : ta env O fun x O1 => tb env O1 fun y O2 => r x y O2 q) : dOp r ta tb env O q := h
theorem i_cb {dr : List D → Ow → DQ → Prop} (h : tA env O fun ds O1 => dr ds O1 q) : dCB dr tA env O q := h
theorem i_nil (h : qa [] O) : dNil env O qa := h
theorem i_cons (h : ta env O fun x O1 => tA env O1 fun xs O2 => qa (x :: xs) O2) : dCons ta tA env O qa := h
theorem i_tup (h : tA env O fun ds O1 => ds.length ≤ sizeLine ∧ q (.tup ds) O1) : dTup tA env O q := h
theorem i_lst (h : tA env O fun ds O1 => ds.length ≤ sizeLine ∧ q (.lst ds) O1) : dLst tA env O q := h
theorem i_lstO (h : tA env O fun ds O1 => ds.length ≤ sizeLine ∧ ∀ p, O1 p = none → q (.ref p) (setO O1 p (.lst ds))) : dLstO tA env O q := h
theorem i_ifE (h : cT env O fun c O1 => if c = true then ta env O1 q else tb env O1 q) : dIfE cT ta tb env O q := h
theorem i_test (h : te env O fun x O' => match x with | .bl k => qb k O' | _ => False) : dTest te env O qb := h
theorem i_tru (h : te env O fun x O' => ∃ k, truD O' x = some k ∧ qb k O') : dTru te env O qb := h
theorem i_and (h : cT env O fun c O1 => if c = true then cU env O1 qb else qb false O1) : dAnd cT cU env O qb := h
theorem i_or (h : cT env O fun c O1 => if c = true then qb true O1 else cU env O1 qb) : dOr cT cU env O qb := h
theorem i_not (h : cT env O fun c O1 => qb (!c) O1) : dNot cT env O qb := h
theorem i_andV (h : ta env O fun x O1 => match x with | .bl true => tb env O1 q | .bl false => q (.bl false) O1 | _ => False) : dAndV ta tb env O q := h
theorem i_orV (h : ta env O fun x O1 => match x with | .bl false => tb env O1 q | .bl true => q (.bl true) O1 | _ => False) : dOrV ta tb env O q := h
theorem i_notV (h : ta env O fun x O1 => match x with | .bl b => q (.bl !b) O1 | _ => False) : dNotV ta env O q := h
theorem i_neg (h : ta env O fun x O1 => match x with | .int i => q (.int (-i)) O1 | _ => False) : dNeg ta env O q := h
theorem i_chain {r r' : DR2} (h : ta env O fun x O1 => tb env O1 fun y O2 => r x y O2 fun z O3 => match z with | .bl true => tc env O3 fun u O4 => r' y u O4 q | .bl false => q (.bl false) O3 | _ => False) : dChain r r' ta tb tc env O q := h
theorem i_call {fn : DF} {n : Nat} {w : DW} {dds : List D} (h : tA env O fun ds O1 => (ds ++ dds).length = n ∧ fn (ds ++ dds) O1 q fun c fs O' => w c fs env O') : dCall fn n w dds tA env O q := h
theorem i_callK {fn : DF} {n m l : Nat} {w : DW} {gD : List D → List D → List D} (h : tA env O fun ds O1 => tB env O1 fun es O2 => ds.length = m ∧ es.length = l ∧ (gD ds es).length = n ∧ fn (gD ds es) O2 q fun c fs O' => w c fs env O') : dCallK fn n m l w gD tA tB env O q := h
def appK2 (p : Addr) (es : List D) (q : DQ) : List D → Ow → Prop := fun ds O2 => match ds with | [d] => O2 p = some (.lst es) ∧ es.length < sizeLine ∧ q .non (setO O2 p (.lst (es ++ [d]))) | _ => False
def appK (tA : DTA) (env : Env) (q : DQ) : D → Ow → Prop := fun x O1 => match x with
  | .ref p => ∃ es, O1 p = some (.lst es) ∧ tA env O1 (appK2 p es q)
  | _ => False
theorem i_append (h : to env O (appK tA env q)) : dAppend to tA env O q := h
theorem i_appK {p : Addr} {es : List D} (hp : O p = some (.lst es)) (h : tA env O (appK2 p es q)) : appK tA env q (.ref p) O := ⟨es, hp, h⟩
theorem i_appK2 {p : Addr} {es : List D} {d : D} (hp : O p = some (.lst es)) (hl : es.length < sizeLine) (h : q .non (setO O p (.lst (es ++ [d])))) : appK2 p es q [d] O := ⟨hp, hl, h⟩
def subK (d : D) (env : Env) (qe : Env → Ow → Prop) (x : D) : D → Ow → Prop := fun y O2 => match x, y with
  | .ref p, .int i => ∃ es j, O2 p = some (.lst es) ∧ ixN es.length i = some j ∧ qe env (setO O2 p (.lst (es.set j d)))
  | _, _ => False
theorem i_gsub {d : D} (h : to env O fun x O1 => ti env O1 (subK d env qe x)) : dgSub to ti d env O qe := h
theorem i_subK {d : D} {p : Addr} {es : List D} {i : Int} {j : Nat} (hp : O p = some (.lst es)) (e : ixN es.length i = some j) (h : qe env (setO O p (.lst (es.set j d)))) : subK d env qe (.ref p) (.int i) O := ⟨es, j, hp, e, h⟩
def slK (q : DQ) (x : D) (l : Option Int) : Option Int → Ow → Prop := fun u O3 => match x with
  | .tup ds => q (.tup (cutD ds l u)) O3
  | x => ∃ ds, asL O3 x = some ds ∧ q (.lst (cutD ds l u)) O3
theorem i_sl {tl th : DTO} (h : te env O fun x O1 => tl env O1 fun l O2 => th env O2 (slK q x l)) : dSl te tl th env O q := h
theorem i_slT {ds : List D} {l u : Option Int} (h : q (.tup (cutD ds l u)) O) : slK q (.tup ds) l u O := h
theorem i_slL {ds : List D} {l u : Option Int} (h : q (.lst (cutD ds l u)) O) : slK q (.lst ds) l u O := ⟨ds, rfl, h⟩
theorem asL_ref {p : Addr} {ds : List D} (h : O p = some (.lst ds)) : asL O (.ref p) = some ds := by simp [asL, h]
theorem i_slO {p : Addr} {ds : List D} {l u : Option Int} (hp : O p = some (.lst ds)) (h : q (.lst (cutD ds l u)) O) : slK q (.ref p) l u O := ⟨ds, asL_ref hp, h⟩
theorem i_oN {qo : Option Int → Ow → Prop} (h : qo none O) : doNone env O qo := h
theorem i_oS {qo : Option Int → Ow → Prop} (h : te env O fun d O1 => match d with | .int i => qo (some i) O1 | _ => False) : doSome te env O qo := h
theorem i_lc {wi : DTI} {tt : DTT} {vs : List Nat} (h : wi env O fun xs Gd O1 => xs.length ≤ sizeLine ∧ lcGo g tt te Gd xs (wipeD env vs) O1 fun ys O2 => q (.lst ys) O2) : dLc wi g tt te vs env O q := h
theorem i_lcO {wi : DTI} {tt : DTT} {vs : List Nat} (h : wi env O fun xs Gd O1 => xs.length ≤ sizeLine ∧ lcGo g tt te Gd xs (wipeD env vs) O1 fun ys O2 => ∀ p, O2 p = none → q (.ref p) (setO O2 p (.lst ys))) : dLcO wi g tt te vs env O q := h
theorem i_yes (h : qb true O) : dYes env O qb := h
theorem i_listRg1 (h : ta env O fun d O1 => match d with | .int n => RgOk 0 n ∧ q (.lst (rgD 0 n)) O1 | _ => False) : dListRg1 ta env O q := h
theorem i_rg1 {qi : List D → (Ow → Prop) → Ow → Prop} (h : tA env O fun ds O1 => match ds with | [.int j] => InRg j ∧ qi (rgD 0 j) (fun _ => True) O1 | _ => False) : diRg1 tA env O qi := h
theorem i_rg2 {qi : List D → (Ow → Prop) → Ow → Prop} (h : tA env O fun ds O1 => match ds with | [.int i, .int j] => InRg i ∧ InRg j ∧ qi (rgD i j) (fun _ => True) O1 | _ => False) : diRg2 tA env O qi := h
def seqK (qi : List D → (Ow → Prop) → Ow → Prop) : D → Ow → Prop := fun d O1 => match d with | .tup ds => qi ds (fun _ => True) O1 | d => ∃ ds, asL O1 d = some ds ∧ qi ds (gdL O1 d) O1
theorem i_seqI {qi : List D → (Ow → Prop) → Ow → Prop} (h : te env O (seqK qi)) : diSeq te env O qi := h
theorem i_seqT {qi : List D → (Ow → Prop) → Ow → Prop} {ds : List D} (h : qi ds (fun _ => True) O) : seqK qi (.tup ds) O := h
theorem i_seqL {qi : List D → (Ow → Prop) → Ow → Prop} {ds : List D} (h : qi ds (fun _ => True) O) : seqK qi (.lst ds) O := ⟨ds, rfl, h⟩
theorem i_seqO {qi : List D → (Ow → Prop) → Ow → Prop} {p : Addr} {ds : List D} (hp : O p = some (.lst ds)) (h : qi ds (fun O' => O' p = O p) O) : seqK qi (.ref p) O := ⟨ds, asL_ref hp, h⟩
-- ints
variable {i j : Int}
theorem i_lt (h : q (.bl (decide (i < j))) O) : dLt (.int i) (.int j) O q := ⟨trivial, h⟩
theorem i_le (h : q (.bl (decide (i ≤ j))) O) : dLe (.int i) (.int j) O q := ⟨trivial, h⟩
theorem i_gt (h : q (.bl (decide (j < i))) O) : dGt (.int i) (.int j) O q := ⟨trivial, h⟩
theorem i_ge (h : q (.bl (decide (j ≤ i))) O) : dGe (.int i) (.int j) O q := ⟨trivial, h⟩
theorem i_sub (h : q (.int (i - j)) O) : dSub (.int i) (.int j) O q := ⟨trivial, h⟩
theorem i_addI (h : q (.int (i + j)) O) : dAdd (.int i) (.int j) O q := h
theorem i_mulI (hc : CMul i j) (h : q (.int (i * j)) O) : dMul (.int i) (.int j) O q := ⟨hc, h⟩
theorem i_mod (hc : 0 < j) (h : q (.int (i % j)) O) : dMod (.int i) (.int j) O q := ⟨hc, h⟩
theorem i_fdiv (hc : CDiv i j) (h : q (.int (i / j)) O) : dFdiv (.int i) (.int j) O q := ⟨hc, h⟩
theorem i_pow (hc : CPowW i j) (h : q (.int (i ^ j.toNat)) O) : dPow (.int i) (.int j) O q := ⟨hc, h⟩
theorem i_int (h : q (.int i) O) : dInt1 [.int i] O q := h
theorem i_intb {b : Bool} (h : q (.int (if b then 1 else 0)) O) : dInt1 [.bl b] O q := h
theorem i_abs (h : q (.int (if i < 0 then -i else i)) O) : dAbs [.int i] O q := h
theorem i_min2 (h : q (.int (if j < i then j else i)) O) : dMin2 [.int i, .int j] O q := h
theorem i_max2 (h : q (.int (if j > i then j else i)) O) : dMax2 [.int i, .int j] O q := h
theorem i_isN {d : D} (h : q (.bl (match d with | .non => true | _ => false)) O) : dIsN d .non O q := h
theorem i_notN {d : D} (h : q (.bl (match d with | .non => false | _ => true)) O) : dNotN d .non O q := h
theorem i_mulT {a : List D} {k : Int} (h1 : a ≠ []) (h2 : a.length ≤ 1000) (h3 : -(2 ^ 63) ≤ k ∧ k ≤ 1000) (h : q (.tup (List.replicate k.toNat a).flatten) O) : dMul (.tup a) (.int k) O q := ⟨h1, h2, h3, h⟩
theorem i_addT {a b : List D} (h1 : a.length + b.length ≤ sizeLine) (h : q (.tup (a ++ b)) O) : dAdd (.tup a) (.tup b) O q := ⟨h1, h⟩
theorem i_addL {a b : List D} (h1 : a.length + b.length ≤ sizeLine) (h : q (.lst (a ++ b)) O) : dAdd (.lst a) (.lst b) O q := ⟨a, b, rfl, rfl, h1, h⟩
theorem i_addS {a b : Str} (h1 : a.length + b.length ≤ sizeLine) (h : q (.str (a ++ b)) O) : dAdd (.str a) (.str b) O q := ⟨h1, h⟩
theorem i_ixT {ds : List D} {d : D} (e : atI ds i = some d) (h : q d O) : dIx (.tup ds) (.int i) O q := ⟨d, e, h⟩
theorem i_ixL {ds : List D} {d : D} (e : atI ds i = some d) (h : q d O) : dIx (.lst ds) (.int i) O q := ⟨ds, d, rfl, e, h⟩
theorem i_ixO {p : Addr} {ds : List D} {d : D} (hp : O p = some (.lst ds)) (e : atI ds i = some d) (h : q d O) : dIx (.ref p) (.int i) O q := ⟨ds, d, asL_ref hp, e, h⟩
theorem i_lenL {ds : List D} (h : q (.int (ds.length : Int)) O) : dLen [.lst ds] O q := ⟨ds.length, rfl, h⟩
theorem i_lenT {ds : List D} (h : q (.int (ds.length : Int)) O) : dLen [.tup ds] O q := ⟨ds.length, rfl, h⟩
theorem i_lenO {p : Addr} {ds : List D} (hp : O p = some (.lst ds)) (h : q (.int (ds.length : Int)) O) : dLen [.ref p] O q := ⟨ds.length, by simp [lenD, asL_ref hp], h⟩
theorem asP_ref {p : Addr} {ds : List D} (h : O p = some (.lst ds)) (hp : pds ds = true) : asP O (.ref p) = some (.list (pys ds)) := by simp [asP, h, hp]
-- two ways that meet
theorem join (V : D → Prop) (hk : ∀ d, V d → q d O) (h : ∀ q' : DQ, (∀ d, V d → q' d O) → te env O q') : te env O q := h q hk
theorem joinS (V : Env → Ow → Prop) (hk : ∀ e o, V e o → E.nx e o) (h : ∀ N : Env → Ow → Prop, (∀ e o, V e o → N e o) → t { nx := N, rt := E.rt, bk := E.bk, ct := E.ct } env O) : t E env O := h E.nx hk
-- branches
theorem if_d {P A B : Prop} [Decidable P] (h1 : P → A) (h2 : ¬ P → B) : if decide P = true then A else B := by
  by_cases h : P
  · rw [decide_eq_true h]; exact h1 h
  · rw [decide_eq_false h]; exact h2 h
theorem if_dT {P A B : Prop} [Decidable P] (hp : P) (h1 : A) : if decide P = true then A else B := by rw [decide_eq_true hp]; exact h1
theorem if_dF {P A B : Prop} [Decidable P] (hp : ¬ P) (h1 : B) : if decide P = true then A else B := by rw [decide_eq_false hp]; exact h1
end
/-- a call whose keywords give all the rest -/
theorem kbn_all {K : Frag} {x qual : Str} {params : Arguments} {body : List Stmt} {scope : Scope} {kws : List (Str × V)} {f : Addr} {fd : FuncData} {ps : List Str} (F : FunD K x qual params body scope [] kws f fd) (n : Nat) (ks : List Str)
    (h : ∀ (kV doc pm : Value) (an : Option Addr) (cdv ct : Value) (us ws : List Value), us.length = n → ws.length = ks.length → bindArgs (PySem.W.fnOf x qual params body scope .none kV doc pm an cdv ct) ⟨us, ks.zip ws⟩ = pure (ps.zip (us ++ ws))) :
    KBn K fd ps n ks (fun us ws => us ++ ws) (fun us ws => us ++ ws) := by
  obtain ⟨oc, od, dV, kV, doc, pm, an, cdv, ct, osl, rfl, lk, hcd, hD, hK⟩ := F.ex
  rcases hD with ⟨_, rfl⟩ | ⟨e, _⟩
  · exact ⟨fun s us ws _ l1 l2 => .of_eq (h kV doc pm an cdv ct us ws l1 l2), fun r1 r2 => r1.append r2⟩
  · exact absurd rfl e
theorem funD_mk {K : Frag} {x qual : Str} {st : Stmt} {kws : List (Str × V)} {f : Addr} {oc : Value} {od an : Option Addr} {osl : Array (Option Value)} {kV doc pm cdv ct : Value} (l : K.lookup f = some ⟨oc, od, .func (PySem.W.fnOf x qual (defArgs st) (defBody st) (defScope st) .none kV doc pm an cdv ct), osl⟩)
    (c : PySem.W.codeIn K cdv qual = true) (k : PySem.W.keepIn K (.ref f) = true) (hk : KwdV K kV kws) : FunD K x qual (defArgs st) (defBody st) (defScope st) [] kws f (PySem.W.fnOf x qual (defArgs st) (defBody st) (defScope st) .none kV doc pm an cdv ct) :=
  ⟨⟨oc, od, .none, kV, doc, pm, an, cdv, ct, osl, rfl, l, c, .inl ⟨rfl, rfl⟩, hk⟩, k⟩
theorem asP_pd {O : Ow} {d : D} (h : pd d = true) : asP O d = some (py d) := by
  cases d <;> first | (simp [pd] at h; done) | simp [asP, h]
theorem asPs_L {O : Ow} {ds : List D} (h : pds ds = true) : asPs O (.lst ds) = some (pys ds) := by simp [asPs, asL, h]
theorem asPs_T {O : Ow} {ds : List D} (h : pds ds = true) : asPs O (.tup ds) = some (pys ds) := by simp [asPs, h]
theorem line_ok {n : Nat} (h : n ≤ 100000) : n ≤ sizeLine := Nat.le_trans h (by decide)
theorem len_ok {ds : List D} (h : ds.length ≤ 100000) : ds.length ≤ sizeLine := Nat.le_trans h (by decide)
/-! ### loops and comprehensions in one go -/
theorem lcGo_fm {g : DTG} {tt : DTT} {te : DTE} {Gd : Ow → Prop} {env : Env} {O : Ow} (f : D → Option D) (hG : Gd O) : ∀ {xs : List D} {q : List D → Ow → Prop},
    (∀ x ∈ xs, ∀ (k : DQ) (z : Ow → Prop), (∀ y o, f x = some y → SubO O o → k y o) → (∀ o, f x = none → SubO O o → z o) → g x env O fun env2 _ => tt env2 O fun b O3 => if b = true then te env2 O3 k else z O3) → q (xs.filterMap f) O → lcGo g tt te Gd xs env O q
  | [], _, _, hq => ⟨hG, hq⟩
  | x :: xs, q, hx, hq => by
    refine ⟨hG, hx x List.mem_cons_self _ _ (fun y o e sb => ⟨O, sb, ?_⟩) (fun o e sb => ⟨O, sb, ?_⟩)⟩
    · refine lcGo_fm f hG (fun x' h' => hx x' (List.mem_cons_of_mem _ h')) ?_
      rw [List.filterMap_cons_some e] at hq
      exact hq
    · refine lcGo_fm f hG (fun x' h' => hx x' (List.mem_cons_of_mem _ h')) ?_
      rw [List.filterMap_cons_none e] at hq
      exact hq
theorem lcGo_map {g : DTG} {tt : DTT} {te : DTE} {Gd : Ow → Prop} {env : Env} {O : Ow} {xs : List D} {q : List D → Ow → Prop} (f : D → D) (hG : Gd O)
    (hx : ∀ x ∈ xs, ∀ (k : DQ) (z : Ow → Prop), (∀ o, SubO O o → k (f x) o) → g x env O fun env2 _ => tt env2 O fun b O3 => if b = true then te env2 O3 k else z O3) (hq : q (xs.map f) O) : lcGo g tt te Gd xs env O q :=
  lcGo_fm (fun x => some (f x)) hG (fun x h k z h1 _ => hx x h k z fun o sb => h1 _ o rfl sb) (by rw [List.filterMap_eq_map']; exact hq)
/-! ### sorted texts -/
theorem str_antisymm {a b : Str} (h1 : a.cps.toList ≤ b.cps.toList) (h2 : b.cps.toList ≤ a.cps.toList) : a = b := by
  have e : a.cps.toList = b.cps.toList := List.le_antisymm h1 h2
  cases a; cases b
  simp only [Str.mk.injEq]
  exact Array.toList_inj.mp e
theorem srt_str (ss : List Str) : srtD (ss.map D.str) = (ss.mergeSort fun a b => decide (a.cps.toList ≤ b.cps.toList)).map D.str := by
  symm
  refine List.map_mergeSort fun a _ b _ => ?_
  have := congrFun (congrFun (PySem.W.dataLe_str (fun b : Str => b)) a) b
  rw [← this]
  rfl
theorem srt_perm {ss ts : List Str} (h : ss.Perm ts) : srtD (ss.map D.str) = srtD (ts.map D.str) := by
  rw [srt_str, srt_str]
  congr 1
  have tr : ∀ a b c : Str, decide (a.cps.toList ≤ b.cps.toList) = true → decide (b.cps.toList ≤ c.cps.toList) = true → decide (a.cps.toList ≤ c.cps.toList) = true := fun a b c h1 h2 =>
    decide_eq_true (List.le_trans (of_decide_eq_true h1) (of_decide_eq_true h2))
  have tot : ∀ a b : Str, (decide (a.cps.toList ≤ b.cps.toList) || decide (b.cps.toList ≤ a.cps.toList)) = true := fun a b => by
    rcases List.le_total a.cps.toList b.cps.toList with h | h
    · simp [h]
    · simp [h]
  have p1 := List.pairwise_mergeSort (le := fun a b : Str => decide (a.cps.toList ≤ b.cps.toList)) tr tot ss
  have p2 := List.pairwise_mergeSort (le := fun a b : Str => decide (a.cps.toList ≤ b.cps.toList)) tr tot ts
  exact List.Perm.eq_of_pairwise (fun a b _ _ h1 h2 => str_antisymm (of_decide_eq_true h1) (of_decide_eq_true h2)) p1 p2 ((List.mergeSort_perm ss _).trans (h.trans (List.mergeSort_perm ts _).symm))
def isStr : D → Bool | .str _ => true | _ => false
theorem strs_alike (ss : List Str) : PySem.W.AllAlike ((ss.map D.str).map py) := by
  intro d hd e he
  simp only [List.map_map, List.mem_map, Function.comp] at hd he
  obtain ⟨a, _, rfl⟩ := hd
  obtain ⟨b, _, rfl⟩ := he
  simp [py, PySem.W.alike]
theorem strs_sortable (ss : List Str) : PySem.W.Sortable ((ss.map D.str).map py) := by
  refine .inr fun d hd => ?_
  simp only [List.map_map, List.mem_map, Function.comp] at hd
  obtain ⟨a, _, rfl⟩ := hd
  simp [py]
theorem strs_pds : ∀ ss : List Str, pds (ss.map D.str) = true
  | [] => by simp [pds]
  | s :: ss => by simp [pds, pd, strs_pds ss]
theorem i_sortS {O : Ow} {q : DQ} {ss : List Str} (h : q (.lst (srtD (ss.map D.str))) O) : dSorted [.lst (ss.map D.str)] O q :=
  ⟨_, rfl, strs_pds ss, strs_alike ss, strs_sortable ss, fun e he => by
    simp only [List.mem_map] at he
    obtain ⟨a, _, rfl⟩ := he
    simp [py, PyData.depth], h⟩
theorem powW {i j : Int} {m : Nat} (hi : i.natAbs < 2 ^ m) (hm : 0 < m) (h0 : 0 ≤ j) (h : ((m : Int) + 1) * j ≤ 2 ^ 27) : CPowW i j := by
  refine ⟨h0, Int.le_trans (Int.mul_le_mul_of_nonneg_right ?_ h0) h⟩
  have h1 : i.natAbs.log2 < m := PySem.Flt.log2_lt_of hm hi
  have h2 : Builtin.Int.intBits i ≤ i.natAbs.log2 + 1 := by
    unfold Builtin.Int.intBits
    split <;> omega
  omega
/-- a source of draws: digits, a mixed number, how often it was mixed -/
def Bag (O : Ow) (p : Addr) (m : Int) : Prop := ∃ a b c : Int, O p = some (.lst [.int a, .int b, .int c]) ∧ 0 ≤ b ∧ b < 2 ^ 90 ∧ 0 ≤ c ∧ c ≤ m
theorem Bag.mono {O : Ow} {p : Addr} {m m' : Int} (h : Bag O p m) (hm : m ≤ m') : Bag O p m' := by
  obtain ⟨a, b, c, e, h1, h2, h3, h4⟩ := h
  exact ⟨a, b, c, e, h1, h2, h3, Int.le_trans h4 hm⟩
theorem Bag.other {O : Ow} {p r : Addr} {m : Int} {o : OD} (h : Bag O p m) (hr : O r = none) : Bag (setO O r o) p m := by
  obtain ⟨a, b, c, e, h1⟩ := h
  refine ⟨a, b, c, ?_, h1⟩
  have : p ≠ r := fun z => by rw [z, hr] at e; cases e
  rw [setO_ne this]; exact e
/-- a number from 0 to n - 1 is drawn; nothing else changes -/
def f_take : DF := fun ds O q _ => ∃ p n m, ds = [.ref p, .int n] ∧ Bag O p m ∧ m < 2 ^ 40 ∧ 0 < n ∧ n < 2 ^ 30 ∧ ∀ r o, 0 ≤ r → r < n → Bag (setO O p o) p (m + 1) → q (.int r) (setO O p o)
/-- a new bag of a cell of the script -/
def f_bag : DF := fun ds O q _ => ∃ (ns : List Int) (at_ : Int), ds = [.lst (ns.map D.int), .int at_] ∧ 0 ≤ at_ ∧ at_ < 1000 ∧ ∀ p o, O p = none → Bag (setO O p o) p 0 → q (.ref p) (setO O p o)
end DL

set_option linter.all false
namespace DL
open PySem PySem.Spec PyProof.Rows L2
/-! ### repr and sorted reprs -/
def shw (d : D) : Str := (py d).shown
def shwOk (d : D) : Bool := pd d && (py d).showable && decide ((py d).depth ≤ 64) && decide ((py d).shown.length ≤ 16777216) && (PyData.str (shw d)).canLay0
theorem shw_lay {d : D} (h : shwOk d = true) : (PyData.str (shw d)).canLay0 = true := (Bool.and_eq_true_iff.mp h).2
theorem i_repr {O : Ow} {q : DQ} {d : D} (h : shwOk d = true) (hq : q (.str (shw d)) O) : dRepr [d] O q := by
  simp only [shwOk, Bool.and_eq_true, decide_eq_true_eq] at h
  exact ⟨py d, asP_pd h.1.1.1.1, h.1.1.1.2, h.1.1.2, by rw [sizeLine_eq]; exact h.1.2, hq⟩
theorem i_reprO {O : Ow} {q : DQ} {p : Addr} {ds : List D} (hp : O p = some (.lst ds)) (h : shwOk (.lst ds) = true) (hq : q (.str (shw (.lst ds))) O) : dRepr [.ref p] O q := by
  simp only [shwOk, Bool.and_eq_true, decide_eq_true_eq] at h
  have e : pds ds = true := by simpa [pd] using h.1.1.1.1
  have e2 : py (.lst ds) = .list (pys ds) := by simp [py]
  refine ⟨.list (pys ds), by simp [asP, hp, e], by rw [← e2]; exact h.1.1.1.2, by rw [← e2]; exact h.1.1.2, by rw [sizeLine_eq, ← e2]; exact h.1.2, ?_⟩
  rw [← e2]
  exact hq
theorem strs_lay : ∀ {ss : List Str}, (∀ s ∈ ss, (PyData.str s).canLay0 = true) → PyData.canLayAll0 (pys (ss.map D.str)) = true ∧ PyData.depthAll (pys (ss.map D.str)) = 0
  | [], _ => by simp [pys, PyData.canLayAll0, PyData.depthAll]
  | s :: ss, h => by
    obtain ⟨h1, h2⟩ := strs_lay fun s' hs => h s' (List.mem_cons_of_mem _ hs)
    have h3 := h s List.mem_cons_self
    simp only [List.map_cons, pys, py, PyData.canLayAll0, PyData.depthAll, PyData.depth, h1, h2, h3]
    exact ⟨rfl, rfl⟩
theorem strs_shaped {ss : List Str} (h : ∀ s ∈ ss, (PyData.str s).canLay0 = true) : SeqAt.shaped (py (.lst (ss.map D.str))) = true := by
  obtain ⟨h1, h2⟩ := strs_lay h
  simp only [SeqAt.shaped, py, PyData.canLay0, PyData.depth, h1, h2]
  decide
theorem eqvAll_strs : ∀ ss : List Str, PyData.eqvAll (pys (ss.map D.str)) (pys (ss.map D.str)) = true
  | [] => by simp [pys, PyData.eqvAll]
  | s :: ss => by simp [pys, py, PyData.eqvAll, PyData.eqv, eqvAll_strs ss]
/-- two sorted texts of the same reprs: told apart they are not -/
theorem i_neSorted {O : Ow} {q : DQ} {xs ys : List D} (h : (xs.map shw).isPerm (ys.map shw) = true) (h1 : ∀ x ∈ xs, shwOk x = true) (hq : q (.bl false) O) :
    dNe (.lst (srtD ((xs.map shw).map D.str))) (.lst (srtD ((ys.map shw).map D.str))) O q := by
  have pm := List.isPerm_iff.mp h
  rw [← srt_perm pm, srt_str]
  generalize hz : ((xs.map shw).mergeSort fun a b => decide (a.cps.toList ≤ b.cps.toList)) = zs
  have hm : ∀ s ∈ zs, (PyData.str s).canLay0 = true := fun s hs => by
    rw [← hz, List.mem_mergeSort, List.mem_map] at hs
    obtain ⟨d, hd, rfl⟩ := hs
    exact shw_lay (h1 d hd)
  have hp : pd (.lst (zs.map D.str)) = true := by simp [pd, strs_pds]
  refine ⟨_, _, asP_pd hp, asP_pd hp, strs_shaped hm, strs_shaped hm, ?_⟩
  have : PyData.eqv (py (.lst (zs.map D.str))) (py (.lst (zs.map D.str))) = true := by
    simp only [py, PyData.eqv]
    exact eqvAll_strs zs
  rw [this]
  exact hq
theorem i_neStr {O : Ow} {q : DQ} {a b : Str} (h : a = b) (ha : (PyData.str a).canLay0 = true) (hq : q (.bl false) O) : dNe (.str a) (.str b) O q := by
  subst h
  refine ⟨_, _, asP_pd (by simp [pd]), asP_pd (by simp [pd]), ?_, ?_, ?_⟩
  · simp only [SeqAt.shaped, py, PyData.depth, ha]; decide
  · simp only [SeqAt.shaped, py, PyData.depth, ha]; decide
  · have : PyData.eqv (py (.str a)) (py (.str a)) = true := by simp [py, PyData.eqv]
    rw [this]
    exact hq
/-- [repr(x) for x in xs] -/
theorem lcGo_reprs {i : Nat} {Gd : Ow → Prop} {env : Env} {O : Ow} {xs : List D} {q : List D → Ow → Prop} (hG : Gd O) (hi : i < env.length) (h1 : ∀ x ∈ xs, shwOk x = true)
    (hq : q ((xs.map shw).map D.str) O) : lcGo (dgName i) dYes (dCB dRepr (dCons (dVar i) dNil)) Gd xs env O q := by
  refine lcGo_map (fun d => .str (shw d)) hG (fun x hx k z hk => ?_) ?_
  · have e : (env.set i (some x))[i]? = some (some x) := by rw [List.getElem?_set_self hi]
    refine i_gname (i_yes ?_)
    rw [if_pos rfl]
    refine i_cb (i_cons (i_var (d := x) ?_ (i_nil (i_repr (h1 x hx) (hk _ (.refl _))))))
    simp [e]
  · rw [List.map_map] at hq
    exact hq
end DL

set_option Elab.async false
set_option linter.all false
set_option maxRecDepth 100000
set_option maxHeartbeats 4000000
namespace DL
open PySem PySem.Spec PyProof.Rows L2
/-- a def of no default, as the head tells it -/
abbrev FD (K : PySem.W.Frag) (x : Str) (st : Stmt) (f : Addr) (fd : FuncData) : Prop := FunD K x x (defArgs st) (defBody st) (defScope st) [] [] f fd
theorem walk_GE {l : PySem.W.OpenLaw} {n k : Nat} {q : Program} {loose : List Str} {XP : (Str → Option Value) → Heap → Prop} {YP : World → Heap → Prop} {d : DefRec} {x : Str} {fn : DF}
    (hn : l.most = some n) (hn2 : n ≤ sizeLine) (hdf : d.params.defaults = []) (hr : Room k callerA)
    (F : ∀ (w : World) (mg : Str → Option Value) (fa : Addr) (h : Heap), YP w h → h.Ns mainGlobals mg → mg d.name = some (.ref fa) →
      ∃ (K : PySem.W.Frag) (fd : FuncData), K.In h ∧ (∀ (s : Shared) (u : Value), BindsTo s fd ⟨[u], []⟩ [(x, u)]) ∧ ∀ base : Heap, K.In base → base.Ns mainGlobals mg → FnG l.prog w K mg base (L2.CX l.prog w) k fa fd [x] (spD K 1 fn))
    (hfn : ∀ ns : List Int, ns.length ≤ n → (∀ k ∈ ns, Builtin.Int.intBits k ≤ 1048576) → fn [.lst (ns.map D.int)] (fun _ => none) (fun d _ => d = .bl true) (fun _ _ _ => False)) :
    PySem.W.WalkO q loose XP YP l.row.toRowW d [] (fun f vs => PySem.call f vs) := by
  refine Att.attach_callB hn hdf fun w s₀ s₁ mg mb fa o pm cd doc a vs ns G Y ho hd hcd hmg hobj hints hlen hbits hg => ?_
  obtain ⟨K, fd, KX, hb, hF⟩ := F w mg fa _ Y G.T.g hmg
  exact law_G KX G.T.g G.T.b G.T.builtins G.T.nolimit hg hobj hints (Nat.le_trans hlen hn2) hr hF hb (hfn ns hlen hbits)
end DL

set_option Elab.async false
set_option linter.all false
set_option maxRecDepth 100000
set_option maxHeartbeats 4000000
namespace K21
open PySem PySem.Spec PyProof.Rows L2 DL
local macro_rules | `(tactic| walk_at "d1") => `(tactic| first | ((with_reducible apply i_var); exact rfl) | ((with_reducible apply i_gtup); exact rfl) | ((with_reducible apply i_augI); exact rfl) | ((with_reducible apply i_ixT); exact rfl) | ((with_reducible apply i_ixL); exact rfl) | with_reducible refine i_seq ?_ | with_reducible refine i_asg ?_ | with_reducible refine i_gname ?_ | with_reducible refine i_c ?_ | with_reducible refine i_op ?_ | with_reducible refine i_cb ?_ | with_reducible refine i_cons ?_ | with_reducible refine i_nil ?_ | with_reducible refine i_expr ?_ | with_reducible refine i_ret ?_ | with_reducible refine i_retN ?_ | with_reducible refine i_next ?_ | with_reducible refine i_for ?_ | with_reducible refine i_par ?_ | with_reducible refine i_test ?_ | with_reducible refine i_tup ?_ | with_reducible refine i_lst ?_ | with_reducible refine i_lstO ?_ | with_reducible refine i_break ?_ | with_reducible refine i_cont ?_ | with_reducible refine i_gnil ?_ | with_reducible refine i_gcons ?_ | with_reducible refine i_tru ?_ | with_reducible refine i_and ?_ | with_reducible refine i_or ?_ | with_reducible refine i_not ?_ | with_reducible refine i_andV ?_ | with_reducible refine i_orV ?_ | with_reducible refine i_notV ?_ | with_reducible refine i_neg ?_ | with_reducible refine i_chain ?_ | with_reducible refine i_call ?_ | with_reducible refine i_callK ?_ | with_reducible refine i_append ?_ | with_reducible refine i_gsub ?_ | with_reducible refine i_sl ?_ | with_reducible refine i_slT ?_ | with_reducible refine i_slL ?_ | with_reducible refine i_oN ?_ | with_reducible refine i_oS ?_ | with_reducible refine i_lc ?_ | with_reducible refine i_lcO ?_ | with_reducible refine i_yes ?_ | with_reducible refine i_listRg1 ?_ | with_reducible refine i_rg1 ?_ | with_reducible refine i_rg2 ?_ | with_reducible refine i_seqI ?_ | with_reducible refine i_seqT ?_ | with_reducible refine i_seqL ?_ | with_reducible refine i_lt ?_ | with_reducible refine i_le ?_ | with_reducible refine i_gt ?_ | with_reducible refine i_ge ?_ | with_reducible refine i_sub ?_ | with_reducible refine i_addI ?_ | with_reducible refine i_int ?_ | with_reducible refine i_intb ?_ | with_reducible refine i_abs ?_ | with_reducible refine i_min2 ?_ | with_reducible refine i_max2 ?_ | with_reducible refine i_isN ?_ | with_reducible refine i_notN ?_ | with_reducible refine i_lenL ?_ | with_reducible refine i_lenT ?_ | ((with_reducible apply i_ixO); (focus (first | assumption | exact setO_same | (rw [setO_ne (by assumption)]; first | assumption | exact setO_same))); exact rfl) | ((with_reducible apply i_lenO); (focus (first | assumption | exact setO_same | (rw [setO_ne (by assumption)]; first | assumption | exact setO_same)))) | ((with_reducible apply i_appK); (focus (first | assumption | exact setO_same | (rw [setO_ne (by assumption)]; first | assumption | exact setO_same)))) | ((with_reducible apply i_subK); (focus (first | assumption | exact setO_same | (rw [setO_ne (by assumption)]; first | assumption | exact setO_same))); exact rfl) | ((with_reducible apply i_slO); (focus (first | assumption | exact setO_same | (rw [setO_ne (by assumption)]; first | assumption | exact setO_same)))) | ((with_reducible apply i_seqO); (focus (first | assumption | exact setO_same | (rw [setO_ne (by assumption)]; first | assumption | exact setO_same)))) | ((with_reducible apply i_appK2); (focus (first | assumption | exact setO_same | (rw [setO_ne (by assumption)]; first | assumption | exact setO_same)))))
local macro_rules | `(tactic| walk_at "dl") => `(tactic| repeat (walk_at "d1"))
local macro_rules | `(tactic| walk_at "dw") => `(tactic| repeat (first | with_reducible refine i_if ?_ | with_reducible refine i_ifE ?_ | walk_at "d1"))

def top (i : Nat) : Stmt := PySem.Challenge.pw_strongbit_k21_starts.main.body.getD i (.Pass ⟨0, 0, 0, 0⟩)
structure Txt (mg : Str → Option Value) : Prop where
  b_range : mg "range" = none
  b_list : mg "list" = none
  b_min : mg "min" = none
  b_max : mg "max" = none
  b_len : mg "len" = none
  b_abs : mg "abs" = none
  b_int : mg "int" = none
  b_sorted : mg "sorted" = none
  b_repr : mg "repr" = none
section
variable {P : Program} {w : World} {K : Frag} {mg : Str → Option Value} {base : Heap}
abbrev s_law_take : Stmt := top 4
abbrev N_law_take : List Str := ["_law_bag_here", "_law_many", "_law_digit", "_law_mixed"]
abbrev P_law_take : List Str := ["_law_bag_here", "_law_many"]
theorem sc_law_take : FnScope N_law_take P_law_take (defScope s_law_take) := ⟨rfl, rfl, rfl, by decide +kernel, rfl, by decide +kernel, by decide +kernel⟩

theorem ok_take {f : Addr} {fd : FuncData} (F : FD K "_law_take" s_law_take f fd) (T : Txt mg) : FnG P w K mg base (L2.CX P w) 1 f fd P_law_take (spD K 2 f_take) := by
  have sc := sc_law_take
  refine fn_DD (k := 0) F sc rfl fun cdv A outer s H E O0 H0 F0 ds O q xx hl hf S => ⟨_,
    (ds_cons (ds_if (st_gt S (so_ix S (de_var (pv 0)) de_int (fun _ _ => rfl)) de_int)
       (ds_cons (ds_set (ps_set (i := 2) sc.nd rfl (by first | exact Or.inl rfl | exact Or.inr rfl) (so_mod S (so_int S rfl T.b_int (da_cons (so_ix S (de_var (pv 0)) de_int (fun _ _ => rfl)) da_nil)) (de_var (pv 1)))))
       (ds_cons (ds_asg (ps_asg (so_fdiv S (so_ix S (de_var (pv 0)) de_int (fun _ _ => rfl)) (de_var (pv 1))) (dg_sub (pg_sub (de_var (pv 0)) de_int set_list))))
       (ds_one (ds_ret (de_var (pv 2))))))
       ds_nil)
      (ds_cons (ds_asg (ps_asg (so_add S (so_ix S (de_var (pv 0)) de_int (fun _ _ => rfl)) de_int) (dg_sub (pg_sub (de_var (pv 0)) de_int set_list))))
      (ds_cons (ds_asg (ps_asg (so_mod S (so_int S rfl T.b_int (da_cons (so_add S (so_add S (so_mul S (so_ix S (de_var (pv 0)) de_int (fun _ _ => rfl)) de_int) (so_mul S (so_mul S de_int (so_ix S (de_var (pv 0)) de_int (fun _ _ => rfl))) (so_ix S (de_var (pv 0)) de_int (fun _ _ => rfl)))) de_int) da_nil)) de_int) (dg_sub (pg_sub (de_var (pv 0)) de_int set_list))))
      (ds_cons (ds_set (ps_set (i := 3) sc.nd rfl (by first | exact Or.inl rfl | exact Or.inr rfl) (so_mod S (so_int S rfl T.b_int (da_cons (so_add S (so_pow S (so_fdiv S (so_ix S (de_var (pv 0)) de_int (fun _ _ => rfl)) de_int) de_int) (so_mul S de_int (so_ix S (de_var (pv 0)) de_int (fun _ _ => rfl)))) da_nil)) de_int)))
      (ds_one (ds_ret (so_mod S (so_int S rfl T.b_int (da_cons (so_fdiv S (de_var (pv 3)) de_int) da_nil)) (de_var (pv 1)))))))))
    , ?_⟩
  obtain ⟨p, n, m, rfl, ⟨a, b, c, hp, h2, h3, h4, h5⟩, h6, h0, h1, hq⟩ := hf
  walk_at "dw"
  refine if_d (fun ha => ?_) (fun ha => ?_)
  · walk_at "dl"
    refine i_mod h0 ?_
    walk_at "dl"
    refine i_fdiv ⟨h0, by omega⟩ ?_
    walk_at "dl"
    exact rt_same (hq _ _ (Int.emod_nonneg _ (by omega)) (Int.emod_lt_of_pos _ h0) ⟨_, _, _, setO_same, h2, h3, h4, by omega⟩)
  · walk_at "dl"
    refine i_mulI (.inr (by omega)) ?_
    walk_at "dl"
    refine i_mulI (.inl (by omega)) ?_
    walk_at "dl"
    refine i_mulI (.inr (by omega)) ?_
    walk_at "dl"
    refine i_mod (by decide) ?_
    have hb1 : 0 ≤ (b * 48271 + 3877 * (c + 1) * (c + 1) + 17) % 2147483647 := Int.emod_nonneg _ (by decide)
    have hb2 : (b * 48271 + 3877 * (c + 1) * (c + 1) + 17) % 2147483647 < 2147483647 := Int.emod_lt_of_pos _ (by decide)
    walk_at "dl"
    refine i_fdiv ⟨by decide, by decide⟩ ?_
    walk_at "dl"
    refine i_pow (powW (m := 40) (by omega) (by decide) (by decide) (by decide)) ?_
    walk_at "dl"
    refine i_mulI (.inl (by omega)) ?_
    walk_at "dl"
    refine i_mod (by decide) ?_
    walk_at "dl"
    refine i_fdiv ⟨by decide, by decide⟩ ?_
    walk_at "dl"
    refine i_mod h0 ?_
    rw [setO_setO]
    exact rt_same (hq _ _ (Int.emod_nonneg _ (by omega)) (Int.emod_lt_of_pos _ h0) ⟨_, _, _, setO_same, hb1, by omega, by omega, by omega⟩)
abbrev s_law_bag : Stmt := top 3
abbrev N_law_bag : List Str := ["_law_script", "_law_at", "_law_cell", "_law_digits"]
abbrev P_law_bag : List Str := ["_law_script", "_law_at"]
theorem sc_law_bag : FnScope N_law_bag P_law_bag (defScope s_law_bag) := ⟨rfl, rfl, rfl, by decide +kernel, rfl, by decide +kernel, by decide +kernel⟩

theorem atI_ok {ns : List Int} {i : Int} (h0 : 0 ≤ i) (h : i < ((ns.map D.int).length : Int)) : ∃ n, atI (ns.map D.int) i = some (.int n) := by
  have hl : i.toNat < ns.length := by simp at h; omega
  refine ⟨ns[i.toNat], ?_⟩
  have := atI_nat (xs := ns.map D.int) (j := i.toNat) (v := .int ns[i.toNat]) (by simp [hl])
  rw [Int.toNat_of_nonneg h0] at this
  exact this
theorem ok_bag {f : Addr} {fd : FuncData} (F : FD K "_law_bag" s_law_bag f fd) (T : Txt mg) : FnG P w K mg base (L2.CX P w) 1 f fd P_law_bag (spD K 2 f_bag) := by
  have sc := sc_law_bag
  refine fn_DD (k := 0) F sc rfl fun cdv A outer s H E O0 H0 F0 ds O q xx hl hf S => ⟨_,
    (ds_cons (ds_set (ps_set (i := 2) sc.nd rfl (by first | exact Or.inl rfl | exact Or.inr rfl) (de_if (st_lt S (de_var (pv 1)) (so_len S rfl T.b_len (da_cons (de_var (pv 0)) da_nil))) (so_ix S (de_var (pv 0)) (de_var (pv 1)) (fun _ _ => rfl)) de_int)))
      (ds_cons (ds_set (ps_set (i := 3) sc.nd rfl (by first | exact Or.inl rfl | exact Or.inr rfl) (de_if (st_ge S (so_abs S rfl T.b_abs (da_cons (de_var (pv 2)) da_nil)) (so_pow S de_int de_int)) (so_abs S rfl T.b_abs (da_cons (de_var (pv 2)) da_nil)) de_int)))
      (ds_one (ds_ret (de_lstO (da_cons (de_var (pv 3)) (da_cons (so_mod S (so_int S rfl T.b_int (da_cons (so_add S (so_add S (so_add S (so_mul S (de_var (pv 2)) de_int) (so_mul S (so_mul S de_int (de_var (pv 1))) (de_var (pv 1)))) (so_mul S de_int (de_var (pv 1)))) de_int) da_nil)) de_int) (da_cons de_int da_nil))))))))
    , ?_⟩
  obtain ⟨ns, at_, rfl, h0, h1, hq⟩ := hf
  walk_at "dl"
  refine join (fun d => ∃ c : Int, d = .int c) ?_ fun q' hq' => ?_
  case refine_2 =>
    walk_at "dw"
    refine if_d (fun ha => ?_) (fun ha => ?_)
    · obtain ⟨c, e⟩ := atI_ok h0 ha
      walk_at "dl"
      exact i_ixL e (hq' _ ⟨_, rfl⟩)
    · walk_at "dl"
      exact hq' _ ⟨_, rfl⟩
  rintro _ ⟨cell, rfl⟩
  walk_at "dl"
  refine join (fun d => ∃ c : Int, d = .int c) ?_ fun q' hq' => ?_
  case refine_2 =>
    walk_at "dw"
    refine i_pow (powW (m := 40) (by decide) (by decide) (by decide) (by decide)) ?_
    walk_at "dl"
    refine if_d (fun ha => ?_) (fun ha => ?_)
    · walk_at "dl"
      exact hq' _ ⟨_, rfl⟩
    · walk_at "dl"
      exact hq' _ ⟨_, rfl⟩
  rintro _ ⟨dig, rfl⟩
  walk_at "dl"
  refine i_mulI (.inr (by omega)) ?_
  walk_at "dl"
  refine i_mulI (.inl (by omega)) ?_
  walk_at "dl"
  refine i_mulI (.inr (by omega)) ?_
  walk_at "dl"
  refine i_mulI (.inl (by omega)) ?_
  walk_at "dl"
  refine i_mod (by decide) ?_
  walk_at "dl"
  refine ⟨len_ok (by simp), fun p hp => rt_same (hq p _ hp ⟨_, _, _, setO_same, Int.emod_nonneg _ (by decide), Int.lt_of_lt_of_le (Int.emod_lt_of_pos _ (by decide)) (by decide), by decide, by decide⟩)⟩

/-! ### starts -/
def zs (lo hi : Int) : List Int := (List.range (hi - lo).toNat).map fun (k : Nat) => lo + (k : Int)
theorem rgD_zs (lo hi : Int) : rgD lo hi = (zs lo hi).map D.int := by
  unfold rgD zs
  rw [List.map_map]; rfl
def ones (b : Int) : List D := (List.replicate b.toNat [D.int 1]).flatten
def rowD (left b many : Int) : D := .tup [.int left, .int 0, if 0 < many then .int 0 else .non, .int many, .tup (ones b)]
def numsD (w b : Int) : Option Int → List Int
  | none => zs 0 (w - b + 2)
  | some h => if b ≤ h then [if w - b + 1 < h - b then w - b + 1 else h - b] else []
def rowsD (left b many : Int) : List D := if 0 < b + many then [rowD left b many] else []
def startsL (w : Int) (h : Option Int) : List D := (zs 0 (w + 1)).flatMap fun b => (numsD w b h).flatMap fun m => rowsD (w - b) b m
@[reducible] def optD : Option Int → D | none => .non | some h => .int h
def f_starts : DF := fun ds O q _ => ∃ w h, ds = [.int w, optD h] ∧ 0 ≤ w ∧ w ≤ 3 ∧ (∀ x, h = some x → 0 ≤ x ∧ x ≤ 19) ∧ ∀ p, O p = none → q (.ref p) (setO O p (.lst (startsL w h)))
theorem take_fm {α β : Type} (f : α → List β) (l : List α) (i : Nat) (x : α) (h : l[i]? = some x) : (l.take (i + 1)).flatMap f = (l.take i).flatMap f ++ f x := by
  rw [List.take_add_one, h]
  simp
theorem zs_mem {lo hi x : Int} (h : x ∈ zs lo hi) : lo ≤ x ∧ x < hi := by
  unfold zs at h
  simp only [List.mem_map, List.mem_range] at h
  obtain ⟨k, hk, rfl⟩ := h
  omega
theorem zs_len (lo hi : Int) : (zs lo hi).length = (hi - lo).toNat := by simp [zs]
theorem rows_len (left b many : Int) : (rowsD left b many).length ≤ 1 := by unfold rowsD; split <;> simp
theorem fm_len {α : Type} (f : α → List D) (k : Nat) (h : ∀ x, (f x).length ≤ k) : ∀ l : List α, (l.flatMap f).length ≤ k * l.length
  | [] => by simp
  | x :: l => by
    rw [List.flatMap_cons, List.length_append, List.length_cons]
    have := fm_len f k h l
    have := h x
    rw [Nat.mul_add]; omega
abbrev s_starts : Stmt := top 1
abbrev N_starts : List Str := ["wrong", "hearers", "found", "bodies", "left", "numbers", "many"]
abbrev P_starts : List Str := ["wrong", "hearers"]
theorem sc_starts : FnScope N_starts P_starts (defScope s_starts) := ⟨rfl, rfl, rfl, by decide +kernel, rfl, by decide +kernel, by decide +kernel⟩

theorem ok_starts {dvs : List V} {kws : List (Str × V)} {f : Addr} {fd : FuncData} (F : FunD K "starts" "starts" (defArgs s_starts) (defBody s_starts) (defScope s_starts) dvs kws f fd) (T : Txt mg) : FnG P w K mg base (L2.CX P w) 1 f fd P_starts (spD K 2 f_starts) := by
  have sc := sc_starts
  refine fn_DD (k := 0) F sc rfl fun cdv A outer s H E O0 H0 F0 ds O q xx hl hf S => ⟨_,
    (ds_cons (ds_set (ps_set (i := 2) sc.nd rfl (by first | exact Or.inl rfl | exact Or.inr rfl) (de_lstO da_nil)))
      (ds_cons (ds_for (ps_for S.po rfl (di_range1 rfl T.b_range (da_cons (so_add S (de_var (pv 0)) de_int) da_nil)) (dg_name (pg_name (i := 3) sc.nd rfl (by first | exact Or.inl rfl | exact Or.inr rfl)))
       (ds_cons (ds_set (ps_set (i := 4) sc.nd rfl (by first | exact Or.inl rfl | exact Or.inr rfl) (so_sub S (de_var (pv 0)) (de_var (pv 3)))))
       (ds_cons (ds_set (ps_set (i := 5) sc.nd rfl (by first | exact Or.inl rfl | exact Or.inr rfl) (so_listRg1 S rfl rfl T.b_list rfl T.b_range (so_add S (de_var (pv 4)) de_int))))
       (ds_cons (ds_if (st_isnot S (de_var (pv 1)) de_non)
        (ds_one (ds_set (ps_set (i := 5) sc.nd rfl (by first | exact Or.inl rfl | exact Or.inr rfl) (de_if (st_le S (de_var (pv 3)) (de_var (pv 1))) (de_lst (da_cons (so_min2 S rfl rfl T.b_min (da_cons (so_sub S (de_var (pv 1)) (de_var (pv 3))) (da_cons (so_add S (de_var (pv 4)) de_int) da_nil))) da_nil)) (de_lst da_nil)))))
        ds_nil)
       (ds_one (ds_for (ps_for S.po rfl (di_seq S (de_var (pv 5))) (dg_name (pg_name (i := 6) sc.nd rfl (by first | exact Or.inl rfl | exact Or.inr rfl)))
        (ds_one (ds_if (st_gt S (so_add S (de_var (pv 3)) (de_var (pv 6))) de_int)
         (ds_one (ds_expr (so_append S (de_var (pv 2)) (da_cons (de_tup (da_cons (de_var (pv 4)) (da_cons de_int (da_cons (de_if (st_gt S (de_var (pv 6)) de_int) de_int de_non) (da_cons (de_var (pv 6)) (da_cons (so_mul S (de_tup (da_cons de_int da_nil)) (de_var (pv 3))) da_nil)))))) da_nil))))
         ds_nil))))))))))
      (ds_one (ds_ret (de_var (pv 2))))))
    , ?_⟩
  obtain ⟨w, h, rfl, h0, h1, hh, hq⟩ := hf
  walk_at "dl"
  refine ⟨len_ok (by simp), fun p hp => ?_⟩
  walk_at "dl"
  refine ⟨⟨by omega, by omega⟩, ?_⟩
  rw [rgD_zs]
  refine forGo_inv (fun i env O' => i ≤ (zs 0 (w + 1)).length ∧ ∃ x3 x4 x5 x6, env = [some (.int w), some (optD h), some (.ref p), x3, x4, x5, x6] ∧ O' = setO O p (.lst (((zs 0 (w + 1)).take i).flatMap fun b => (numsD w b h).flatMap fun m => rowsD (w - b) b m)))
    ⟨Nat.zero_le _, none, none, none, none, rfl, rfl⟩ (fun _ _ _ _ _ => trivial) ?_ ?_
  · rintro N i x env O' hx ⟨hi, x3, x4, x5, x6, rfl, rfl⟩ hN
    obtain ⟨b, hb, rfl⟩ : ∃ b, (zs 0 (w + 1))[i]? = some b ∧ x = .int b := by
      rw [List.getElem?_map] at hx
      cases e : (zs 0 (w + 1))[i]? with
      | none => rw [e] at hx; cases hx
      | some b => rw [e] at hx; exact ⟨b, rfl, (Option.some.inj hx).symm⟩
    obtain ⟨hb0, hb1⟩ := zs_mem (List.mem_of_getElem? hb)
    have hlen : (((zs 0 (w + 1)).take i).flatMap fun b => (numsD w b h).flatMap fun m => rowsD (w - b) b m).length ≤ 1000 := by
      have hn : ∀ b' ∈ (zs 0 (w + 1)).take i, (numsD w b' h).length ≤ 5 := fun b' hb' => by
        obtain ⟨z0, z1⟩ := zs_mem (List.mem_of_mem_take hb')
        unfold numsD
        split
        · rw [zs_len]; omega
        · split <;> simp
      have h2 : ∀ l : List Int, (∀ b' ∈ l, (numsD w b' h).length ≤ 5) → (l.flatMap fun b => (numsD w b h).flatMap fun m => rowsD (w - b) b m).length ≤ 5 * l.length := by
        intro l
        induction l with
        | nil => intro _; simp
        | cons y l ih =>
          intro hy
          rw [List.flatMap_cons, List.length_append, List.length_cons]
          have a1 := ih fun b' hb' => hy b' (List.mem_cons_of_mem _ hb')
          have a2 := fm_len (fun m => rowsD (w - y) y m) 1 (rows_len _ _) (numsD w y h)
          have a3 := hy y List.mem_cons_self
          omega
      have h3 := h2 _ hn
      have h4 : ((zs 0 (w + 1)).take i).length ≤ 4 := by rw [List.length_take, zs_len]; omega
      omega
    generalize hacc : (((zs 0 (w + 1)).take i).flatMap fun b => (numsD w b h).flatMap fun m => rowsD (w - b) b m) = acc at hlen ⊢
    walk_at "dl"
    refine ⟨RgOk.of_le (by omega) (by omega) (by omega) (by omega), ?_⟩
    walk_at "dl"
    refine joinS (fun e o => o = setO O p (.lst acc) ∧ e = [some (.int w), some (optD h), some (.ref p), some (.int b), some (.int (w - b)), some (.lst ((numsD w b h).map D.int)), x6]) ?_ fun N' hN' => ?_
    · rintro e o ⟨rfl, rfl⟩
      walk_at "dl"
      refine forGo_inv (fun j env O' => ∃ x6, env = [some (.int w), some (optD h), some (.ref p), some (.int b), some (.int (w - b)), some (.lst ((numsD w b h).map D.int)), x6] ∧ O' = setO O p (.lst (acc ++ ((numsD w b h).take j).flatMap fun m => rowsD (w - b) b m)))
        ⟨x6, rfl, by simp⟩ (fun _ _ _ _ _ => trivial) ?_ ?_
      · rintro N2 j y env O' hy ⟨y6, rfl, rfl⟩ hN2
        obtain ⟨m, hm, rfl⟩ : ∃ m, (numsD w b h)[j]? = some m ∧ y = .int m := by
          rw [List.getElem?_map] at hy
          cases e : (numsD w b h)[j]? with
          | none => rw [e] at hy; cases hy
          | some m => rw [e] at hy; exact ⟨m, rfl, (Option.some.inj hy).symm⟩
        have hst := take_fm (fun m => rowsD (w - b) b m) _ _ _ hm
        have hl2 : (acc ++ ((numsD w b h).take j).flatMap fun m => rowsD (w - b) b m).length < sizeLine := by
          have a2 := fm_len (fun m => rowsD (w - b) b m) 1 (rows_len _ _) ((numsD w b h).take j)
          have a3 : (numsD w b h).length ≤ 5 := by
            unfold numsD
            split
            · rw [zs_len]; omega
            · split <;> simp
          rw [List.length_append]
          have : ((numsD w b h).take j).length ≤ 5 := by rw [List.length_take]; omega
          have : sizeLine = 16777216 := sizeLine_eq
          omega
        walk_at "dw"
        refine if_d (fun hc => ?_) (fun hc => ?_)
        · walk_at "dl"
          refine join (fun d => d = if 0 < m then .int 0 else .non) ?_ fun q' hq' => ?_
          · rintro _ rfl
            walk_at "dl"
            refine ⟨len_ok (by simp), ?_⟩
            walk_at "dl"
            refine i_mulT (by simp) (by simp) ⟨by omega, by omega⟩ ?_
            walk_at "dl"
            refine ⟨len_ok (by simp), ?_⟩
            walk_at "dl"
            · exact hl2
            refine hN2 _ _ _ (.refl _) ⟨_, rfl, ?_⟩
            rw [setO_setO, hst, List.append_assoc]
            congr 3
            unfold rowsD
            rw [if_pos hc]
            rfl
          · walk_at "dw"
            refine if_d (fun hm => ?_) (fun hm => ?_)
            · walk_at "dl"
              exact hq' _ (by rw [if_pos hm])
            · walk_at "dl"
              exact hq' _ (by rw [if_neg hm])
        · walk_at "dl"
          refine hN2 _ _ _ (.refl _) ⟨_, rfl, ?_⟩
          rw [hst]
          congr 3
          unfold rowsD
          rw [if_neg hc, List.append_nil]
      · rintro env O' ⟨y6, rfl, rfl⟩
        refine hN _ _ _ (.refl _) ⟨?_, _, _, _, _, rfl, ?_⟩
        · have := (List.getElem?_eq_some_iff.mp hb).1
          omega
        · rw [take_fm _ _ _ _ hb, hacc, List.length_map, List.take_length]
    · walk_at "dw"
      cases h with
      | none =>
        refine iteF ?_
        walk_at "dl"
        refine hN' _ _ ⟨rfl, ?_⟩
        rw [rgD_zs]
        rfl
      | some x =>
        obtain ⟨hx0, hx1⟩ := hh x rfl
        refine iteT ?_
        walk_at "dw"
        refine if_d (fun hc => ?_) (fun hc => ?_)
        · walk_at "dl"
          refine ⟨len_ok (by simp), ?_⟩
          walk_at "dl"
          refine hN' _ _ ⟨rfl, ?_⟩
          have e : numsD w b (some x) = [if w - b + 1 < x - b then w - b + 1 else x - b] := if_pos hc
          rw [e]
          rfl
        · walk_at "dl"
          refine ⟨len_ok (by simp), ?_⟩
          walk_at "dl"
          refine hN' _ _ ⟨rfl, ?_⟩
          have e : numsD w b (some x) = [] := if_neg hc
          rw [e]
          rfl
  · rintro env O' ⟨_, x3, x4, x5, x6, rfl, rfl⟩
    walk_at "dl"
    rw [List.length_map, List.take_length]
    exact rt_same (hq p hp)

/-! ### the law's own starts -/
def lawRow (w n b : Int) : D := .tup [.int (w - b), .int 0, if 0 < n - b then .int 0 else .non, .int (if w - b + 1 < n - b then w - b + 1 else n - b), .tup (ones b)]
def lawStartsL (w n : Int) : List D := (zs 0 ((if n < w then n else w) + 1)).map (lawRow w n)
def f_lawStarts : DF := fun ds O q _ => ∃ w n, ds = [.int w, .int n] ∧ 0 ≤ w ∧ w ≤ 3 ∧ 0 ≤ n ∧ n ≤ 30 ∧ ∀ p, O p = none → q (.ref p) (setO O p (.lst (lawStartsL w n)))
theorem map_get {l : List Int} {i : Nat} {x : D} (hx : (l.map D.int)[i]? = some x) : ∃ b, l[i]? = some b ∧ x = .int b := by
  rw [List.getElem?_map] at hx
  cases e : l[i]? with
  | none => rw [e] at hx; cases hx
  | some b => rw [e] at hx; exact ⟨b, rfl, (Option.some.inj hx).symm⟩
theorem take_map {α β : Type} (f : α → β) (l : List α) (i : Nat) (x : α) (h : l[i]? = some x) : (l.take (i + 1)).map f = (l.take i).map f ++ [f x] := by
  rw [List.take_add_one, h]
  simp
abbrev s_law_starts : Stmt := top 5
abbrev N_law_starts : List Str := ["_law_many", "_law_number", "_law_found", "_law_bodies", "_law_rest", "_law_left"]
abbrev P_law_starts : List Str := ["_law_many", "_law_number"]
theorem sc_law_starts : FnScope N_law_starts P_law_starts (defScope s_law_starts) := ⟨rfl, rfl, rfl, by decide +kernel, rfl, by decide +kernel, by decide +kernel⟩

theorem ok_lawStarts {f : Addr} {fd : FuncData} (F : FD K "_law_starts" s_law_starts f fd) (T : Txt mg) : FnG P w K mg base (L2.CX P w) 1 f fd P_law_starts (spD K 2 f_lawStarts) := by
  have sc := sc_law_starts
  refine fn_DD (k := 0) F sc rfl fun cdv A outer s H E O0 H0 F0 ds O q xx hl hf S => ⟨_,
    (ds_cons (ds_set (ps_set (i := 2) sc.nd rfl (by first | exact Or.inl rfl | exact Or.inr rfl) (de_lstO da_nil)))
      (ds_cons (ds_for (ps_for S.po rfl (di_range1 rfl T.b_range (da_cons (so_add S (so_min2 S rfl rfl T.b_min (da_cons (de_var (pv 0)) (da_cons (de_var (pv 1)) da_nil))) de_int) da_nil)) (dg_name (pg_name (i := 3) sc.nd rfl (by first | exact Or.inl rfl | exact Or.inr rfl)))
       (ds_cons (ds_par (ps_par (i := 4) (j := 5) rfl sc.nd rfl rfl (by decide) rfl rfl (da_cons (so_sub S (de_var (pv 1)) (de_var (pv 3))) (da_cons (so_sub S (de_var (pv 0)) (de_var (pv 3))) da_nil)) (by rfl)))
       (ds_one (ds_expr (so_append S (de_var (pv 2)) (da_cons (de_tup (da_cons (de_var (pv 5)) (da_cons de_int (da_cons (de_if (st_gt S (de_var (pv 4)) de_int) de_int de_non) (da_cons (so_min2 S rfl rfl T.b_min (da_cons (de_var (pv 4)) (da_cons (so_add S (de_var (pv 5)) de_int) da_nil))) (da_cons (so_mul S (de_tup (da_cons de_int da_nil)) (de_var (pv 3))) da_nil)))))) da_nil)))))))
      (ds_one (ds_ret (de_var (pv 2))))))
    , ?_⟩
  obtain ⟨w, n, rfl, h0, h1, h2, h3, hq⟩ := hf
  walk_at "dl"
  refine ⟨len_ok (by simp), fun p hp => ?_⟩
  walk_at "dl"
  refine ⟨⟨by split <;> omega, by split <;> omega⟩, ?_⟩
  rw [rgD_zs]
  unfold lawStartsL at hq
  generalize hm : (if n < w then n else w) = m at hq ⊢
  have hm3 : 0 ≤ m ∧ m ≤ w ∧ m ≤ n := by subst hm; split <;> omega
  refine forGo_inv (fun i env O' => ∃ x3 x4 x5, env = [some (.int w), some (.int n), some (.ref p), x3, x4, x5] ∧ O' = setO O p (.lst (((zs 0 (m + 1)).take i).map (lawRow w n))))
    ⟨none, none, none, rfl, rfl⟩ (fun _ _ _ _ _ => trivial) ?_ ?_
  · rintro N i x env O' hx ⟨x3, x4, x5, rfl, rfl⟩ hN
    obtain ⟨b, hb, rfl⟩ := map_get hx
    obtain ⟨hb0, hb1⟩ := zs_mem (List.mem_of_getElem? hb)
    have hst := take_map (lawRow w n) _ _ _ hb
    have hl2 : (((zs 0 (m + 1)).take i).map (lawRow w n)).length < sizeLine := by
      rw [List.length_map, List.length_take, zs_len]
      have : sizeLine = 16777216 := sizeLine_eq
      omega
    walk_at "dl"
    refine join (fun d => d = if 0 < n - b then .int 0 else .non) ?_ fun q' hq' => ?_
    · rintro _ rfl
      walk_at "dl"
      refine ⟨len_ok (by simp), ?_⟩
      walk_at "dl"
      refine i_mulT (by simp) (by simp) ⟨by omega, by omega⟩ ?_
      walk_at "dl"
      refine ⟨len_ok (by simp), ?_⟩
      walk_at "dl"
      · exact hl2
      refine hN _ _ _ (.refl _) ⟨_, _, _, rfl, ?_⟩
      rw [setO_setO, hst]
      rfl
    · walk_at "dw"
      refine if_d (fun hm => ?_) (fun hm => ?_)
      · walk_at "dl"
        exact hq' _ (by rw [if_pos hm])
      · walk_at "dl"
        exact hq' _ (by rw [if_neg hm])
  · rintro env O' ⟨x3, x4, x5, rfl, rfl⟩
    walk_at "dl"
    rw [List.length_map, List.take_length]
    exact rt_same (hq p hp)
/-! ### the law's starts for any number -/
def newIn (acc : List D) (d : D) : Option D := if (pys acc).any (fun z => PyData.eqv z (py d)) then none else some d
def anyStep (w : Int) (acc : List D) (n : Int) : List D := acc ++ (lawStartsL w n).filterMap (newIn acc)
def anyTo (w : Int) (i : Nat) : List D := ((zs 1 (2 * w + 3)).take i).foldl (anyStep w) []
def anyL (w : Int) : List D := anyTo w (zs 1 (2 * w + 3)).length
def good (d : D) : Bool := pd d && SeqAt.shaped (py d)
theorem good_starts : ∀ w ∈ zs 0 4, ∀ n ∈ zs 0 31, (lawStartsL w n).all good = true := by decide +kernel
theorem good_any : ∀ w ∈ zs 0 4, ∀ i ∈ List.range 10, good (.lst (anyTo w i)) = true ∧ (anyTo w i).length ≤ 100 := by decide +kernel
def f_any : DF := fun ds O q _ => ∃ w, ds = [.int w] ∧ 0 ≤ w ∧ w ≤ 3 ∧ q (.lst (anyL w)) O
structure C1 (P : Program) (w : World) (K : Frag) (mg : Str → Option Value) (base : Heap) (f : Addr) (fd : FuncData) : Prop where
  law_starts : Cal P w K mg base "_law_starts" P_law_starts 2 1 f_lawStarts f fd
  b_law_starts : Binds K fd P_law_starts []
abbrev s_law_any : Stmt := top 6
abbrev N_law_any : List Str := ["_law_many", "_law_found", "_law_number", "_law_one"]
abbrev P_law_any : List Str := ["_law_many"]
theorem sc_law_any : FnScope N_law_any P_law_any (defScope s_law_any) := ⟨rfl, rfl, rfl, by decide +kernel, rfl, by decide +kernel, by decide +kernel⟩

theorem ok_any {f g : Addr} {fd gd : FuncData} (F : FD K "_law_any" s_law_any f fd) (T : Txt mg) (C : C1 P w K mg base g gd) : FnG P w K mg base (L2.CX P w) 2 f fd P_law_any (spD K 1 f_any) := by
  have sc := sc_law_any
  refine fn_DD (k := 1) F sc rfl fun cdv A outer s H E O0 H0 F0 ds O q xx hl hf S => ⟨_,
    (ds_cons (ds_set (ps_set (i := 1) sc.nd rfl (by first | exact Or.inl rfl | exact Or.inr rfl) (de_lst da_nil)))
      (ds_cons (ds_for (ps_for S.po rfl (di_range2 rfl T.b_range (da_cons de_int (da_cons (so_add S (so_mul S de_int (de_var (pv 0))) de_int) da_nil))) (dg_name (pg_name (i := 2) sc.nd rfl (by first | exact Or.inl rfl | exact Or.inr rfl)))
       (ds_one (ds_set (ps_set (i := 1) sc.nd rfl (by first | exact Or.inl rfl | exact Or.inr rfl) (so_add S (de_var (pv 1)) (de_lc (simG_name (vs := [3]) (i := 3) (by decide)) (pe_lc (own := [("_law_one", 3)]) (g := (gName 3)) rfl sc.nd (di_seq S (so_call S C.law_starts (by decide) C.b_law_starts rfl (da_cons (de_var (pv 0)) (da_cons (de_var (pv 2)) da_nil)))) (blkOk_by (own := [("_law_one", 3)]) (N := N_law_any) (sc := defScope s_law_any) (by decide +kernel)) (fun _ _ _ _ _ => (pg_name (i := 3) sc.nd rfl (by first | exact Or.inl rfl | exact Or.inr rfl))) (fun _ _ _ _ _ => (dts_one (st_notin S.blk (de_var (pv 3)) (de_var (pv 1))))) (fun _ _ _ _ _ => (de_var (pv 3)))))))))))
      (ds_one (ds_ret (de_var (pv 1))))))
    , ?_⟩
  obtain ⟨w, rfl, h0, h1, hq⟩ := hf
  walk_at "dl"
  refine ⟨len_ok (by simp), ?_⟩
  walk_at "dl"
  refine i_mulI (.inl (by omega)) ?_
  walk_at "dl"
  refine ⟨⟨by omega, by omega⟩, ⟨by omega, by omega⟩, ?_⟩
  rw [rgD_zs]
  have hw : w ∈ zs 0 4 := by unfold zs; simp; exact ⟨w.toNat, by omega, by omega⟩
  have hln : (zs 1 (2 * w + 3)).length ≤ 9 := by rw [zs_len]; omega
  refine forGo_inv (fun i env O' => ∃ x2 x3, env = [some (.int w), some (.lst (anyTo w i)), x2, x3] ∧ O' = O) ⟨none, none, rfl, rfl⟩ (fun _ _ _ _ _ => trivial) ?_ ?_
  · rintro N i x env O' hx ⟨x2, x3, rfl, rfl⟩ hN
    obtain ⟨n, hn, rfl⟩ := map_get hx
    obtain ⟨hn0, hn1⟩ := zs_mem (List.mem_of_getElem? hn)
    have hi := (List.getElem?_eq_some_iff.mp hn).1
    have hst : anyTo w (i + 1) = anyStep w (anyTo w i) n := by
      unfold anyTo
      rw [List.take_add_one, hn, List.foldl_append]
      rfl
    obtain ⟨ga, gl⟩ := good_any w hw i (by simp; omega)
    obtain ⟨gb, _⟩ := good_any w hw (i + 1) (by simp; omega)
    have gs := good_starts w hw n (by unfold zs; simp; exact ⟨n.toNat, by omega, by omega⟩)
    generalize hacc : anyTo w i = acc at ga gl hst ⊢
    have ga1 : pds acc = true ∧ SeqAt.shaped (.list (pys acc)) = true := by simpa [good, pd, py] using ga
    walk_at "dl"
    refine ⟨rfl, w, n, rfl, h0, h1, by omega, by omega, fun p hp => ?_⟩
    walk_at "dl"
    refine ⟨len_ok ?_, ?_⟩
    · unfold lawStartsL
      rw [List.length_map, zs_len]
      split <;> omega
    refine lcGo_fm (newIn acc) (by rfl) (fun y hy k z hk hz => ?_) ?_
    · have gy := List.all_eq_true.mp gs y hy
      simp only [good, Bool.and_eq_true] at gy
      walk_at "dl"
      refine ⟨py y, pys acc, asP_pd gy.1, asPs_L ga1.1, gy.2, ga1.2, ?_⟩
      have e : newIn acc y = if (pys acc).any (fun z => PyData.eqv z (py y)) = true then none else some y := rfl
      cases hc : (pys acc).any (fun z => PyData.eqv z (py y)) with
      | true =>
        rw [hc, if_pos rfl] at e
        exact iteF (hz _ e (.refl _))
      | false =>
        rw [hc, if_neg (by decide)] at e
        refine iteT ?_
        walk_at "dl"
        exact hk _ _ e (.refl _)
    · refine i_addL (line_ok ?_) ?_
      · have : (acc ++ (lawStartsL w n).filterMap (newIn acc)).length ≤ 100 := by
          have h := (good_any w hw (i + 1) (by simp; omega)).2
          rw [hst] at h
          exact h
        rw [List.length_append] at this
        omega
      walk_at "dl"
      exact hN _ _ O' (.fresh hp) ⟨some (.int n), x3, by rw [hst]; rfl, rfl⟩
  · rintro env O' ⟨x2, x3, rfl, rfl⟩
    walk_at "dl"
    rw [List.length_map]
    exact rt_same hq
/-! ### the law -/
structure C2 (P : Program) (w : World) (K : Frag) (mg : Str → Option Value) (base : Heap) (f1 f2 f3 f4 f5 : Addr) (d1 d2 d3 d4 d5 : FuncData) (dv : List Value) : Prop where
  law_bag : Cal P w K mg base "_law_bag" P_law_bag 2 1 f_bag f1 d1
  b_law_bag : Binds K d1 P_law_bag []
  law_take : Cal P w K mg base "_law_take" P_law_take 2 1 f_take f2 d2
  b_law_take : Binds K d2 P_law_take []
  starts : Cal P w K mg base "starts" P_starts 2 1 f_starts f3 d3
  b_starts : Binds K d3 P_starts dv
  v_starts : Vals [V.non] dv
  d_starts : ∀ F : Hp, RVs K F [D.non] [V.non]
  kb_starts_hearers : KBn K d3 P_starts 1 ["hearers"] (fun us ws => us ++ ws) (fun us ws => us ++ ws)
  kd_starts_hearers : ∀ (F : Hp) (ds : List D) (vs : List V) (es : List D) (zs : List V), RVs K F ds vs → RVs K F es zs → RVs K F (ds ++ es) (vs ++ zs)
  law_starts : Cal P w K mg base "_law_starts" P_law_starts 2 1 f_lawStarts f4 d4
  b_law_starts : Binds K d4 P_law_starts []
  law_any : Cal P w K mg base "_law_any" P_law_any 1 2 f_any f5 d5
  b_law_any : Binds K d5 P_law_any []
def f_law : DF := fun ds O q _ => ∃ ns : List Int, ds = [.lst (ns.map D.int)] ∧ ns.length ≤ 63 ∧ ∀ O', q (.bl true) O'
theorem _root_.DL.Bag.ne {O : Ow} {p r : Addr} {m : Int} (h : Bag O p m) (hr : O r = none) : p ≠ r := fun z => by
  obtain ⟨a, b, c, e, h1⟩ := h
  rw [z, hr] at e; cases e
theorem _root_.DL.Bag.keep {O : Ow} {p r : Addr} {m : Int} {o : OD} (h : Bag O p m) (hr : p ≠ r) : Bag (setO O r o) p m := by
  obtain ⟨a, b, c, e, h1⟩ := h
  exact ⟨a, b, c, by rw [setO_ne hr]; exact e, h1⟩
theorem cut_last (l : List D) (x : D) : DL.cutD (l ++ [x]) none (some (-1)) = l := by
  unfold DL.cutD
  have h1 : HT.sIx (l ++ [x]).length 0 none = 0 := rfl
  have h2 : HT.sIx (l ++ [x]).length (l ++ [x]).length (some (-1)) = l.length := by
    simp [HT.sIx]
    omega
  rw [h1, h2]
  simp
def facts1b (w : Int) : Bool := (startsL w none).all shwOk && (anyL w).all shwOk && ((startsL w none).map shw).isPerm ((anyL w).map shw) && shwOk (.lst (startsL w none)) && decide ((startsL w none).length ≤ 100) && decide ((anyL w).length ≤ 100)
theorem facts1a : (zs 0 4).all facts1b = true := by decide +kernel
theorem facts1 : ∀ w ∈ zs 0 4, (startsL w none).all shwOk = true ∧ (anyL w).all shwOk = true ∧ ((startsL w none).map shw).isPerm ((anyL w).map shw) = true ∧ shwOk (.lst (startsL w none)) = true ∧ (startsL w none).length ≤ 100 ∧ (anyL w).length ≤ 100 := fun w hw => by
  have h := List.all_eq_true.mp facts1a w hw
  simp only [facts1b, Bool.and_eq_true, decide_eq_true_eq] at h
  exact ⟨h.1.1.1.1.1, h.1.1.1.1.2, h.1.1.1.2, h.1.1.2, h.1.2, h.2⟩
def hcap (h : Int) : Int := if h < 5 then h else 5
theorem capA : ((zs 0 4).map fun w => (zs 1 20).map fun h => startsL w (some h)) = ((zs 0 4).map fun w => (zs 1 20).map fun h => startsL w (some (hcap h))) := by kernel_rfl
theorem capB : ((zs 0 4).map fun w => (zs 1 20).map fun h => startsL w (some h)) = ((zs 0 4).map fun w => (zs 1 20).map fun h => lawStartsL w h) := by kernel_rfl
def facts2b (w h : Int) : Bool := (startsL w (some h)).all shwOk && shwOk (.lst (startsL w (some h))) && decide ((startsL w (some h)).length ≤ 100)
theorem facts2a : (zs 0 4).all (fun w => (zs 1 6).all (facts2b w)) = true := by decide +kernel
theorem facts2 : ∀ w ∈ zs 0 4, ∀ h ∈ zs 1 20, (startsL w (some h)).all shwOk = true ∧ (lawStartsL w h).all shwOk = true ∧ ((startsL w (some h)).map shw).isPerm ((lawStartsL w h).map shw) = true ∧ shwOk (.lst (startsL w (some h))) = true ∧ (startsL w (some h)).length ≤ 100 ∧ (lawStartsL w h).length ≤ 100 := fun w hw n hn => by
  have e1 := List.map_inj_left.mp (List.map_inj_left.mp capA w hw) n hn
  have e2 := List.map_inj_left.mp (List.map_inj_left.mp capB w hw) n hn
  have hn2 : hcap n ∈ zs 1 6 := by
    obtain ⟨z0, z1⟩ := zs_mem hn
    unfold hcap zs
    simp
    split
    · exact ⟨(n - 1).toNat, by omega, by omega⟩
    · exact ⟨4, by omega, by omega⟩
  have h := List.all_eq_true.mp (List.all_eq_true.mp facts2a w hw) _ hn2
  simp only [facts2b, Bool.and_eq_true, decide_eq_true_eq] at h
  rw [← e1] at h
  rw [← e2]
  exact ⟨h.1.1, h.1.1, List.isPerm_iff.mpr (List.Perm.refl _), h.1.2, h.2, h.2⟩
abbrev s_law : Stmt := top 7
abbrev N_law : List Str := ["_law_script", "_law_at", "_law_bag_here", "_law_turn", "_law_many", "_law_number", "_law_told", "_law_exact", "_law_one"]
abbrev P_law : List Str := ["_law_script"]
theorem sc_law : FnScope N_law P_law (defScope s_law) := ⟨rfl, rfl, rfl, by decide +kernel, rfl, by decide +kernel, by decide +kernel⟩

theorem ok_law {f f1 f2 f3 f4 f5 : Addr} {fd d1 d2 d3 d4 d5 : FuncData} {dv : List Value} (F : FD K "law" s_law f fd) (T : Txt mg) (C : C2 P w K mg base f1 f2 f3 f4 f5 d1 d2 d3 d4 d5 dv) : FnG P w K mg base (L2.CX P w) 3 f fd P_law (spD K 1 f_law) := by
  have sc := sc_law
  refine fn_DD (k := 2) F sc rfl fun cdv A outer s H E O0 H0 F0 ds O q xx hl hf S => ⟨_,
    (ds_cons (ds_for (ps_for S.po rfl (di_range1 rfl T.b_range (da_cons (so_max2 S rfl rfl T.b_max (da_cons de_int (da_cons (so_min2 S rfl rfl T.b_min (da_cons de_int (da_cons (so_len S rfl T.b_len (da_cons (de_var (pv 0)) da_nil)) da_nil))) da_nil))) da_nil)) (dg_name (pg_name (i := 1) sc.nd rfl (by first | exact Or.inl rfl | exact Or.inr rfl)))
       (ds_cons (ds_set (ps_set (i := 2) sc.nd rfl (by first | exact Or.inl rfl | exact Or.inr rfl) (so_call S C.law_bag (by decide) C.b_law_bag rfl (da_cons (de_var (pv 0)) (da_cons (de_var (pv 1)) da_nil)))))
       (ds_one (ds_for (ps_for S.po rfl (di_range1 rfl T.b_range (da_cons de_int da_nil)) (dg_name (pg_name (i := 3) sc.nd rfl (by first | exact Or.inl rfl | exact Or.inr rfl)))
        (ds_cons (ds_par (ps_par (i := 4) (j := 5) rfl sc.nd rfl rfl (by decide) rfl rfl (da_cons (so_call S C.law_take (by decide) C.b_law_take rfl (da_cons (de_var (pv 2)) (da_cons de_int da_nil))) (da_cons (so_add S de_int (so_call S C.law_take (by decide) C.b_law_take rfl (da_cons (de_var (pv 2)) (da_cons de_int da_nil)))) da_nil)) (by rfl)))
        (ds_cons (ds_par (ps_par (i := 6) (j := 7) rfl sc.nd rfl rfl (by decide) rfl rfl (da_cons (so_callD S C.starts (by decide) C.b_starts C.v_starts C.d_starts rfl (da_cons (de_var (pv 4)) da_nil)) (da_cons (so_callK S C.starts (by decide) C.kb_starts_hearers C.kd_starts_hearers rfl (da_cons (de_var (pv 4)) da_nil) (dk_cons (de_var (pv 5)) dk_nil)) da_nil)) (by rfl)))
        (ds_cons (ds_if (st_ne S (so_sorted S rfl T.b_sorted (da_cons (de_lc (simG_name (vs := [8]) (i := 8) (by decide)) (pe_lc (own := [("_law_one", 8)]) (g := (gName 8)) rfl sc.nd (di_seq S (de_var (pv 6))) (blkOk_by (own := [("_law_one", 8)]) (N := N_law) (sc := defScope s_law) (by decide +kernel)) (fun _ _ _ _ _ => (pg_name (i := 8) sc.nd rfl (by first | exact Or.inl rfl | exact Or.inr rfl))) (fun _ _ _ _ _ => dts_nil) (fun _ _ _ _ _ => (so_repr S.blk rfl T.b_repr (da_cons (de_var (pv 8)) da_nil))))) da_nil)) (so_sorted S rfl T.b_sorted (da_cons (de_lc (simG_name (vs := [8]) (i := 8) (by decide)) (pe_lc (own := [("_law_one", 8)]) (g := (gName 8)) rfl sc.nd (di_seq S (so_call S C.law_any (by decide) C.b_law_any rfl (da_cons (de_var (pv 4)) da_nil))) (blkOk_by (own := [("_law_one", 8)]) (N := N_law) (sc := defScope s_law) (by decide +kernel)) (fun _ _ _ _ _ => (pg_name (i := 8) sc.nd rfl (by first | exact Or.inl rfl | exact Or.inr rfl))) (fun _ _ _ _ _ => dts_nil) (fun _ _ _ _ _ => (so_repr S.blk rfl T.b_repr (da_cons (de_var (pv 8)) da_nil))))) da_nil)))
         (ds_one (ds_ret de_bl))
         ds_nil)
        (ds_cons (ds_if (st_ne S (so_sorted S rfl T.b_sorted (da_cons (de_lc (simG_name (vs := [8]) (i := 8) (by decide)) (pe_lc (own := [("_law_one", 8)]) (g := (gName 8)) rfl sc.nd (di_seq S (de_var (pv 7))) (blkOk_by (own := [("_law_one", 8)]) (N := N_law) (sc := defScope s_law) (by decide +kernel)) (fun _ _ _ _ _ => (pg_name (i := 8) sc.nd rfl (by first | exact Or.inl rfl | exact Or.inr rfl))) (fun _ _ _ _ _ => dts_nil) (fun _ _ _ _ _ => (so_repr S.blk rfl T.b_repr (da_cons (de_var (pv 8)) da_nil))))) da_nil)) (so_sorted S rfl T.b_sorted (da_cons (de_lc (simG_name (vs := [8]) (i := 8) (by decide)) (pe_lc (own := [("_law_one", 8)]) (g := (gName 8)) rfl sc.nd (di_seq S (so_call S C.law_starts (by decide) C.b_law_starts rfl (da_cons (de_var (pv 4)) (da_cons (de_var (pv 5)) da_nil)))) (blkOk_by (own := [("_law_one", 8)]) (N := N_law) (sc := defScope s_law) (by decide +kernel)) (fun _ _ _ _ _ => (pg_name (i := 8) sc.nd rfl (by first | exact Or.inl rfl | exact Or.inr rfl))) (fun _ _ _ _ _ => dts_nil) (fun _ _ _ _ _ => (so_repr S.blk rfl T.b_repr (da_cons (de_var (pv 8)) da_nil))))) da_nil)))
         (ds_one (ds_ret de_bl))
         ds_nil)
        (ds_cons (ds_expr (so_append S (de_var (pv 6)) (da_cons de_non da_nil)))
        (ds_cons (ds_expr (so_append S (de_var (pv 7)) (da_cons de_non da_nil)))
        (ds_cons (ds_if (st_ne S (so_repr S rfl T.b_repr (da_cons (so_callK S C.starts (by decide) C.kb_starts_hearers C.kd_starts_hearers rfl (da_cons (de_var (pv 4)) da_nil) (dk_cons de_non dk_nil)) da_nil)) (so_repr S rfl T.b_repr (da_cons (de_slice rfl (de_var (pv 6)) do_none (do_some (so_neg S de_int))) da_nil)))
         (ds_one (ds_ret de_bl))
         ds_nil)
        (ds_one (ds_if (st_ne S (so_repr S rfl T.b_repr (da_cons (so_callK S C.starts (by decide) C.kb_starts_hearers C.kd_starts_hearers rfl (da_cons (de_var (pv 4)) da_nil) (dk_cons (de_var (pv 5)) dk_nil)) da_nil)) (so_repr S rfl T.b_repr (da_cons (de_slice rfl (de_var (pv 7)) do_none (do_some (so_neg S de_int))) da_nil)))
         (ds_one (ds_ret de_bl))
         ds_nil)))))))))))))))
      (ds_one (ds_ret (de_and (so_eq S (so_len S rfl T.b_len (da_cons (so_callD S C.starts (by decide) C.b_starts C.v_starts C.d_starts rfl (da_cons de_int da_nil)) da_nil)) de_int) (de_one (so_eq S (so_callK S C.starts (by decide) C.kb_starts_hearers C.kd_starts_hearers rfl (da_cons de_int da_nil) (dk_cons de_int dk_nil)) (de_lst (da_cons (de_tup (da_cons de_int (da_cons de_int (da_cons de_int (da_cons de_int (da_cons (de_tup da_nil) da_nil)))))) da_nil))))))))
    , ?_⟩
  obtain ⟨ns, rfl, h0, hq⟩ := hf
  walk_at "dl"
  generalize hm : (if (if ((ns.map D.int).length : Int) < 4 then ((ns.map D.int).length : Int) else 4) > 2 then (if ((ns.map D.int).length : Int) < 4 then ((ns.map D.int).length : Int) else 4) else 2) = m
  have hm3 : 0 ≤ m ∧ m ≤ 4 := by
    subst hm
    split <;> split <;> omega
  refine ⟨⟨by omega, by omega⟩, ?_⟩
  rw [rgD_zs]
  refine forGo_inv (fun i env O' => ∃ x1 x2 x3 x4 x5 x6 x7 x8, env = [some (.lst (ns.map D.int)), x1, x2, x3, x4, x5, x6, x7, x8])
    ⟨none, none, none, none, none, none, none, none, rfl⟩ (fun _ _ _ _ _ => trivial) ?_ ?_
  · rintro N i x env O' hx ⟨x1, x2, x3, x4, x5, x6, x7, x8, rfl⟩ hN
    obtain ⟨b, hb, rfl⟩ := map_get hx
    obtain ⟨hb0, hb1⟩ := zs_mem (List.mem_of_getElem? hb)
    walk_at "dl"
    refine ⟨rfl, ns, b, rfl, hb0, by omega, fun p o hp hbag => ?_⟩
    walk_at "dl"
    refine ⟨⟨by decide, by decide⟩, ?_⟩
    rw [rgD_zs]
    refine forGo_inv (fun j env O' => ∃ x3 x4 x5 x6 x7 x8, env = [some (.lst (ns.map D.int)), some (.int b), some (.ref p), x3, x4, x5, x6, x7, x8] ∧ Bag O' p (2 * j))
      ⟨_, _, _, _, _, _, rfl, hbag.mono (by decide)⟩ (fun _ _ _ _ _ => trivial) ?_ ?_
    · rintro N2 j y env O' hy ⟨x3, x4, x5, x6, x7, x8, rfl, hbag⟩ hN2
      obtain ⟨t, ht, rfl⟩ := map_get hy
      have hj : j < 6 := by
        have := (List.getElem?_eq_some_iff.mp ht).1
        rw [zs_len] at this
        simpa using this
      walk_at "dl"
      refine ⟨rfl, p, 4, _, rfl, hbag, by omega, by decide, by decide, fun w o1 hw0 hw1 hbag1 => ?_⟩
      walk_at "dl"
      refine ⟨rfl, p, 19, _, rfl, hbag1, by omega, by decide, by decide, fun h o2 hh0 hh1 hbag2 => ?_⟩
      generalize hOa : setO (setO O' p o1) p o2 = Oa at hbag2
      have hw : w ∈ zs 0 4 := by unfold zs; simp; exact ⟨w.toNat, by omega, by omega⟩
      have hh : 1 + h ∈ zs 1 20 := by unfold zs; simp; exact ⟨h.toNat, by omega, by omega⟩
      obtain ⟨a1, a2, a3, a4, a5, a6⟩ := facts1 w hw
      obtain ⟨c1, c2, c3, c4, c5, c6⟩ := facts2 w hw (1 + h) hh
      rw [List.all_eq_true] at a1 a2 c1 c2
      walk_at "dl"
      refine ⟨rfl, w, none, rfl, hw0, by omega, nofun, fun r1 hr1 => ?_⟩
      walk_at "dl"
      refine ⟨rfl, rfl, rfl, w, some (1 + h), rfl, hw0, by omega, fun x e => by cases e; omega, fun r2 hr2 => ?_⟩
      have hr12 : r1 ≠ r2 := fun z => by rw [← z, setO_same] at hr2; cases hr2
      have hpr1 : p ≠ r1 := hbag2.ne hr1
      have hpr2 : p ≠ r2 := (hbag2.other (o := .lst (startsL w none)) hr1).ne hr2
      have hbag3 := (hbag2.other (o := .lst (startsL w none)) hr1).other (o := .lst (startsL w (some (1 + h)))) hr2
      walk_at "dw"
      refine ⟨line_ok (Nat.le_trans a5 (by decide)), ?_⟩
      refine lcGo_reprs (by rfl) (show 8 < 9 by decide) a1 ?_
      walk_at "dl"
      refine i_sortS ?_
      walk_at "dl"
      refine ⟨rfl, w, rfl, hw0, by omega, ?_⟩
      walk_at "dl"
      refine ⟨line_ok (Nat.le_trans a6 (by decide)), ?_⟩
      refine lcGo_reprs trivial (show 8 < 9 by decide) a2 ?_
      walk_at "dl"
      refine i_sortS ?_
      refine i_neSorted a3 a1 ?_
      refine iteF ?_
      walk_at "dw"
      refine ⟨line_ok (Nat.le_trans c5 (by decide)), ?_⟩
      refine lcGo_reprs (by rfl) (show 8 < 9 by decide) c1 ?_
      walk_at "dl"
      refine i_sortS ?_
      walk_at "dl"
      refine ⟨rfl, w, 1 + h, rfl, hw0, by omega, by omega, by omega, fun r3 hr3 => ?_⟩
      walk_at "dl"
      refine ⟨line_ok (Nat.le_trans c6 (by decide)), ?_⟩
      refine lcGo_reprs (by rfl) (show 8 < 9 by decide) c2 ?_
      walk_at "dl"
      refine i_sortS ?_
      refine i_neSorted c3 c1 ?_
      refine iteF ?_
      have hbag4 := hbag3.other (o := .lst (lawStartsL w (1 + h))) hr3
      have hr13 : r1 ≠ r3 := fun z => by rw [← z, setO_ne hr12, setO_same] at hr3; cases hr3
      have hr23 : r2 ≠ r3 := fun z => by rw [← z, setO_same] at hr3; cases hr3
      have hr21 := hr12.symm
      generalize hO3 : setO (setO (setO Oa r1 (.lst (startsL w none))) r2 (.lst (startsL w (some (1 + h))))) r3 (.lst (lawStartsL w (1 + h))) = O3 at hbag4
      have g1 : O3 r1 = some (.lst (startsL w none)) := by rw [← hO3, setO_ne hr13, setO_ne hr12, setO_same]
      have g2 : O3 r2 = some (.lst (startsL w (some (1 + h)))) := by rw [← hO3, setO_ne hr23, setO_same]
      walk_at "dl"
      · exact Nat.lt_of_le_of_lt a5 (by decide)
      walk_at "dl"
      · exact Nat.lt_of_le_of_lt c5 (by decide)
      generalize hO4 : setO (setO O3 r1 (.lst (startsL w none ++ [.non]))) r2 (.lst (startsL w (some (1 + h)) ++ [.non])) = O4
      have g3 : O4 r1 = some (.lst (startsL w none ++ [.non])) := by rw [← hO4, setO_ne hr12, setO_same]
      have g4 : O4 r2 = some (.lst (startsL w (some (1 + h)) ++ [.non])) := by rw [← hO4, setO_same]
      have hbag5 : Bag O4 p (2 * j + 1 + 1) := by rw [← hO4]; exact (hbag4.keep hpr1).keep hpr2
      walk_at "dw"
      refine ⟨rfl, rfl, rfl, w, none, rfl, hw0, by omega, nofun, fun r4 hr4 => ?_⟩
      have hr14 : r1 ≠ r4 := fun z => by rw [← z, g3] at hr4; cases hr4
      have hr24 : r2 ≠ r4 := fun z => by rw [← z, g4] at hr4; cases hr4
      walk_at "dl"
      refine i_reprO setO_same a4 ?_
      walk_at "dl"
      rw [cut_last]
      refine i_repr a4 (i_neStr rfl (shw_lay a4) ?_)
      refine iteF ?_
      walk_at "dw"
      refine ⟨rfl, rfl, rfl, w, some (1 + h), rfl, hw0, by omega, fun x e => by cases e; omega, fun r5 hr5 => ?_⟩
      have hr25 : r2 ≠ r5 := fun z => by rw [← z, setO_ne hr24, g4] at hr5; cases hr5
      have g5 : (setO O4 r4 (.lst (startsL w none))) r2 = some (.lst (startsL w (some (1 + h)) ++ [.non])) := by rw [setO_ne hr24]; exact g4
      walk_at "dl"
      refine i_reprO setO_same c4 ?_
      walk_at "dl"
      rw [cut_last]
      refine i_repr c4 (i_neStr rfl (shw_lay c4) ?_)
      refine iteF ?_
      refine hN2 _ _ _ (.refl _) ⟨_, _, _, _, _, _, rfl, ?_⟩
      exact ((hbag5.other hr4).other hr5).mono (by omega)
    · rintro env O2 ⟨x3, x4, x5, x6, x7, x8, rfl, _⟩
      exact hN _ _ _ (.refl _) ⟨_, _, _, _, _, _, _, _, rfl⟩
  · rintro env O' ⟨x1, x2, x3, x4, x5, x6, x7, x8, rfl⟩
    walk_at "dl"
    refine ⟨rfl, 0, none, rfl, by decide, by decide, nofun, fun p hp => ?_⟩
    walk_at "dl"
    refine ⟨_, _, asP_pd (by decide), asP_pd (by decide), by decide, by decide, ?_⟩
    rw [show PyData.eqv (py (.int ((startsL 0 none).length : Nat))) (py (.int 1)) = true by decide +kernel]
    walk_at "dl"
    refine ⟨rfl, rfl, rfl, 0, some 19, rfl, by decide, by decide, fun x e => by cases e; decide, fun r hr => ?_⟩
    walk_at "dl"
    refine ⟨len_ok (by decide), ?_⟩
    refine ⟨len_ok (by decide), ?_⟩
    walk_at "dl"
    refine ⟨len_ok (by decide), ?_⟩
    refine ⟨.list (pys (startsL 0 (some 19))), _, by simp [asP, setO_same, show pds (startsL 0 (some 19)) = true by decide +kernel], asP_pd (by decide), by decide +kernel, by decide, ?_⟩
    rw [show PyData.eqv (.list (pys (startsL 0 (some 19)))) (py (.lst [D.tup [D.int 0, D.int 0, D.int 0, D.int 1, D.tup []]])) = true by decide +kernel]
    exact rt_same (hq _)
end
/-! ### the head -/
def dd (x : Str) (st : Stmt) : He.DefD := ⟨(x, none), x, x, defArgs st, defBody st, defScope st, [], []⟩
def ddStarts : He.DefD := ⟨("starts", none), "starts", "starts", defArgs s_starts, defBody s_starts, defScope s_starts, [], [("hearers", .non)]⟩
def fns : List He.DefD := [ddStarts, dd "_law_bag" s_law_bag, dd "_law_take" s_law_take, dd "_law_starts" s_law_starts, dd "_law_any" s_law_any, dd "law" s_law]
def fas : List He.Fa := [.glo "starts", .glo "_law_bag", .glo "_law_take", .glo "_law_starts", .glo "_law_any", .glo "law", .free "range", .free "list", .free "min", .free "max", .free "len", .free "abs", .free "int", .free "sorted", .free "repr"]
abbrev R : PySem.W.OpenRow := PySem.W.OpenLaw.row PySem.Challenge.rw_strongbit_k21_starts
abbrev hk : PySem.W.Hook := He.hookD 4 fas fns
def ob (s : PySem.W.SharedT) : He.AlD := He.obsDG 4 fas fns (HandSHeadRun.getT s)
theorem ob_eq (s : PySem.W.SharedT) : ob s = hk.obs s.abs := He.obsDG_eq (HandSHeadRun.getT_eq s)
def loose : List Str := ["starts", "_law_bag", "_law_take", "_law_starts", "_law_any"]
theorem run (w : World) : HandSHeadRun.RunEq R (PySem.W.view R.prog [7]) hk ob 400 loose w := by
  intro os
  kernel_rfl
theorem facts {P : Program} {w : World} {K : PySem.W.Frag} {h : Heap} {mg : Str → Option Value} {f : Addr} (X : K.In h) (G : h.Ns mainGlobals mg) (hfa : mg ("law" : Str) = some (.ref f)) (c : He.SaysD fas fns K) :
    ∃ fd : FuncData, (∀ (s : Shared) (v : Value), BindsTo s fd ⟨[v], []⟩ [("_law_script", v)]) ∧ ∀ base : Heap, K.In base → base.Ns mainGlobals mg → FnG P w K mg base (L2.CX P w) 3 f fd P_law (spD K 1 f_law) := by
  obtain ⟨d1, F1⟩ := c.def_ 0 (d := ddStarts) rfl
  obtain ⟨d2, F2⟩ := c.def_ 1 (d := dd "_law_bag" s_law_bag) rfl
  obtain ⟨d3, F3⟩ := c.def_ 2 (d := dd "_law_take" s_law_take) rfl
  obtain ⟨d4, F4⟩ := c.def_ 3 (d := dd "_law_starts" s_law_starts) rfl
  obtain ⟨d5, F5⟩ := c.def_ 4 (d := dd "_law_any" s_law_any) rfl
  obtain ⟨d6, F6⟩ := c.def_ 5 (d := dd "law" s_law) rfl
  have g1 := He.glo_ok X G (c.fact 0 (f := .glo "starts") rfl)
  have g2 := He.glo_ok X G (c.fact 1 (f := .glo "_law_bag") rfl)
  have g3 := He.glo_ok X G (c.fact 2 (f := .glo "_law_take") rfl)
  have g4 := He.glo_ok X G (c.fact 3 (f := .glo "_law_starts") rfl)
  have g5 := He.glo_ok X G (c.fact 4 (f := .glo "_law_any") rfl)
  have e := hfa.symm.trans (He.glo_ok X G (c.fact 5 (f := .glo "law") rfl))
  cases e
  have T : Txt mg := ⟨He.free_ok X G (c.fact 6 (f := .free "range") rfl), He.free_ok X G (c.fact 7 (f := .free "list") rfl), He.free_ok X G (c.fact 8 (f := .free "min") rfl), He.free_ok X G (c.fact 9 (f := .free "max") rfl), He.free_ok X G (c.fact 10 (f := .free "len") rfl), He.free_ok X G (c.fact 11 (f := .free "abs") rfl), He.free_ok X G (c.fact 12 (f := .free "int") rfl), He.free_ok X G (c.fact 13 (f := .free "sorted") rfl), He.free_ok X G (c.fact 14 (f := .free "repr") rfl)⟩
  have b := FunD.bindsA (ps := P_law) F6 fun _ _ _ _ _ _ us hl => match us, hl with | [_], _ => rfl
  have b2 : Binds K d2 P_law_bag [] := FunD.bindsN F2 fun _ _ _ _ _ _ us hl => match us, hl with | [_, _], _ => rfl
  have b3 : Binds K d3 P_law_take [] := FunD.bindsN F3 fun _ _ _ _ _ _ us hl => match us, hl with | [_, _], _ => rfl
  have b4 : Binds K d4 P_law_starts [] := FunD.bindsN F4 fun _ _ _ _ _ _ us hl => match us, hl with | [_, _], _ => rfl
  have b5 : Binds K d5 P_law_any [] := FunD.bindsN F5 fun _ _ _ _ _ _ us hl => match us, hl with | [_], _ => rfl
  obtain ⟨dv, v1, b1⟩ := FunD.binds0 (kws := [("hearers", V.non)]) (ps := P_starts) F1 1 (by simp) rfl fun D doc pm an cdv ct us ks h1 h2 => match us, ks, h1, h2 with
    | [u], [k], _, _ => ⟨_, _, _, _, _, _, rfl, rfl, rfl⟩
  have kb1 := kbn_all (ps := P_starts) (kws := [("hearers", V.non)]) F1 1 ["hearers"] fun kV doc pm an cdv ct us ws h1 h2 => match us, ws, h1, h2 with
    | [u], [k], _, _ => rfl
  refine ⟨d6, fun s v => b s [v] rfl, fun base _ _ => ?_⟩
  have C4 : Cal P w K mg base "_law_starts" P_law_starts 2 1 f_lawStarts _ d4 := ⟨ok_lawStarts F4 T, g4, F4.kp⟩
  exact ok_law F6 T ⟨⟨ok_bag F2 T, g2, F2.kp⟩, b2, ⟨ok_take F3 T, g3, F3.kp⟩, b3, ⟨ok_starts F1 T, g1, F1.kp⟩, b1, v1, fun F => .cons .non .nil, kb1, fun F ds vs es zs h1 h2 => h1.append h2, C4, b4, ⟨ok_any F5 T ⟨C4, b4⟩, g5, F5.kp⟩, b5⟩
end K21
open PySem PySem.W PySem.Calls PyProof.Rows in
set_option maxRecDepth 100000 in
set_option maxHeartbeats 0 in
theorem PySem.Challenge.cw_strongbit_k21_starts_holds : PySem.Challenge.rw_strongbit_k21_starts.Holds := by
  w_on; o_law
  refine HandSHeadRun.head_any (r := K21.R) (q := view K21.R.prog [7]) (H := K21.hk) (ob := K21.ob) (M := 400) (loose := K21.loose) (d := HandSHeadRun.topDef K21.R.prog 7) (kwd := []) K21.ob_eq
    (by kernel_rfl) (fun s => by kernel_rfl) K21.run (by kernel_rfl) (by kernel_rfl) (by kernel_rfl) (by rfl) (by first | assumption | decide +kernel) (by decide +kernel) ⟨rfl, rfl, rfl, rfl, rfl, by decide +kernel⟩ ?hw ?hc
  case hw => w_witness2
  case hc =>
    refine DL.walk_GE (l := PySem.Challenge.rw_strongbit_k21_starts) (n := 63) (k := 3) (x := "_law_script") (fn := K21.f_law) rfl (by decide) (by kernel_rfl) ⟨rfl, by decide, by decide⟩ ?F (fun ns hl _ => ⟨ns, rfl, hl, fun _ => rfl⟩)
    intro w mg fa h Y G hmg0
    obtain ⟨K, KX, c⟩ := Y
    have hmg : mg ("law" : PySem.Str) = some (.ref fa) := by
      have e : (HandSHeadRun.topDef K21.R.prog 7).name = ("law" : PySem.Str) := by kernel_rfl
      rw [← e]
      exact hmg0
    obtain ⟨fd, hb, hF⟩ := K21.facts (P := (PySem.Challenge.rw_strongbit_k21_starts).prog) (w := w) KX G hmg c
    exact ⟨K, fd, KX, hb, hF⟩
