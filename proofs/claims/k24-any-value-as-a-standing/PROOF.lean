import PyProof.Rows.All
import Wide.All
import OpenK.AllK
import Wide.FinOn
import HandS.ForMost
import KE.KDictKeyed
import HandS.Defaults
import HandS.ForExc
import HandS.CallSlots
import HandS.Deep
import HandS.Conv
import HandS.TupMul
import HandS.TupAny
import HandS.Wide
import HandS.Flow
import HandS.RaiseMore
import KE.SortData
import HandS.EndBits
import KE.OsSortAny
import HandS.Head0
import HandS.Head1
import HandS.Head2
import HandS.HeadEnd
import HandS.HeadHook1
import HandS.HeadHook2
import HandS.IsInst
import HandS.Property
import HandS.ClsMeth
import HandS.Style
import KE.GoesEnum
import KE.GoesMore
import KE.KUnpackStar
import HandS.HeadHook3
import KE.KCallOwn
import HandS.Text
import HandS.IterVal
import KE.KOwnIter
import HandS.FStr
import HandS.ExcInit
import HandS.ExcField
import HandS.Star
import HandS.StrMore
import HandS.TryOnly
import HandS.Codes
import HandS.ExcIs
import HandS.DictComp
import HandS.SortKw
import KE.DataMinMax
import KE.SortKeyHeap
import KE.KSortKey
import PyProof.InstNe
import HandS.GenList
import PyProof.WalksMore
import HandS.SetBool
import HandS.SetKeys
import HandS.TupSets
import HandS.Zip
import HandS.Sort
import PySem.Challenge.RW_strongbit_k24_any_value_as_a_standing
set_option Elab.async false
set_option linter.all false
set_option maxRecDepth 100000
set_option maxHeartbeats 4000000
/-! # DL: readings over plain data. A D is a value with its immutable (or no longer changed) data inside; what still changes stands in a ghost heap O by address. -/
namespace DL
open PySem L2

inductive D where
  | non | bl (b : Bool) | int (i : Int) | str (x : Str) | ref (a : Addr) | ty (n : String)
  | lst (ds : List D) | tup (ds : List D)
  /-- an instance that no longer changes: its class, its attributes -/
  | ins (C : Addr) (ns : List Str) (ds : List D)

abbrev Frag := PySem.W.Frag
abbrev St := L2.St
mutual
inductive RV (K : Frag) (F : Hp) : D → V → Prop
  | non : RV K F .non .non
  | bl (b : Bool) : RV K F (.bl b) (.bl b)
  | int (i : Int) : RV K F (.int i) (.int i)
  | str (x : Str) : RV K F (.str x) (.str x)
  | ref (a : Addr) : RV K F (.ref a) (.ref a)
  | ty (n : String) : RV K F (.ty n) (.ty n)
  | lst {a : Addr} {xs : List V} {ds : List D} : SqL K F a xs → RVs K F ds xs → RV K F (.lst ds) (.ref a)
  | tup {a : Addr} {xs : List V} {ds : List D} : SqT K F a xs → RVs K F ds xs → RV K F (.tup ds) (.ref a)
  | ins {a dx C : Addr} {ns : List Str} {xs : List V} {ds : List D} : F a = some (.ins C dx (ns.zip xs)) → ns.length = ds.length → RVs K F ds xs → RV K F (.ins C ns ds) (.ref a)
inductive RVs (K : Frag) (F : Hp) : List D → List V → Prop
  | nil : RVs K F [] []
  | cons {d : D} {ds : List D} {v : V} {vs : List V} : RV K F d v → RVs K F ds vs → RVs K F (d :: ds) (v :: vs)
end

theorem same_tup {K : Frag} {H H' : Hp} {a : Addr} {xs : List V} (e : Same H H') (h : SqT K H a xs) : SqT K H' a xs := by
  rcases h with (h | ⟨o, h⟩) | h
  · exact .inl (.inl (e _ _ h))
  · exact .inl (.inr ⟨o, e _ _ h⟩)
  · exact .inr h

mutual
theorem RV.mono {K : Frag} {F F' : Hp} (s : Same F F') : ∀ {d : D} {v : V}, RV K F d v → RV K F' d v
  | _, _, .non => .non
  | _, _, .bl b => .bl b
  | _, _, .int i => .int i
  | _, _, .str x => .str x
  | _, _, .ref a => .ref a
  | _, _, .ty n => .ty n
  | _, _, .lst h hs => .lst (s.seq h) (RVs.mono s hs)
  | _, _, .tup h hs => .tup (same_tup s h) (RVs.mono s hs)
  | _, _, .ins h l hs => .ins (s _ _ h) l (RVs.mono s hs)
theorem RVs.mono {K : Frag} {F F' : Hp} (s : Same F F') : ∀ {ds : List D} {vs : List V}, RVs K F ds vs → RVs K F' ds vs
  | _, _, .nil => .nil
  | _, _, .cons h hs => .cons (RV.mono s h) (RVs.mono s hs)
end
section
variable {K : Frag} {F : Hp}
theorem RVs.length : ∀ {ds : List D} {vs : List V}, RVs K F ds vs → ds.length = vs.length
  | _, _, .nil => rfl
  | _, _, .cons _ hs => congrArg (· + 1) (RVs.length hs)
theorem RVs.append : ∀ {ds es : List D} {vs ws : List V}, RVs K F ds vs → RVs K F es ws → RVs K F (ds ++ es) (vs ++ ws)
  | _, _, _, _, .nil, h => h
  | _, _, _, _, .cons h hs, h' => .cons h (RVs.append hs h')
theorem RVs.get : ∀ {ds : List D} {vs : List V} {i : Nat} {d : D}, RVs K F ds vs → ds[i]? = some d → ∃ v, vs[i]? = some v ∧ RV K F d v
  | _, _, _, _, .nil, e => by simp at e
  | _, _, 0, _, .cons h _, e => by simp at e; subst e; exact ⟨_, rfl, h⟩
  | _, _, i + 1, d, .cons _ hs, e => by
    obtain ⟨v, h1, h2⟩ := RVs.get (i := i) (d := d) hs (by simpa using e)
    exact ⟨v, by simpa using h1, h2⟩
theorem RVs.get' : ∀ {ds : List D} {vs : List V} {i : Nat} {v : V}, RVs K F ds vs → vs[i]? = some v → ∃ d, ds[i]? = some d ∧ RV K F d v
  | _, _, _, _, .nil, e => by simp at e
  | _, _, 0, _, .cons h _, e => by simp at e; subst e; exact ⟨_, rfl, h⟩
  | _, _, i + 1, d, .cons _ hs, e => by
    obtain ⟨v, h1, h2⟩ := RVs.get' (i := i) (v := d) hs (by simpa using e)
    exact ⟨v, by simpa using h1, h2⟩
theorem RVs.set {d : D} {v : V} (r : RV K F d v) : ∀ {ds : List D} {vs : List V} (i : Nat), RVs K F ds vs → RVs K F (ds.set i d) (vs.set i v)
  | _, _, _, .nil => .nil
  | _, _, 0, .cons _ t => .cons r t
  | _, _, i + 1, .cons q t => .cons q (RVs.set r i t)
theorem RVs.take : ∀ {ds : List D} {vs : List V} (n : Nat), RVs K F ds vs → RVs K F (ds.take n) (vs.take n)
  | _, _, 0, _ => .nil
  | _, _, _ + 1, .nil => .nil
  | _, _, n + 1, .cons r t => .cons r (RVs.take n t)
theorem RVs.drop : ∀ {ds : List D} {vs : List V} (n : Nat), RVs K F ds vs → RVs K F (ds.drop n) (vs.drop n)
  | _, _, 0, r => r
  | _, _, _ + 1, .nil => .nil
  | _, _, n + 1, .cons _ t => RVs.drop n t
theorem RVs.one {d : D} {vs : List V} (h : RVs K F [d] vs) : ∃ v, vs = [v] ∧ RV K F d v := by
  cases h with
  | cons h hs => cases hs; exact ⟨_, rfl, h⟩
theorem RVs.two {d e : D} {vs : List V} (h : RVs K F [d, e] vs) : ∃ v w, vs = [v, w] ∧ RV K F d v ∧ RV K F e w := by
  cases h with
  | cons h hs =>
    obtain ⟨w, rfl, h2⟩ := hs.one
    exact ⟨_, _, rfl, h, h2⟩
end

/-! ### what still changes -/
inductive OD where
  | lst (ds : List D)
  | dK (kvs : List (Key × D))
  | dT (kvs : List (List Key × D))
  | ins (C dx : Addr) (fs : List (Str × D))
  /-- a dict whose keys are tuples of any depth -/
  | dN (w : World) (kvs : List (D × D))
  /-- a dict that is walked: it no longer changes -/
  | fK (u : HO) (kvs : List (Key × D))

/-- data as a key -/
def nkey : D → Option NestedKey
  | .non => some .none
  | .bl b => some (.num (if b = true then 1 else 0))
  | .int i => some (.num i)
  | .str x => some (.text x)
  | .tup ds => (nkeys ds).map .tup
  | _ => none
where nkeys : List D → Option (List NestedKey)
  | [] => some []
  | d :: ds => match nkey d, nkeys ds with
    | some k, some ks => some (k :: ks)
    | _, _ => none
/-- such a dict in the heap: keys, their tuples, the values -/
def RawN (w : World) (p : Addr) (xs : List (NestedKey × Addr × V)) : HO := .ext fun h => xs.length ≤ sizeLine ∧ (p == sysModules) = false ∧ ∃ ys : List (NestedKey × Addr × Value),
  Paired (fun (x : NestedKey × Addr × V) (y : NestedKey × Addr × Value) => x.1 = y.1 ∧ x.2.1 = y.2.1 ∧ RelV x.2.2 y.2.2) xs ys ∧
  ∃ o es ep, h.get? p = some o ∧ o.ExactDict ∧ o.data = .dict es ep ∧ es.toList = ys.map (fun y => ⟨y.1.hash w, .ref y.2.1, y.2.2⟩) ∧ (ys.map (·.1)).Nodup

abbrev Ow := Addr → Option OD
abbrev Env := List (Option D)
def setO (O : Ow) (a : Addr) (o : OD) : Ow := fun b => if b = a then some o else O b
theorem setO_same {O : Ow} {a : Addr} {o : OD} : setO O a o a = some o := by unfold setO; rw [if_pos rfl]
theorem setO_ne {O : Ow} {a b : Addr} {o : OD} (h : b ≠ a) : setO O a o b = O b := by unfold setO; rw [if_neg h]
theorem setO_setO {O : Ow} {a : Addr} {o u : OD} : setO (setO O a o) a u = setO O a u := by
  funext b; unfold setO; split <;> rfl

/-- what is forgotten of the ghost heap -/
def SubO (a b : Ow) : Prop := ∀ p o, a p = some o → b p = some o
theorem SubO.refl (O : Ow) : SubO O O := fun _ _ h => h
theorem SubO.trans {a b c : Ow} (h : SubO a b) (h' : SubO b c) : SubO a c := fun p o e => h' p o (h p o e)
theorem SubO.gone {a b : Ow} (h : SubO a b) {p : Addr} (e : b p = Option.none) : a p = Option.none := by
  cases z : a p with
  | none => rfl
  | some o => rw [h p o z] at e; cases e
theorem SubO.fresh {O : Ow} {p : Addr} {o : OD} (h : O p = none) : SubO O (setO O p o) := fun q x e => by
  have : q ≠ p := fun z => by rw [z, h] at e; cases e
  rw [setO_ne this]; exact e

def RKV {κ : Type} (K : Frag) (F : Hp) : List (κ × D) → List (κ × V) → Prop := Paired fun (p : κ × D) (q : κ × V) => p.1 = q.1 ∧ RV K F p.2 q.2
def RN (K : Frag) (F : Hp) : List (D × D) → List (NestedKey × Addr × V) → Prop := Paired fun (p : D × D) (q : NestedKey × Addr × V) => nkey p.1 = some q.1 ∧ q.1.depth ≤ 8 ∧ RV K F p.1 (.ref q.2.1) ∧ RV K F p.2 q.2.2
def RO (K : Frag) (F : Hp) (a : Addr) : OD → HO → Prop
  | .lst ds, o => ∃ vs, o = .lst vs ∧ RVs K F ds vs
  | .dK kvs, o => ∃ ks, o = .dK ks ∧ RKV K F kvs ks
  | .dT kvs, o => ∃ ks, o = .dT ks ∧ RKV K F kvs ks
  | .ins C dx fs, o => ∃ gs, o = .ins C dx gs ∧ RKV K F fs gs
  | .dN w kvs, o => ∃ xs, o = RawN w a xs ∧ RN K F kvs xs
  | .fK u kvs, o => ∃ x : Obj × List (Key × V), o = .frz x.1 (.dK x.2) ∧ u = o ∧ RKV K F kvs x.2
theorem RKV.mono {κ : Type} {K : Frag} {F F' : Hp} (s : Same F F') : ∀ {l : List (κ × D)} {m : List (κ × V)}, RKV K F l m → RKV K F' l m
  | _, _, .nil => .nil
  | _, _, .cons h t => .cons ⟨h.1, h.2.mono s⟩ (RKV.mono s t)
theorem RN.mono {K : Frag} {F F' : Hp} (s : Same F F') : ∀ {l : List (D × D)} {m : List (NestedKey × Addr × V)}, RN K F l m → RN K F' l m
  | _, _, .nil => .nil
  | _, _, .cons h t => .cons ⟨h.1, h.2.1, h.2.2.1.mono s, h.2.2.2.mono s⟩ (RN.mono s t)
theorem RO.mono {K : Frag} {F F' : Hp} (s : Same F F') {a : Addr} : ∀ {o : OD} {h : HO}, RO K F a o h → RO K F' a o h
  | .lst _, _, ⟨vs, e, r⟩ => ⟨vs, e, r.mono s⟩
  | .dK _, _, ⟨vs, e, r⟩ => ⟨vs, e, RKV.mono s r⟩
  | .dT _, _, ⟨vs, e, r⟩ => ⟨vs, e, RKV.mono s r⟩
  | .ins _ _ _, _, ⟨vs, e, r⟩ => ⟨vs, e, RKV.mono s r⟩
  | .dN _ _, _, ⟨vs, e, r⟩ => ⟨vs, e, RN.mono s r⟩
  | .fK _ _, _, ⟨x, e, e2, r⟩ => ⟨x, e, e2, RKV.mono s r⟩

/-- what a heap says of the ghost one -/
def OwOk (K : Frag) (O : Ow) (H F : Hp) : Prop := ∀ p o, O p = some o → F p = none ∧ ∃ ho, H p = some ho ∧ RO K F p o ho
/-- the names hold this data -/
def Sl (K : Frag) (env : Env) (σ : St) (F : Hp) : Prop := env.length = σ.length ∧ ∀ (i : Nat) (d : D), env[i]? = some (some d) → ∃ v, σ[i]? = some (some v) ∧ RV K F d v
/-- from one moment to a later one: what was frozen stays so, what is nobody's own stands as it stood -/
structure After (K : Frag) (O : Ow) (H F : Hp) (O' : Ow) (H' F' : Hp) : Prop where
  ff : Same F F'
  fh : Same F' H'
  kp : ∀ a o, H a = some o → O a = none → H' a = some o
  fr : ∀ a, H a ≠ none → O a = none → F a = none → F' a = none
  ow : OwOk K O' H' F'
  nw : ∀ p o, O' p = some o → O p ≠ none ∨ H p = none

/-- a moment: the base from which a body (or a try) goes on -/
structure Bd where
  K : Frag
  O : Ow
  H : Hp
  F : Hp
structure Rel (B : Bd) (env : Env) (O : Ow) (σ : St) (H F : Hp) : Prop where
  af : After B.K B.O B.H B.F O H F
  sl : Sl B.K env σ F

section
variable {K : Frag} {B : Bd} {env : Env} {O : Ow} {σ : St} {H F : Hp}
theorem Rel.fh (R : Rel B env O σ H F) : Same F H := R.af.fh
theorem Rel.ow (R : Rel B env O σ H F) : OwOk B.K O H F := R.af.ow
theorem Sl.mono {F' : Hp} (h : Sl K env σ F) (s : Same F F') : Sl K env σ F' := ⟨h.1, fun i d e => let ⟨v, e1, r⟩ := h.2 i d e; ⟨v, e1, r.mono s⟩⟩
theorem After.rfl' (fh : Same F H) (ow : OwOk K O H F) : After K O H F O H F := ⟨Same.refl _, fh, fun _ _ e _ => e, fun _ _ _ e => e, ow, fun _ _ e => .inl (by rw [e]; simp)⟩
theorem After.refl (R : Rel B env O σ H F) : After B.K O H F O H F := .rfl' R.fh R.ow
theorem After.trans {O1 O2 : Ow} {H1 F1 H2 F2 : Hp} (a : After K O H F O1 H1 F1) (b : After K O1 H1 F1 O2 H2 F2) : After K O H F O2 H2 F2 := by
  have hO : ∀ x, H x ≠ none → O x = none → O1 x = none := fun x h1 h2 => by
    cases e : O1 x with
    | none => rfl
    | some o => rcases a.nw x o e with z | z; exact absurd h2 z; exact absurd z h1
  have hH : ∀ x, H x ≠ none → O x = none → H1 x ≠ none := fun x h1 h2 => by
    cases e : H x with
    | none => exact absurd e h1
    | some o => rw [a.kp x o e h2]; simp
  refine ⟨a.ff.trans b.ff, b.fh, fun x o e h => b.kp x o (a.kp x o e h) (hO x (by rw [e]; simp) h), fun x h1 h2 h3 => b.fr x (hH x h1 h2) (hO x h1 h2) (a.fr x h1 h2 h3), b.ow, fun p o e => ?_⟩
  rcases b.nw p o e with z | z
  · cases e1 : O1 p with
    | none => exact absurd e1 z
    | some o1 => exact a.nw p o1 e1
  · by_cases h : O p = none
    · refine .inr ?_
      cases e1 : H p with
      | none => rfl
      | some o1 => rw [a.kp p o1 e1 h] at z; cases z
    · exact .inl h
theorem Rel.call {O' : Ow} {H' F' : Hp} (R : Rel B env O σ H F) (a : After B.K O H F O' H' F') : Rel B env O' σ H' F' := ⟨R.af.trans a, R.sl.mono a.ff⟩
theorem Rel.on {O' : Ow} {H' F' : Hp} {env' : Env} {σ' : St} (R : Rel B env O σ H F) (a : After B.K O H F O' H' F') (s : Sl B.K env' σ' F') : Rel B env' O' σ' H' F' := ⟨R.af.trans a, s⟩
theorem Rel.free (R : Rel B env O σ H F) {p : Addr} (h : H p = none) : O p = none ∧ F p = none := by
  refine ⟨?_, R.fh.free h⟩
  cases e : O p with
  | none => rfl
  | some o =>
    obtain ⟨_, ho, e2, _⟩ := R.ow p o e
    rw [h] at e2; cases e2
/-- a new frozen object -/
theorem Rel.froz (R : Rel B env O σ H F) {p : Addr} (h : H p = none) (o : HO) : After B.K O H F O (upd H p o) (upd F p o) := by
  obtain ⟨hO, hF⟩ := R.free h
  have s : Same F (upd F p o) := fun b u e => by rw [upd_ne (ne_of_none e hF)]; exact e
  refine ⟨s, fun b u e => ?_, fun b u e _ => by rw [upd_ne (ne_of_none e h)]; exact e, fun a ha _ h0 => ?_, fun q u e => ?_, fun q u e => .inl (by rw [e]; simp)⟩
  · by_cases hb : b = p
    · subst hb; rw [upd_same] at e ⊢; exact e
    · rw [upd_ne hb] at e ⊢; exact R.fh b u e
  · have : a ≠ p := fun z => ha (z ▸ h)
    rw [upd_ne this]; exact h0
  · have hq : q ≠ p := fun z => by rw [z, hO] at e; cases e
    obtain ⟨h1, ho, h3, h4⟩ := R.ow q u e
    exact ⟨by rw [upd_ne hq]; exact h1, ho, by rw [upd_ne hq]; exact h3, h4.mono s⟩
/-- a new object of one's own -/
theorem Rel.own (R : Rel B env O σ H F) {p : Addr} (h : H p = none) {o : HO} {u : OD} (r : RO B.K F p u o) : After B.K O H F (setO O p u) (upd H p o) F := by
  obtain ⟨hO, hF⟩ := R.free h
  refine ⟨Same.refl _, fun b x e => by rw [upd_ne (ne_of_none e hF)]; exact R.fh b x e, fun b x e _ => by rw [upd_ne (ne_of_none e h)]; exact e, fun _ _ _ e => e, fun q x e => ?_, fun q x e => ?_⟩
  · by_cases hq : q = p
    · subst hq
      rw [setO_same] at e; cases e
      exact ⟨hF, o, upd_same, r⟩
    · rw [setO_ne hq] at e
      obtain ⟨h1, ho, h3, h4⟩ := R.ow q x e
      exact ⟨h1, ho, by rw [upd_ne hq]; exact h3, h4⟩
  · by_cases hq : q = p
    · subst hq; exact .inr h
    · rw [setO_ne hq] at e; exact .inl (by rw [e]; simp)
/-- one's own object changes -/
theorem Rel.put (R : Rel B env O σ H F) {p : Addr} {u0 : OD} (h : O p = some u0) {o : HO} {u : OD} (r : RO B.K F p u o) : After B.K O H F (setO O p u) (upd H p o) F := by
  obtain ⟨hF, _⟩ := R.ow p u0 h
  refine ⟨Same.refl _, fun b x e => by rw [upd_ne (ne_of_none e hF)]; exact R.fh b x e, fun b x e ho => ?_, fun _ _ _ e => e, fun q x e => ?_, fun q x e => ?_⟩
  · have : b ≠ p := fun z => by rw [z, h] at ho; cases ho
    rw [upd_ne this]; exact e
  · by_cases hq : q = p
    · subst hq
      rw [setO_same] at e; cases e
      exact ⟨hF, o, upd_same, r⟩
    · rw [setO_ne hq] at e
      obtain ⟨h1, ho, h3, h4⟩ := R.ow q x e
      exact ⟨h1, ho, by rw [upd_ne hq]; exact h3, h4⟩
  · by_cases hq : q = p
    · subst hq; exact .inl (by rw [h]; simp)
    · rw [setO_ne hq] at e; exact .inl (by rw [e]; simp)
/-- forget -/
theorem After.weak {O' O'' : Ow} {H' F' : Hp} (a : After K O H F O' H' F') (h : SubO O'' O') : After K O H F O'' H' F' :=
  ⟨a.ff, a.fh, a.kp, a.fr, fun p o e => a.ow p o (h p o e), fun p o e => a.nw p o (h p o e)⟩
/-- a name is stored -/
theorem Sl.setv (R : Sl K env σ F) {i : Nat} {d : D} {v : V} (r : RV K F d v) : Sl K (env.set i (some d)) (σ.set i (some v)) F := by
  refine ⟨by simpa using R.1, fun j d' e => ?_⟩
  by_cases hj : i = j
  · subst hj
    have hi : i < env.length := by
      have := (List.getElem?_eq_some_iff.mp e).1
      simpa using this
    rw [List.getElem?_set_self hi] at e
    cases e
    exact ⟨v, by rw [List.getElem?_set_self (by rw [← R.1]; exact hi)], r⟩
  · rw [List.getElem?_set_ne hj] at e
    obtain ⟨v', e1, r1⟩ := R.2 j d' e
    exact ⟨v', by rw [List.getElem?_set_ne hj]; exact e1, r1⟩
theorem Sl.setn (R : Sl K env σ F) {i : Nat} {x : Option V} : Sl K (env.set i none) (σ.set i x) F := by
  refine ⟨by simpa using R.1, fun j d e => ?_⟩
  by_cases hij : i = j
  · subst hij
    by_cases hl : i < env.length
    · rw [List.getElem?_set_self hl] at e; cases e
    · rw [List.getElem?_eq_none (by simpa using hl)] at e; cases e
  · rw [List.getElem?_set_ne hij] at e ⊢
    exact R.2 j d e
/-- an own list is frozen: from now on it is data -/
theorem Rel.ice (R : Rel B env O σ H F) {p : Addr} {ds : List D} (h : O p = some (.lst ds)) : ∃ F', RV B.K F' (.lst ds) (.ref p) ∧ After B.K O H F (fun b => if b = p then none else O b) H F' := by
  obtain ⟨hF, ho, e1, vs, rfl, r⟩ := R.ow p _ h
  have s : Same F (upd F p (.lst vs)) := fun b u e => by rw [upd_ne (ne_of_none e hF)]; exact e
  refine ⟨upd F p (.lst vs), .lst (SqL.of upd_same) (r.mono s), ⟨s, fun b u e => ?_, fun _ _ e _ => e, fun a ha ho h0 => ?_, fun q u e => ?_, fun q u e => ?_⟩⟩
  · by_cases hb : b = p
    · subst hb; rw [upd_same] at e; cases e; exact e1
    · rw [upd_ne hb] at e; exact R.fh b u e
  · have : a ≠ p := fun z => by rw [z, h] at ho; cases ho
    rw [upd_ne this]; exact h0
  · by_cases hq : q = p
    · rw [if_pos hq] at e; cases e
    · rw [if_neg hq] at e
      obtain ⟨h1, ho, h3, h4⟩ := R.ow q u e
      exact ⟨by rw [upd_ne hq]; exact h1, ho, h3, h4.mono s⟩
  · by_cases hq : q = p
    · rw [if_pos hq] at e; cases e
    · rw [if_neg hq] at e; exact .inl (by rw [e]; simp)
end

/-! ### readings -/
abbrev DQ := D → Ow → Prop
abbrev DTE := Env → Ow → DQ → Prop
abbrev DTT := Env → Ow → (Bool → Ow → Prop) → Prop
abbrev DTA := Env → Ow → (List D → Ow → Prop) → Prop
def lift (B : Bd) (t : DTE) : TE := fun σ H Q => ∃ env O F q, Rel B env O σ H F ∧ t env O q ∧
  ∀ d v O' H' F', After B.K O H F O' H' F' → RV B.K F' d v → q d O' → Q v H'
def liftT (B : Bd) (t : DTT) : TT := fun σ H Q => ∃ env O F q, Rel B env O σ H F ∧ t env O q ∧
  ∀ b O' H' F', After B.K O H F O' H' F' → q b O' → Q b H'
def liftA (B : Bd) (t : DTA) : TA := fun σ H Q => ∃ env O F q, Rel B env O σ H F ∧ t env O q ∧
  ∀ ds vs O' H' F', After B.K O H F O' H' F' → RVs B.K F' ds vs → q ds O' → Q vs H'

theorem PE.weak {X : Cx} {e : Expr} {t t' : TE} (h : PE X e t) (i : ∀ σ H Q, t' σ H Q → t σ H Q) : PE X e t' := ⟨fun pins s σ H Q I q => h.run pins s σ H Q I (i σ H Q q)⟩
theorem PT.weak {X : Cx} {e : Expr} {t t' : TT} (h : PT X e t) (i : ∀ σ H Q, t' σ H Q → t σ H Q) : PT X e t' := ⟨fun pins s σ H Q I q => h.run pins s σ H Q I (i σ H Q q)⟩
theorem PA.weak {X : Cx} {e : List Expr} {t t' : TA} (h : PA X e t) (i : ∀ σ H Q, t' σ H Q → t σ H Q) : PA X e t' := ⟨fun pos pins s σ H Q I q => h.run pos pins s σ H Q I (i σ H Q q)⟩
theorem PS.weak {X : Cx} {e : Stmt} {t t' : TS} (h : PS X e t) (i : ∀ E σ H, t' E σ H → t E σ H) : PS X e t' := ⟨fun pins s σ H E I q => h.run pins s σ H E I (i E σ H q)⟩
theorem PSs.weak {X : Cx} {e : List Stmt} {t t' : TS} (h : PSs X e t) (i : ∀ E σ H, t' E σ H → t E σ H) : PSs X e t' := ⟨fun pins s σ H E I q => h.run pins s σ H E I (i E σ H q)⟩

/-- what is wanted behind a statement -/
structure DEnds where
  nx : Env → Ow → Prop
  rt : DQ
  bk : Env → Ow → Prop := fun _ _ => False
  ct : Env → Ow → Prop := fun _ _ => False
abbrev DTS := DEnds → Env → Ow → Prop
/-- how the wanted ends meet the heap's, from the moment (O, H, F) on -/
structure Meet (B : Bd) (O : Ow) (H F : Hp) (d : DEnds) (E : Ends) : Prop where
  nx : ∀ env' O' σ' H' F', After B.K O H F O' H' F' → Sl B.K env' σ' F' → d.nx env' O' → E.nx σ' H'
  rt : ∀ x v O' H' F', After B.K O H F O' H' F' → RV B.K F' x v → d.rt x O' → E.rt v H'
  bk : ∀ env' O' σ' H' F', After B.K O H F O' H' F' → Sl B.K env' σ' F' → d.bk env' O' → E.bk σ' H'
  ct : ∀ env' O' σ' H' F', After B.K O H F O' H' F' → Sl B.K env' σ' F' → d.ct env' O' → E.ct σ' H'
theorem Meet.later {B : Bd} {O O' : Ow} {H F H' F' : Hp} {d : DEnds} {E : Ends} (m : Meet B O H F d E) (a : After B.K O H F O' H' F') : Meet B O' H' F' d E :=
  ⟨fun e o s h f b => m.nx e o s h f (a.trans b), fun x v o h f b => m.rt x v o h f (a.trans b), fun e o s h f b => m.bk e o s h f (a.trans b), fun e o s h f b => m.ct e o s h f (a.trans b)⟩
def liftS (B : Bd) (t : DTS) : TS := fun E σ H => ∃ env O F d, Rel B env O σ H F ∧ t d env O ∧ Meet B O H F d E

section
variable {X : Cx} {B : Bd} {pos : Pos}
/-! ### names, constants -/
def dVar (i : Nat) : DTE := fun env O q => ∃ d, env[i]? = some (some d) ∧ q d O
def dC (d : D) : DTE := fun _ O q => q d O
theorem de_var {e : Expr} {i : Nat} (h : PE X e (tVar i)) : PE X e (lift B (dVar i)) := by
  refine PE.weak h fun σ H Q hq => ?_
  obtain ⟨env, O, F, q, R, ⟨d, e, hq⟩, k⟩ := hq
  obtain ⟨v, e1, r⟩ := R.sl.2 i d e
  exact ⟨v, e1, k d v O H F (.refl R) r hq⟩
theorem de_con {e : Expr} {v : V} {d : D} (h : PE X e (tC v)) (r : ∀ F, RV B.K F d v) : PE X e (lift B (dC d)) := by
  refine PE.weak h fun σ H Q hq => ?_
  obtain ⟨env, O, F, q, R, hq, k⟩ := hq
  exact k d v O H F (.refl R) (r F) hq
theorem de_int {i j p} : PE X (.Constant (.int i) j p) (lift B (dC (.int i))) := de_con pe_int fun _ => .int i
theorem de_str {i j p} : PE X (.Constant (.str i) j p) (lift B (dC (.str i))) := de_con pe_str fun _ => .str i
theorem de_bl {i j p} : PE X (.Constant (.bool i) j p) (lift B (dC (.bl i))) := de_con pe_bl fun _ => .bl i
theorem de_non {j p} : PE X (.Constant .none j p) (lift B (dC .non)) := de_con pe_non fun _ => .non

/-! ### operators -/
abbrev DR2 := D → D → Ow → DQ → Prop
def dOp (r : DR2) (ta tb : DTE) : DTE := fun env O q => ta env O fun x O1 => tb env O1 fun y O2 => r x y O2 q
/-- the reading r of values is met by the reading dr of data -/
def Sim2 (B : Bd) (r : R2) (dr : DR2) : Prop := ∀ (env : Env) (O : Ow) (σ : St) (H F : Hp) (x y : V) (dx dy : D) (q : DQ) (Q : VK), Rel B env O σ H F → RV B.K F dx x → RV B.K F dy y → dr dx dy O q →
  (∀ d v O' H' F', After B.K O H F O' H' F' → RV B.K F' d v → q d O' → Q v H') → r x y H Q
theorem lift_op {r : R2} {dr : DR2} {ta tb : DTE} (s : Sim2 B r dr) (σ : St) (H : Hp) (Q : VK) (h : lift B (dOp dr ta tb) σ H Q) : tOp r (lift B ta) (lift B tb) σ H Q := by
  obtain ⟨env, O, F, q, R, h, k⟩ := h
  refine ⟨env, O, F, _, R, h, fun dx x O1 H1 F1 a1 r1 h1 => ?_⟩
  have R1 := R.call a1
  refine ⟨env, O1, F1, _, R1, h1, fun dy y O2 H2 F2 a2 r2 h2 => ?_⟩
  exact s env O2 σ H2 F2 x y dx dy q Q (R1.call a2) (r1.mono a2.ff) r2 h2 fun d v O' H' F' a' r' => k d v O' H' F' (a1.trans (a2.trans a')) r'
theorem de_op {op : Operator} {r : R2} {dr : DR2} {a b : Expr} {ta tb : DTE} (ho : OpR X (binaryOp op) r) (s : Sim2 B r dr) (ha : PE X a (lift B ta)) (hb : PE X b (lift B tb)) : PE X (.BinOp a op b pos) (lift B (dOp dr ta tb)) :=
  PE.weak (pe_op ho ha hb) (lift_op s)
theorem de_cmp {op : CmpOp} {r : R2} {dr : DR2} {a b : Expr} {ta tb : DTE} (ho : OpR X (compareOp op) r) (s : Sim2 B r dr) (ha : PE X a (lift B ta)) (hb : PE X b (lift B tb)) (hm : behindInMarks op b = false) : PE X (.Compare a [op] [b] pos) (lift B (dOp dr ta tb)) :=
  PE.weak (pe_cmpR ho ha hb hm) (lift_op s)
def dTest (t : DTE) : DTT := fun env O q => t env O fun x O' => match x with | .bl k => q k O' | _ => False
theorem lift_test {t : DTE} (σ : St) (H : Hp) (Q : Bool → Hp → Prop) (h : liftT B (dTest t) σ H Q) : tTest (lift B t) σ H Q := by
  obtain ⟨env, O, F, q, R, h, k⟩ := h
  refine ⟨env, O, F, _, R, h, fun d v O1 H1 F1 a1 r1 h1 => ?_⟩
  cases d <;> try exact h1.elim
  cases r1
  exact ⟨_, rfl, k _ O1 H1 F1 a1 h1⟩
theorem tTest_mono {t t' : TE} (i : ∀ σ H Q, t' σ H Q → t σ H Q) (σ : St) (H : Hp) (Q : Bool → Hp → Prop) (h : tTest t' σ H Q) : tTest t σ H Q := i σ H _ h
theorem dt_cmp {op : CmpOp} {r : R2} {dr : DR2} {a b : Expr} {ta tb : DTE} (ho : OpR X (compareOp op) r) (s : Sim2 B r dr) (ha : PE X a (lift B ta)) (hb : PE X b (lift B tb)) (hm : behindInMarks op b = false) : PT X (.Compare a [op] [b] pos) (liftT B (dTest (dOp dr ta tb))) :=
  PT.weak (pt_cmpR ho ha hb hm) fun σ H Q h => tTest_mono (lift_op s) σ H Q (lift_test σ H Q h)

/-- ints -/
def dI2 (C : Int → Int → Prop) (g : Int → Int → D) : DR2 := fun x y O q => match x, y with
  | .int i, .int j => C i j ∧ q (g i j) O
  | _, _ => False
theorem sim_I {C : Int → Int → Prop} {g : Int → Int → V} {g' : Int → Int → D} (hg : ∀ F i j, RV B.K F (g' i j) (g i j)) : Sim2 B (rI C g) (dI2 C g') := by
  intro env O σ H F x y dx dy q Q R rx ry h k
  cases dx <;> cases dy <;> try exact h.elim
  rename_i i j
  cases rx; cases ry
  exact ⟨i, j, rfl, rfl, h.1, k _ _ O H F (.refl R) (hg F i j) h.2⟩
theorem sim_I0 {g : Int → Int → V} {g' : Int → Int → D} (hg : ∀ F i j, RV B.K F (g' i j) (g i j)) : Sim2 B (rI0 g) (dI2 (fun _ _ => True) g') := by
  intro env O σ H F x y dx dy q Q R rx ry h k
  cases dx <;> cases dy <;> try exact h.elim
  rename_i i j
  cases rx; cases ry
  exact ⟨i, j, rfl, rfl, k _ _ O H F (.refl R) (hg F i j) h.2⟩
end
end DL

set_option Elab.async false
set_option linter.all false
set_option maxRecDepth 100000
set_option maxHeartbeats 4000000
namespace DL
open PySem PySem.Spec PyProof.Rows L2

/-! ### a def's promise where no repr is under way -/
structure FnG (P : Program) (w : World) (K : Frag) (mg : Str → Option Value) (base : Heap) (CX : CXT) (k : Nat) (f : Addr) (fd : FuncData) (ps : List Str) (sp : Sp) : Prop where
  len : ∀ vs H Q E, sp vs H Q E → vs.length = ps.length
  run : ∀ (A : Around) (outer : List PySem.Env) (s : Shared) (H : Hp) (args : Args) (us : List Value) (vs : List V) (Q : VK) (E : XK), A.guards = some [] → Room k A →
    Env0 P w K mg base A outer s H → BindsTo s fd args (ps.zip us) → Vals vs us → sp vs H Q E → codeAny (model P w) A (.call (.ref f) args) (CR CX outer P w H s Q E) s
section
variable {P : Program} {w : World} {K : Frag} {mg : Str → Option Value} {base : Heap} {CX : CXT} {f : Addr} {fd : FuncData} {ps : List Str} {sp : Sp}
theorem FnG.mono {j k : Nat} (F : FnG P w K mg base CX j f fd ps sp) (h : j ≤ k) : FnG P w K mg base CX k f fd ps sp :=
  ⟨F.len, fun A o s H ar us vs Q E g r => F.run A o s H ar us vs Q E g (r.mono h)⟩
theorem FnG.ofOk {k : Nat} (F : FnOk P w K mg base CX k f fd ps sp) : FnG P w K mg base CX k f fd ps sp :=
  ⟨F.len, fun A o s H ar us vs Q E _ r => F.run A o s H ar us vs Q E r⟩
/-- by its body -/
theorem FnG.body {k : Nat} {name qual : Str} {params : Arguments} {body : List Stmt} {scope : Scope} {dV kV doc pm cdv ct oc : Value} {an od : Option Addr} {osl : Array (Option Value)} {N : List Str}
    (lk : K.lookup f = some ⟨oc, od, .func (PySem.W.fnOf name qual params body scope dV kV doc pm an cdv ct), osl⟩) (hcd : PySem.W.codeIn K cdv qual = true) (S : FnScope N ps scope)
    (len : ∀ vs H Q E, sp vs H Q E → vs.length = ps.length)
    (hb : ∀ (A : Around) (outer : List PySem.Env) (s : Shared) (H : Hp) (vs : List V) (Q : VK) (E : XK), (A.deeper (envOfC qual scope s.heap.objs.size f cdv)).guards = some [] → Room k (A.deeper (envOfC qual scope s.heap.objs.size f cdv)) → sp vs H Q E →
      ∃ t, PSs (cxOf CX P w K mg base N qual scope f cdv A outer s H E) body t ∧ t { nx := fun _ H' => Q .non H', rt := Q } (start N vs) H) :
    FnG P w K mg base CX (k + 1) f (PySem.W.fnOf name qual params body scope dV kV doc pm an cdv ct) ps sp := by
  refine ⟨len, fun A outer s H args us vs Q E hgd room e0 bnd vals hsp => ?_⟩
  have hK : K.In s.heap := e0.mod.kin.keeps fun b o z => (e0.bs b o z).1
  have hkind : ∀ y ∈ ps.zip us, scope.names.lookup y.1 = some .local ∨ (scope.names.lookup y.1 = some .cell ∧ ((cellsFrom (s.heap.objs.size + 1) scope.names []).lookup y.1).isSome = true) := by
    rintro ⟨nm, v⟩ hy
    have := S.par nm (List.of_mem_zip hy).1
    exact this.imp id fun q => ⟨q, PySem.W.cellsFrom_some _ _ _ (.inl q)⟩
  have hlim : s.heap.NoLimit := e0.mod.nolimit.keeps fun b o z => (e0.bs b o z).1
  refine codeAny_call_function room.depth (hK _ _ lk) rfl S.co S.gen rfl (PySem.W.codeRec_of hK hcd) (bnd _ _ _ _ (wpAny_newFunctionEnv_cells S.kind hkind ?_))
  rintro env rfl s1 inn
  refine ⟨hlim.keeps inn.toInCall.keep, codeAny_func ?_⟩
  obtain ⟨t, ht, hq⟩ := hb A outer s H vs Q E hgd (room.deeper _) hsp
  have J := inv_start (CX := CX) (E := E) S room.hd e0 (len _ _ _ _ hsp) vals inn
  refine wpAny_mono (ht.run [] s1 _ H _ J hq) (fun fl s' z => ?_) fun _ _ z => z
  rcases fl with _ | _ | _ | u
  · obtain ⟨σ', H', J', q⟩ := z
    exact ⟨.non, H', J'.os, J'.bare, J'.base, J'.hok, rfl, q⟩
  · obtain ⟨_, _, _, q⟩ := z
    exact q.elim
  · obtain ⟨_, _, _, q⟩ := z
    exact q.elim
  · obtain ⟨v, σ', H', J', rv, q⟩ := z
    exact ⟨v, H', J'.os, J'.bare, J'.base, J'.hok, rv, q⟩
theorem FnG.ofFun {x qual : Str} {st : Stmt} {k : Nat} {N : List Str} (F : Fun K x qual st f fd) (S : FnScope N ps (defScope st)) (len : ∀ vs H Q E, sp vs H Q E → vs.length = ps.length)
    (hb : ∀ (cdv : Value) (A : Around) (outer : List PySem.Env) (s : Shared) (H : Hp) (vs : List V) (Q : VK) (E : XK), (A.deeper (envOfC qual (defScope st) s.heap.objs.size f cdv)).guards = some [] → Room k (A.deeper (envOfC qual (defScope st) s.heap.objs.size f cdv)) → sp vs H Q E →
      ∃ t, PSs (cxOf CX P w K mg base N qual (defScope st) f cdv A outer s H E) (defBody st) t ∧ t { nx := fun _ H' => Q .non H', rt := Q } (start N vs) H) : FnG P w K mg base CX (k + 1) f fd ps sp := by
  obtain ⟨_, _, _, _, _, _, cdv, _, _, rfl, lk, hcd⟩ := F.ex
  exact FnG.body lk hcd S len (hb cdv)
theorem FnG.ofFunD {x qual : Str} {params : Arguments} {body : List Stmt} {scope : Scope} {dvs : List V} {kws : List (Str × V)} {k : Nat} {N : List Str} (F : FunD K x qual params body scope dvs kws f fd) (S : FnScope N ps scope) (len : ∀ vs H Q E, sp vs H Q E → vs.length = ps.length)
    (hb : ∀ (cdv : Value) (A : Around) (outer : List PySem.Env) (s : Shared) (H : Hp) (vs : List V) (Q : VK) (E : XK), (A.deeper (envOfC qual scope s.heap.objs.size f cdv)).guards = some [] → Room k (A.deeper (envOfC qual scope s.heap.objs.size f cdv)) → sp vs H Q E →
      ∃ t, PSs (cxOf CX P w K mg base N qual scope f cdv A outer s H E) body t ∧ t { nx := fun _ H' => Q .non H', rt := Q } (start N vs) H) : FnG P w K mg base CX (k + 1) f fd ps sp := by
  obtain ⟨_, _, _, _, _, _, _, cdv, _, _, rfl, lk, hcd, _, _⟩ := F.ex
  exact FnG.body lk hcd S len (hb cdv)
end

/-! ### the promise over data -/
/-- an exception over data: its class, its fields -/
abbrev DX := Value → List (Str × D) → Ow → Prop
/-- how it lies in the heap: d is its own dict -/
def XRel (K : Frag) (F' H' : Hp) (d : Option Addr) (fs : List (Str × D)) : Prop :=
  (d = none ∧ fs = []) ∨ ∃ (a : Addr) (gs : List (Str × V)), d = some a ∧ H' a = some (.xd gs) ∧ RKV K F' fs gs
abbrev DF := List D → Ow → DQ → DX → Prop
def spD (K : Frag) (n : Nat) (f : DF) : Sp := fun vs H Q E => ∃ F O ds q x, Same F H ∧ OwOk K O H F ∧ RVs K F ds vs ∧ ds.length = n ∧ f ds O q x ∧
  (∀ d v O' H' F', After K O H F O' H' F' → RV K F' d v → q d O' → Q v H') ∧
  (∀ c dx fs O' H' F', After K O H F O' H' F' → XRel K F' H' dx fs → x c fs O' → E c dx H')
theorem spD_len {K : Frag} {n : Nat} {f : DF} {ps : List Str} (h : ps.length = n) (vs : List V) (H : Hp) (Q : VK) (E : XK) (s : spD K n f vs H Q E) : vs.length = ps.length := by
  obtain ⟨F, O, ds, q, x, _, _, r, e, _⟩ := s
  rw [h, ← e, r.length]
def envOf (n : Nat) (ds : List D) : Env := ds.map some ++ List.replicate (n - ds.length) none
theorem rel_start {K : Frag} {O : Ow} {H F : Hp} {ds : List D} {vs : List V} {N : List Str} (s : Same F H) (ow : OwOk K O H F) (r : RVs K F ds vs) : Rel ⟨K, O, H, F⟩ (envOf N.length ds) O (L2.start N vs) H F := by
  refine ⟨.rfl' s ow, ⟨?_, fun i d e => ?_⟩⟩
  · unfold envOf L2.start
    simp only [List.length_append, List.length_map, List.length_replicate, r.length]
  · unfold envOf at e
    by_cases hi : i < ds.length
    · rw [List.getElem?_append_left (by simpa using hi), List.getElem?_map] at e
      cases q : ds[i]? with
      | none => rw [q] at e; cases e
      | some d' =>
        rw [q] at e
        cases e
        obtain ⟨v, h1, h2⟩ := r.get q
        refine ⟨v, ?_, h2⟩
        unfold L2.start
        rw [List.getElem?_append_left (by rw [List.length_map, ← r.length]; exact hi), List.getElem?_map, h1]; rfl
    · rw [List.getElem?_append_right (by simpa using hi), List.getElem?_replicate] at e
      split at e <;> cases e
end DL

set_option Elab.async false
set_option linter.all false
set_option maxRecDepth 100000
set_option maxHeartbeats 4000000
namespace DL
open PySem PySem.Spec PyProof.Rows L2

/-! ### exceptions over data -/
abbrev DW := Value → List (Str × D) → Env → Ow → Prop
def liftX (B : Bd) (w : DW) : WX := fun c d σ H => ∃ env O F fs, Rel B env O σ H F ∧ XRel B.K F H d fs ∧ w c fs env O
abbrev TakesD (X : Cx) (B : Bd) (w : DW) : Prop := Takes X (liftX B w)
abbrev w0 : DW := fun _ _ _ _ => False
theorem takesD0 {X : Cx} {B : Bd} : TakesD X B w0 := takes0.imp fun _ _ _ _ h => by
  obtain ⟨_, _, _, _, _, _, z⟩ := h
  exact z

section
variable {X : Cx} {B : Bd} {pos : Pos}
/-! ### calls of own defs -/
theorem run_G {pins : List (Addr × Obj)} {σ : St} {H : Hp} {s : Shared} {Q : VK} {us : List Value} {vs dvs : List V} {ds : List Value} {W : WX} {k : Nat} {f : Addr} {fd : FuncData} {ps : List Str} {sp : Sp}
    (F : FnG X.prog X.w X.K X.mg X.base (L2.CX X.prog X.w) k f fd ps sp) (hgd : X.A.guards = some []) (hr : Room k X.A) (hb : Binds X.K fd ps ds) (hd : Vals dvs ds) (tk : Takes X W)
    (I : Inv X pins σ H s) (r : Vals vs us) (h : sp (vs ++ dvs) H Q (fun c d H' => W c d σ H')) : wpAny (model X.prog X.w) X.A (call (.ref f) us) (EP X pins σ Q) X.xe s := by
  have rr := r.append hd
  have hl : (us ++ ds).length = ps.length := rr.length.symm.trans (F.len _ _ _ _ h)
  refine wpAny_call (codeAny_mono (F.run X.A X.stack s H ⟨us, []⟩ _ _ Q _ hgd hr I.env0 (hb s us I.kIn hl) rr h) fun r s' hq => ?_)
  match r, hq with
  | .error e, hq => exact tk _ s' (XE.of_call I (fun _ _ _ z => z) hq)
  | .ok (.ret u), hq => exact I.after hq
  | .ok .next, hq => exact False.elim hq
  | .ok .brk, hq => exact False.elim hq
  | .ok .cont, hq => exact False.elim hq
theorem run_GK {pins : List (Addr × Obj)} {σ : St} {H : Hp} {s : Shared} {Q : VK} {us ws : List Value} {vs zs : List V} {W : WX} {k n : Nat} {f : Addr} {fd : FuncData} {ps ks : List Str} {sp : Sp} {g : List Value → List Value → List Value} {gV : List V → List V → List V}
    (F : FnG X.prog X.w X.K X.mg X.base (L2.CX X.prog X.w) k f fd ps sp) (hgd : X.A.guards = some []) (hr : Room k X.A) (hb : KBn X.K fd ps n ks g gV) (tk : Takes X W)
    (I : Inv X pins σ H s) (r : Vals vs us) (rz : Vals zs ws) (l1 : us.length = n) (l2 : ws.length = ks.length) (h : sp (gV vs zs) H Q (fun c d H' => W c d σ H')) : wpAny (model X.prog X.w) X.A (call (.ref f) us (ks.zip ws)) (EP X pins σ Q) X.xe s := by
  refine wpAny_call (codeAny_mono (F.run X.A X.stack s H ⟨us, ks.zip ws⟩ _ _ Q _ hgd hr I.env0 (hb.to s us ws I.kIn l1 l2) (hb.rel r rz) h) fun r s' hq => ?_)
  match r, hq with
  | .error e, hq => exact tk _ s' (XE.of_call I (fun _ _ _ z => z) hq)
  | .ok (.ret u), hq => exact I.after hq
  | .ok .next, hq => exact False.elim hq
  | .ok .brk, hq => exact False.elim hq
  | .ok .cont, hq => exact False.elim hq
def dCall (fn : DF) (n : Nat) (w : DW) (dds : List D) (ta : DTA) : DTE := fun env O q => ta env O fun ds O1 => (ds ++ dds).length = n ∧ fn (ds ++ dds) O1 q fun c fs O' => w c fs env O'
/-- from the caller's state to the callee's promise -/
theorem sp_of {env : Env} {O : Ow} {σ : St} {H F : Hp} {ds : List D} {vs : List V} {n : Nat} {fn : DF} {w : DW} {q : DQ} {Q : VK} (R : Rel B env O σ H F) (r : RVs B.K F ds vs) (hl : ds.length = n)
    (h : fn ds O q fun c fs O' => w c fs env O') (k : ∀ d v O' H' F', After B.K O H F O' H' F' → RV B.K F' d v → q d O' → Q v H') : spD B.K n fn vs H Q (fun c d H' => liftX B w c d σ H') :=
  ⟨F, O, ds, q, _, R.fh, R.ow, r, hl, h, k, fun c dx fs O' H' F' a xr hx => ⟨env, O', F', fs, R.call a, xr, hx⟩⟩
section
variable {e : Expr} {es : List Expr} {x : Str} {p : Pos} {k n : Nat} {f : Addr} {fd : FuncData} {ps : List Str} {fn : DF} {w : DW} {ta tb : DTA} {dvs : List V} {dds : List D} {ds : List Value}
theorem de_call (F : FnG X.prog X.w X.K X.mg X.base (L2.CX X.prog X.w) k f fd ps (spD B.K n fn)) (hgd : X.A.guards = some []) (hr : Room k X.A) (hg : Gl X x) (hm : X.mg x = some (.ref f)) (hk : PySem.W.keepIn X.K (.ref f) = true)
    (hb : Binds X.K fd ps ds) (hd : Vals dvs ds) (hdd : ∀ F, RVs B.K F dds dvs) (tk : TakesD X B w) (ha : PA X (e :: es) (liftA B ta))
    (hdb : (x == ("__debug__" : Str)) = false := by decide) (he : starEach (e :: es) X.env = (false, eval e X.env) :: starEach es X.env := by rfl) (hpl : (backTo pos (starEach es X.env)).any (·.1) = false := by rfl) :
    PE X (.Call (.Name x p) (e :: es) [] pos) (lift B (dCall fn n w dds ta)) := by
  refine ⟨fun pins s σ H Q I h => wpAny_Call_Name_kw (ld_glob I hg hm ?_ hdb)⟩
  obtain ⟨env, O, F0, q, R, h, kk⟩ := h
  refine PySem.W.callWith_K (h₀ := X.base) I.ok.mod.kin hk (thn (ha.run pos pins s σ H (fun vs H1 => spD B.K n fn (vs ++ dvs) H1 Q (fun c d H' => liftX B w c d σ H')) I ⟨env, O, F0, _, R, h, ?_⟩) fun us s1 ⟨vs, H1, I1, rv, hz⟩ => ⟨I1.kIn, ?_⟩) he hpl
  · intro ds vs O1 H1 F1 a1 r1 q1
    exact sp_of (R.call a1) (r1.append (hdd F1)) q1.1 q1.2 fun d v O' H' F' a' r' hq => kk d v O' H' F' (a1.trans a') r' hq
  · exact run_G F hgd hr hb hd tk I1 rv hz
theorem de_call0 (F : FnG X.prog X.w X.K X.mg X.base (L2.CX X.prog X.w) k f fd ps (spD B.K n fn)) (hgd : X.A.guards = some []) (hr : Room k X.A) (hg : Gl X x) (hm : X.mg x = some (.ref f)) (hk : PySem.W.keepIn X.K (.ref f) = true)
    (hb : Binds X.K fd ps ds) (hd : Vals dvs ds) (hdd : ∀ F, RVs B.K F dds dvs) (tk : TakesD X B w) (hdb : (x == ("__debug__" : Str)) = false := by decide) :
    PE X (.Call (.Name x p) [] [] pos) (lift B (dCall fn n w dds fun _ O q => q [] O)) := by
  refine ⟨fun pins s σ H Q I h => wpAny_Call_Name_kw (ld_glob I hg hm ?_ hdb)⟩
  obtain ⟨env, O, F0, q, R, h, kk⟩ := h
  exact PySem.W.callWith_K0 I.kIn hk (run_G (us := []) (vs := []) F hgd hr hb hd tk I .nil (sp_of R (hdd F0) h.1 h.2 kk))
/-- with keywords: gD puts the data in the parameters' order -/
def dCallK (fn : DF) (n m l : Nat) (w : DW) (gD : List D → List D → List D) (ta tb : DTA) : DTE := fun env O q => ta env O fun ds O1 => tb env O1 fun es O2 => ds.length = m ∧ es.length = l ∧ (gD ds es).length = n ∧ fn (gD ds es) O2 q fun c fs O' => w c fs env O'
theorem de_callK {m : Nat} {ks : List Str} {kws : List Keyword} {g : List Value → List Value → List Value} {gV : List V → List V → List V} {gD : List D → List D → List D}
    (F : FnG X.prog X.w X.K X.mg X.base (L2.CX X.prog X.w) k f fd ps (spD B.K n fn)) (hgd : X.A.guards = some []) (hr : Room k X.A) (hg : Gl X x) (hm : X.mg x = some (.ref f)) (hk : PySem.W.keepIn X.K (.ref f) = true)
    (hb : KBn X.K fd ps m ks g gV) (hgD : ∀ F ds vs es zs, RVs B.K F ds vs → RVs B.K F es zs → RVs B.K F (gD ds es) (gV vs zs)) (tk : TakesD X B w) (ha : PA X (e :: es) (liftA B ta)) (hkw : PK X kws (liftA B tb))
    (hall : (backToKw pos (keywordEach kws X.env)).all (·.1.isSome) = true := by rfl) (hks : (backToKw pos (keywordEach kws X.env)).filterMap (·.1) = ks := by rfl)
    (hdb : (x == ("__debug__" : Str)) = false := by decide) (he : starEach (e :: es) X.env = (false, eval e X.env) :: starEach es X.env := by rfl)
    (hpl : ((backTo pos (starEach (e :: es) X.env)).any (·.1) || (backToKw pos (keywordEach kws X.env)).any (·.1.isNone)) = false := by rfl) :
    PE X (.Call (.Name x p) (e :: es) kws pos) (lift B (dCallK fn n m ks.length w gD ta tb)) := by
  refine ⟨fun pins s σ H Q I h => wpAny_Call_Name_kw (ld_glob I hg hm ?_ hdb)⟩
  obtain ⟨env, O, F0, q, R, h, kk⟩ := h
  refine PySem.W.callWith_KW (h₀ := X.base) I.ok.mod.kin hk hall (thn (ha.run pos pins s σ H (fun vs H1 => liftA B tb σ H1 (fun zs H2 => vs.length = m ∧ zs.length = ks.length ∧ spD B.K n fn (gV vs zs) H2 Q (fun c d H' => liftX B w c d σ H'))) I ⟨env, O, F0, _, R, h, ?_⟩) fun us s1 ⟨vs, H1, I1, rv, hz⟩ => ?_) hpl he
  · intro ds vs O1 H1 F1 a1 r1 q1
    have R1 := R.call a1
    refine ⟨env, O1, F1, _, R1, q1, fun es zs O2 H2 F2 a2 r2 q2 => ?_⟩
    refine ⟨r1.length ▸ q2.1, r2.length ▸ q2.2.1, sp_of (R1.call a2) (hgD F2 _ _ _ _ (r1.mono a2.ff) r2) q2.2.2.1 q2.2.2.2 fun d v O' H' F' a' r' hq => kk d v O' H' F' (a1.trans (a2.trans a')) r' hq⟩
  · refine thn (hkw.run pos pins s1 σ H1 _ I1 hz) fun ws s2 ⟨zs, H2, I2, rz, l1, l2, hz⟩ => ⟨I2.kIn, ?_⟩
    rw [hks]
    exact run_GK F hgd hr hb tk I2 rv rz (rv.length ▸ l1) (rz.length ▸ l2) hz
end

/-! ### arguments -/
def dNil : DTA := fun _ O q => q [] O
def dCons (ta : DTE) (tr : DTA) : DTA := fun env O q => ta env O fun x O1 => tr env O1 fun xs O2 => q (x :: xs) O2
theorem lift_nil (σ : St) (H : Hp) (Q : List V → Hp → Prop) (h : liftA B dNil σ H Q) : tNil σ H Q := by
  obtain ⟨env, O, F, q, R, h, k⟩ := h
  exact k [] [] O H F (.refl R) .nil h
theorem lift_cons {ta : DTE} {tr : DTA} (σ : St) (H : Hp) (Q : List V → Hp → Prop) (h : liftA B (dCons ta tr) σ H Q) : tCons (lift B ta) (liftA B tr) σ H Q := by
  obtain ⟨env, O, F, q, R, h, k⟩ := h
  refine ⟨env, O, F, _, R, h, fun d v O1 H1 F1 a1 r1 h1 => ?_⟩
  refine ⟨env, O1, F1, _, R.call a1, h1, fun ds vs O2 H2 F2 a2 r2 h2 => ?_⟩
  exact k _ _ O2 H2 F2 (a1.trans a2) (.cons (r1.mono a2.ff) r2) h2
theorem da_nil : PA X [] (liftA B dNil) := PA.weak pa_nil lift_nil
theorem da_cons {e : Expr} {es : List Expr} {ta : DTE} {tr : DTA} (ha : PE X e (lift B ta)) (hr : PA X es (liftA B tr)) (hs : starEach (e :: es) X.env = (false, eval e X.env) :: starEach es X.env := by rfl) : PA X (e :: es) (liftA B (dCons ta tr)) :=
  PA.weak (pa_cons ha hr hs) lift_cons
theorem PK.weak {es : List Keyword} {t t' : TA} (h : PK X es t) (i : ∀ σ H Q, t' σ H Q → t σ H Q) : PK X es t' := ⟨fun pos pins s σ H Q I q => h.run pos pins s σ H Q I (i σ H Q q)⟩
theorem dk_nil : PK X [] (liftA B dNil) := PK.weak pk_nil lift_nil
theorem dk_cons {e : Expr} {kws : List Keyword} {nm : Option Str} {kpos : Pos} {ta : DTE} {tr : DTA} (ha : PE X e (lift B ta)) (hr : PK X kws (liftA B tr)) : PK X (⟨nm, e, kpos⟩ :: kws) (liftA B (dCons ta tr)) :=
  PK.weak (pk_cons ha hr) lift_cons

/-! ### displays -/
def dTup (t : DTA) : DTE := fun env O q => t env O fun ds O1 => ds.length ≤ sizeLine ∧ q (.tup ds) O1
def dLst (t : DTA) : DTE := fun env O q => t env O fun ds O1 => ds.length ≤ sizeLine ∧ q (.lst ds) O1
/-- a list of one's own -/
def dLstO (t : DTA) : DTE := fun env O q => t env O fun ds O1 => ds.length ≤ sizeLine ∧ ∀ p, O1 p = none → q (.ref p) (setO O1 p (.lst ds))
theorem de_tup {es : List Expr} {x1} {t : DTA} (h : PA X es (liftA B t)) : PE X (.Tuple es x1 pos) (lift B (dTup t)) := by
  refine PE.weak (pe_tup h) fun σ H Q h => ?_
  obtain ⟨env, O, F, q, R, h, k⟩ := h
  refine ⟨env, O, F, _, R, h, fun ds vs O1 H1 F1 a1 r1 h1 => ⟨r1.length ▸ h1.1, fun p hp => ?_⟩⟩
  have a2 := (R.call a1).froz hp (.tup vs)
  exact k _ _ O1 _ _ (a1.trans a2) (.tup (SqT.of upd_same) (r1.mono a2.ff)) h1.2
theorem de_lst {es : List Expr} {t : DTA} (h : PA X es (liftA B t)) : PE X (.List es pos) (lift B (dLst t)) := by
  refine PE.weak (pe_lst h) fun σ H Q h => ?_
  obtain ⟨env, O, F, q, R, h, k⟩ := h
  refine ⟨env, O, F, _, R, h, fun ds vs O1 H1 F1 a1 r1 h1 => ⟨r1.length ▸ h1.1, fun p hp => ?_⟩⟩
  have a2 := (R.call a1).froz hp (.lst vs)
  exact k _ _ O1 _ _ (a1.trans a2) (.lst (SqL.of upd_same) (r1.mono a2.ff)) h1.2
theorem de_lstO {es : List Expr} {t : DTA} (h : PA X es (liftA B t)) : PE X (.List es pos) (lift B (dLstO t)) := by
  refine PE.weak (pe_lst h) fun σ H Q h => ?_
  obtain ⟨env, O, F, q, R, h, k⟩ := h
  refine ⟨env, O, F, _, R, h, fun ds vs O1 H1 F1 a1 r1 h1 => ⟨r1.length ▸ h1.1, fun p hp => ?_⟩⟩
  have R1 := R.call a1
  exact k _ _ _ _ F1 (a1.trans (R1.own hp (u := .lst ds) ⟨vs, rfl, r1⟩)) (.ref p) (h1.2 p (R1.free hp).1)

/-! ### tests -/
def dAnd (t u : DTT) : DTT := fun env O q => t env O fun c O1 => if c = true then u env O1 q else q false O1
def dOr (t u : DTT) : DTT := fun env O q => t env O fun c O1 => if c = true then q true O1 else u env O1 q
def dNot (t : DTT) : DTT := fun env O q => t env O fun c O1 => q (!c) O1
theorem lift_and {t u : DTT} (σ : St) (H : Hp) (Q : Bool → Hp → Prop) (h : liftT B (dAnd t u) σ H Q) : tAnd (liftT B t) (liftT B u) σ H Q := by
  obtain ⟨env, O, F, q, R, h, k⟩ := h
  refine ⟨env, O, F, _, R, h, fun b O1 H1 F1 a1 h1 => ?_⟩
  cases b with
  | true =>
    rw [if_pos rfl] at h1 ⊢
    exact ⟨env, O1, F1, q, R.call a1, h1, fun b O2 H2 F2 a2 => k b O2 H2 F2 (a1.trans a2)⟩
  | false =>
    rw [if_neg (by decide)] at h1 ⊢
    exact k false O1 H1 F1 a1 h1
theorem lift_or {t u : DTT} (σ : St) (H : Hp) (Q : Bool → Hp → Prop) (h : liftT B (dOr t u) σ H Q) : tOr (liftT B t) (liftT B u) σ H Q := by
  obtain ⟨env, O, F, q, R, h, k⟩ := h
  refine ⟨env, O, F, _, R, h, fun b O1 H1 F1 a1 h1 => ?_⟩
  cases b with
  | true =>
    rw [if_pos rfl] at h1 ⊢
    exact k true O1 H1 F1 a1 h1
  | false =>
    rw [if_neg (by decide)] at h1 ⊢
    exact ⟨env, O1, F1, q, R.call a1, h1, fun b O2 H2 F2 a2 => k b O2 H2 F2 (a1.trans a2)⟩
theorem dt_not {a : Expr} {t : DTT} (h : PT X a (liftT B t)) : PT X (.UnaryOp .Not a pos) (liftT B (dNot t)) := PT.weak (pt_not h) fun σ H Q h => by
  obtain ⟨env, O, F, q, R, h, k⟩ := h
  exact ⟨env, O, F, _, R, h, fun b O1 H1 F1 a1 h1 => k _ O1 H1 F1 a1 h1⟩
theorem PW.weak {e : Expr} {t t' : TT} (h : PW X e t) (i : ∀ σ H Q, t' σ H Q → t σ H Q) : PW X e t' := ⟨fun wh pins s σ H Q I q => h.run wh pins s σ H Q I (i σ H Q q)⟩
theorem dw_and1 {a : Expr} {t : DTT} (h : PT X a (liftT B t)) : PW X (.BoolOp .And [a] pos) (liftT B t) := pw_and1 h
theorem dw_or1 {a : Expr} {t : DTT} (h : PT X a (liftT B t)) : PW X (.BoolOp .Or [a] pos) (liftT B t) := pw_or1 h
theorem dw_and {a b : Expr} {rest : List Expr} {t u : DTT} (h : PT X a (liftT B t)) (h2 : PW X (.BoolOp .And (b :: rest) pos) (liftT B u)) : PW X (.BoolOp .And (a :: b :: rest) pos) (liftT B (dAnd t u)) := PW.weak (pw_and h h2) lift_and
theorem dw_or {a b : Expr} {rest : List Expr} {t u : DTT} (h : PT X a (liftT B t)) (h2 : PW X (.BoolOp .Or (b :: rest) pos) (liftT B u)) : PW X (.BoolOp .Or (a :: b :: rest) pos) (liftT B (dOr t u)) := PW.weak (pw_or h h2) lift_or
/-- as values: all but the last are bools -/
def dAndV (ta tb : DTE) : DTE := fun env O q => ta env O fun x O1 => match x with | .bl true => tb env O1 q | .bl false => q (.bl false) O1 | _ => False
def dOrV (ta tb : DTE) : DTE := fun env O q => ta env O fun x O1 => match x with | .bl false => tb env O1 q | .bl true => q (.bl true) O1 | _ => False
def dNotV (ta : DTE) : DTE := fun env O q => ta env O fun x O1 => match x with | .bl b => q (.bl !b) O1 | _ => False
theorem de_one {op} {a : Expr} {t : DTE} (h : PE X a (lift B t)) : PE X (.BoolOp op [a] pos) (lift B t) := pe_one h
theorem de_and {a b : Expr} {rest : List Expr} {ta tb : DTE} (h : PE X a (lift B ta)) (h2 : PE X (.BoolOp .And (b :: rest) pos) (lift B tb)) : PE X (.BoolOp .And (a :: b :: rest) pos) (lift B (dAndV ta tb)) :=
  PE.weak (pe_and h h2) fun σ H Q h => by
    obtain ⟨env, O, F, q, R, h, k⟩ := h
    refine ⟨env, O, F, _, R, h, fun d v O1 H1 F1 a1 r1 h1 => ?_⟩
    cases d <;> try exact h1.elim
    rename_i b
    cases r1
    cases b with
    | true => exact ⟨true, rfl, by rw [if_pos rfl]; exact ⟨env, O1, F1, q, R.call a1, h1, fun b v O2 H2 F2 a2 => k b v O2 H2 F2 (a1.trans a2)⟩⟩
    | false => exact ⟨false, rfl, by rw [if_neg (by decide)]; exact k _ _ O1 H1 F1 a1 (.bl _) h1⟩
theorem de_or {a b : Expr} {rest : List Expr} {ta tb : DTE} (h : PE X a (lift B ta)) (h2 : PE X (.BoolOp .Or (b :: rest) pos) (lift B tb)) : PE X (.BoolOp .Or (a :: b :: rest) pos) (lift B (dOrV ta tb)) :=
  PE.weak (pe_or h h2) fun σ H Q h => by
    obtain ⟨env, O, F, q, R, h, k⟩ := h
    refine ⟨env, O, F, _, R, h, fun d v O1 H1 F1 a1 r1 h1 => ?_⟩
    cases d <;> try exact h1.elim
    rename_i b
    cases r1
    cases b with
    | false => exact ⟨false, rfl, by rw [if_neg (by decide)]; exact ⟨env, O1, F1, q, R.call a1, h1, fun b v O2 H2 F2 a2 => k b v O2 H2 F2 (a1.trans a2)⟩⟩
    | true => exact ⟨true, rfl, by rw [if_pos rfl]; exact k _ _ O1 H1 F1 a1 (.bl _) h1⟩
theorem de_not {a : Expr} {ta : DTE} (h : PE X a (lift B ta)) : PE X (.UnaryOp .Not a pos) (lift B (dNotV ta)) :=
  PE.weak (pe_not h) fun σ H Q h => by
    obtain ⟨env, O, F, q, R, h, k⟩ := h
    refine ⟨env, O, F, _, R, h, fun d v O1 H1 F1 a1 r1 h1 => ?_⟩
    cases d <;> try exact h1.elim
    cases r1
    exact ⟨_, rfl, k _ _ O1 H1 F1 a1 (.bl _) h1⟩
def dIfE (t : DTT) (ta tb : DTE) : DTE := fun env O q => t env O fun c O1 => if c = true then ta env O1 q else tb env O1 q
theorem de_if {c a b : Expr} {t : DTT} {ta tb : DTE} (hc : PT X c (liftT B t)) (ha : PE X a (lift B ta)) (hb : PE X b (lift B tb)) : PE X (.IfExp c a b pos) (lift B (dIfE t ta tb)) :=
  PE.weak (pe_ifExp hc ha hb) fun σ H Q h => by
    obtain ⟨env, O, F, q, R, h, k⟩ := h
    refine ⟨env, O, F, _, R, h, fun b O1 H1 F1 a1 h1 => ?_⟩
    cases b with
    | true =>
      rw [if_pos rfl] at h1 ⊢
      exact ⟨env, O1, F1, q, R.call a1, h1, fun d v O2 H2 F2 a2 => k d v O2 H2 F2 (a1.trans a2)⟩
    | false =>
      rw [if_neg (by decide)] at h1 ⊢
      exact ⟨env, O1, F1, q, R.call a1, h1, fun d v O2 H2 F2 a2 => k d v O2 H2 F2 (a1.trans a2)⟩

/-! ### statements -/
def dNext : DTS := fun E env O => E.nx env O
def dSeq (t u : DTS) : DTS := fun E env O => t { E with nx := u E } env O
theorem ds_nil : PSs X [] (liftS B dNext) := PSs.weak pss_nil fun E σ H h => by
  obtain ⟨env, O, F, d, R, h, m⟩ := h
  exact m.nx env O σ H F (.refl R) R.sl h
theorem ds_cons {st : Stmt} {rest : List Stmt} {t u : DTS} (h1 : PS X st (liftS B t)) (h2 : PSs X rest (liftS B u)) : PSs X (st :: rest) (liftS B (dSeq t u)) := PSs.weak (pss_cons h1 h2) fun E σ H h => by
  obtain ⟨env, O, F, d, R, h, m⟩ := h
  exact ⟨env, O, F, { d with nx := u d }, R, h, ⟨fun env' O' σ' H' F' a sl hu => ⟨env', O', F', d, R.on a sl, hu, m.later a⟩, m.rt, m.bk, m.ct⟩⟩
theorem ds_one {st : Stmt} {t : DTS} (h1 : PS X st (liftS B t)) : PSs X [st] (liftS B t) := pss_one h1
def dBreak : DTS := fun E env O => E.bk env O
def dCont : DTS := fun E env O => E.ct env O
theorem ds_pass : PS X (.Pass pos) (liftS B dNext) := PS.weak ps_pass fun E σ H h => by
  obtain ⟨env, O, F, d, R, h, m⟩ := h
  exact m.nx env O σ H F (.refl R) R.sl h
theorem ds_break : PS X (.Break pos) (liftS B dBreak) := PS.weak ps_break fun E σ H h => by
  obtain ⟨env, O, F, d, R, h, m⟩ := h
  exact m.bk env O σ H F (.refl R) R.sl h
theorem ds_continue : PS X (.Continue pos) (liftS B dCont) := PS.weak ps_continue fun E σ H h => by
  obtain ⟨env, O, F, d, R, h, m⟩ := h
  exact m.ct env O σ H F (.refl R) R.sl h
theorem ds_doc {x j pos pos'} : PS X (.Expr (.Constant (.str x) j pos) pos') (liftS B dNext) := PS.weak ps_doc fun E σ H h => by
  obtain ⟨env, O, F, d, R, h, m⟩ := h
  exact m.nx env O σ H F (.refl R) R.sl h
def dExpr (te : DTE) : DTS := fun E env O => te env O fun _ O1 => E.nx env O1
theorem ds_expr {e : Expr} {te : DTE} (he : PE X e (lift B te)) (hs : swapsWith e none pos.line X.env = pure false := by rfl) : PS X (.Expr e pos) (liftS B (dExpr te)) := PS.weak (ps_expr he hs) fun E σ H h => by
  obtain ⟨env, O, F, d, R, h, m⟩ := h
  exact ⟨env, O, F, _, R, h, fun x v O1 H1 F1 a1 r1 h1 => m.nx env O1 σ H1 F1 a1 (R.sl.mono a1.ff) h1⟩
def dRet (te : DTE) : DTS := fun E env O => te env O E.rt
theorem ds_ret {e : Expr} {te : DTE} (he : PE X e (lift B te)) : PS X (.Return (some e) pos) (liftS B (dRet te)) := PS.weak (ps_ret he) fun E σ H h => by
  obtain ⟨env, O, F, d, R, h, m⟩ := h
  exact ⟨env, O, F, _, R, h, m.rt⟩
def dRetN : DTS := fun E _ O => E.rt .non O
theorem ds_retN : PS X (.Return none pos) (liftS B dRetN) := PS.weak ps_retN fun E σ H h => by
  obtain ⟨env, O, F, d, R, h, m⟩ := h
  exact m.rt .non .non O H F (.refl R) .non h
def dIf (c : DTT) (t u : DTS) : DTS := fun E env O => c env O fun b O1 => if b = true then t E env O1 else u E env O1
theorem ds_if {c : Expr} {a b : List Stmt} {tc : DTT} {t u : DTS} (hc : PT X c (liftT B tc)) (ha : PSs X a (liftS B t)) (hb : PSs X b (liftS B u)) : PS X (.If c a b pos) (liftS B (dIf tc t u)) := PS.weak (ps_if hc ha hb) fun E σ H h => by
  obtain ⟨env, O, F, d, R, h, m⟩ := h
  refine ⟨env, O, F, _, R, h, fun b O1 H1 F1 a1 h1 => ?_⟩
  cases b with
  | true =>
    rw [if_pos rfl] at h1 ⊢
    exact ⟨env, O1, F1, d, R.call a1, h1, m.later a1⟩
  | false =>
    rw [if_neg (by decide)] at h1 ⊢
    exact ⟨env, O1, F1, d, R.call a1, h1, m.later a1⟩
theorem ds_never {st : Stmt} : PS X st (liftS B fun _ _ _ => False) := PS.weak ps_never fun E σ H h => by
  obtain ⟨env, O, F, d, R, h, _⟩ := h
  exact h

/-! ### targets -/
abbrev DTG := D → Env → Ow → (Env → Ow → Prop) → Prop
def liftG (B : Bd) (t : DTG) : TG := fun v σ H Q => ∃ d env O F q, Rel B env O σ H F ∧ RV B.K F d v ∧ t d env O q ∧ ∀ env' O' σ' H' F', After B.K O H F O' H' F' → Sl B.K env' σ' F' → q env' O' → Q σ' H'
def dgName (i : Nat) : DTG := fun d env O q => q (env.set i (some d)) O
theorem PG.weak {tg : Expr} {t t' : TG} (h : PG X tg t) (i : ∀ v σ H Q, t' v σ H Q → t v σ H Q) : PG X tg t' := ⟨fun pins s σ H v u Q I r q => h.run pins s σ H v u Q I r (i v σ H Q q)⟩
theorem dg_name {tg : Expr} {i : Nat} (h : PG X tg (gName i)) : PG X tg (liftG B (dgName i)) := PG.weak h fun v σ H Q h => by
  obtain ⟨d, env, O, F, q, R, r, h, k⟩ := h
  exact k _ O _ H F (.refl R) (R.sl.setv r) h
def dAsg (te : DTE) (g : DTG) : DTS := fun E env O => te env O fun d O1 => g d env O1 E.nx
theorem lift_asg {te : DTE} {g : DTG} (E : Ends) (σ : St) (H : Hp) (h : liftS B (dAsg te g) E σ H) : tAsg (lift B te) (liftG B g) E σ H := by
  obtain ⟨env, O, F, d, R, h, m⟩ := h
  exact ⟨env, O, F, _, R, h, fun x v O1 H1 F1 a1 r1 h1 => ⟨x, env, O1, F1, _, R.call a1, r1, h1, fun e o σ' h f a2 => m.nx e o σ' h f (a1.trans a2)⟩⟩
theorem ds_set {st : Stmt} {te : DTE} {i : Nat} (h : PS X st (tAsg (lift B te) (gName i))) : PS X st (liftS B (dAsg te (dgName i))) := PS.weak h fun E σ H h => by
  obtain ⟨env, O, F, d, R, h, m⟩ := h
  exact ⟨env, O, F, _, R, h, fun x v O1 H1 F1 a1 r1 h1 => m.nx _ O1 _ H1 F1 a1 ((R.sl.mono a1.ff).setv r1) h1⟩
theorem ds_asg {st : Stmt} {te : DTE} {g : DTG} (h : PS X st (tAsg (lift B te) (liftG B g))) : PS X st (liftS B (dAsg te g)) := PS.weak h lift_asg
/-- a, b = x, y -/
def dPar (i j : Nat) (ta : DTA) : DTS := fun E env O => ta env O fun ds O1 => match ds with | [d, e] => E.nx ((env.set i (some d)).set j (some e)) O1 | _ => False
theorem ds_par {st : Stmt} {i j : Nat} {ta : DTA} (h : PS X st (tPar i j (liftA B ta))) : PS X st (liftS B (dPar i j ta)) := PS.weak h fun E σ H h => by
  obtain ⟨env, O, F, d, R, h, m⟩ := h
  refine ⟨env, O, F, _, R, h, fun ds vs O1 H1 F1 a1 r1 h1 => ?_⟩
  match ds, r1, h1 with
  | [a, b], r1, h1 =>
    obtain ⟨v, w, rfl, r1, r2⟩ := r1.two
    exact ⟨v, w, rfl, m.nx _ O1 _ H1 F1 a1 (((R.sl.mono a1.ff).setv r1).setv r2) h1⟩
/-- several targets -/
abbrev DTGs := List D → Env → Ow → (Env → Ow → Prop) → Prop
def liftGs (B : Bd) (t : DTGs) : TGs := fun vs σ H Q => ∃ ds env O F q, Rel B env O σ H F ∧ RVs B.K F ds vs ∧ t ds env O q ∧ ∀ env' O' σ' H' F', After B.K O H F O' H' F' → Sl B.K env' σ' F' → q env' O' → Q σ' H'
def dgNil : DTGs := fun ds env O q => ds = [] ∧ q env O
def dgCons (t : DTG) (u : DTGs) : DTGs := fun ds env O q => match ds with | d :: r => t d env O fun env' O' => u r env' O' q | [] => False
theorem PGs.weak {tg : List Expr} {t t' : TGs} (h : PGs X tg t) (i : ∀ v σ H Q, t' v σ H Q → t v σ H Q) : PGs X tg t' := ⟨fun pins s σ H v u Q I r q => h.run pins s σ H v u Q I r (i v σ H Q q)⟩
theorem dgs_nil : PGs X [] (liftGs B dgNil) := PGs.weak pgs_nil fun vs σ H Q h => by
  obtain ⟨ds, env, O, F, q, R, r, h, k⟩ := h
  obtain ⟨rfl, h⟩ := h
  cases r
  exact ⟨rfl, k env O σ H F (.refl R) R.sl h⟩
theorem dgs_cons {e : Expr} {es : List Expr} {t : DTG} {u : DTGs} (h1 : PG X e (liftG B t)) (h2 : PGs X es (liftGs B u)) (hs : (assignEach (e :: es) X.env).map (·.2) = assign e X.env :: (assignEach es X.env).map (·.2) := by rfl) :
    PGs X (e :: es) (liftGs B (dgCons t u)) := PGs.weak (pgs_cons h1 h2 hs) fun vs σ H Q h => by
  obtain ⟨ds, env, O, F, q, R, r, h, k⟩ := h
  cases r with
  | nil => exact h.elim
  | cons r rs =>
    refine ⟨_, _, rfl, _, env, O, F, _, R, r, h, fun env' O' σ' H' F' a1 s1 h1 => ?_⟩
    exact ⟨_, env', O', F', q, R.on a1 s1, rs.mono a1.ff, h1, fun e o σ' h f a2 => k e o σ' h f (a1.trans a2)⟩
def dgTup (n : Nat) (t : DTGs) : DTG := fun d env O q => match d with | .tup ds => ds.length = n ∧ t ds env O q | _ => False
theorem dg_tup {es : List Expr} {k : Nat} {t : DTGs} {n : Nat} (hK : X.K = B.K) (hc : X.calm = true) (h : PGs X es (liftGs B t)) (hn : (assignEach es X.env).length = n := by rfl) (hst : (assignEach es X.env).findIdx? (·.1) = none := by rfl) :
    PG X (.Tuple es k pos) (liftG B (dgTup n t)) := PG.weak (pg_tup hc h hn hst) fun v σ H Q h => by
  obtain ⟨d, env, O, F, q, R, r, h, kk⟩ := h
  cases d <;> try exact h.elim
  cases r with
  | tup hs hr =>
    refine ⟨_, _, rfl, by rw [hK]; exact same_tup R.fh hs, hr.length ▸ h.1, ?_⟩
    exact ⟨_, env, O, F, q, R, hr, h.2, kk⟩
end
end DL

set_option Elab.async false
set_option linter.all false
set_option maxRecDepth 100000
set_option maxHeartbeats 4000000
namespace DL
open PySem PySem.Spec PyProof.Rows L2

/-! ### what is walked -/
abbrev DTI := Env → Ow → (List D → (Ow → Prop) → Ow → Prop) → Prop
/-- the iterator J yields xs, while what Gd says of the ghost heap holds -/
def ItD (B : Bd) (J : It) (xs : List D) (Gd : Ow → Prop) (F1 : Hp) : Prop := ∀ (O : Ow) (H F : Hp) (i : Nat), Same F1 F → Same F H → OwOk B.K O H F → Gd O →
  (∀ x, xs[i]? = some x → J.go i H ∧ ∀ v H2, J.yld i H v H2 → ∃ F2, After B.K O H F O H2 F2 ∧ RV B.K F2 x v) ∧ (i = xs.length → J.stop i H)
def liftI (B : Bd) (wi : DTI) : TI := fun σ H R => ∃ env O F q, Rel B env O σ H F ∧ wi env O q ∧
  ∀ xs Gd O' H' F' J, After B.K O H F O' H' F' → ItD B J xs Gd F' → q xs Gd O' → R J H'
theorem PI.weak {X : Cx} {tg e : Expr} {t t' : TI} (h : PI X tg e t) (i : ∀ σ H R, t' σ H R → t σ H R) : PI X tg e t' := ⟨fun pins s σ H R I q => h.run pins s σ H R I (i σ H R q)⟩

/-- the items of a list: data, or one's own -/
def asL (O : Ow) : D → Option (List D)
  | .lst ds => some ds
  | .ref p => match O p with | some (.lst ds) => some ds | _ => none
  | _ => none
theorem asL_sq {K : Frag} {O : Ow} {H F : Hp} (fh : Same F H) (ow : OwOk K O H F) {d : D} {v : V} {ds : List D} (r : RV K F d v) (h : asL O d = some ds) : ∃ a xs, v = .ref a ∧ SqL K H a xs ∧ RVs K F ds xs := by
  cases d <;> simp only [asL] at h <;> try (cases h; done)
  · rename_i p
    cases r
    split at h
    · rename_i e
      cases h
      obtain ⟨_, ho, e1, vs, rfl, r⟩ := ow _ _ e
      exact ⟨_, vs, rfl, SqL.of e1, r⟩
    · cases h
  · cases h
    cases r with
    | lst hs hr => exact ⟨_, _, rfl, fh.seq hs, hr⟩
/-- an own list, as long as it stands so -/
def gdL (O0 : Ow) : D → Ow → Prop
  | .ref p => fun O => O p = O0 p
  | _ => fun _ => True
theorem asL_gd {O1 O2 : Ow} {d : D} {ds : List D} (e : asL O1 d = some ds) (g : gdL O1 d O2) : asL O2 d = some ds := by
  cases d <;> simp only [asL] at e ⊢ <;> try exact e
  rename_i p
  have g' : O2 p = O1 p := g
  rw [g']; exact e

section
variable {X : Cx} {B : Bd} {pos : Pos} {tg : Expr}
def diList (te : DTE) : DTI := fun env O q => te env O fun d O1 => ∃ ds, asL O1 d = some ds ∧ q ds (gdL O1 d) O1
theorem di_list {l : Expr} {te : DTE} (hK : X.K = B.K) (h : PE X l (lift B te)) : PI X tg l (liftI B (diList te)) := PI.weak (pi_list h) fun σ H R hh => by
  obtain ⟨env, O, F, q, R0, hh, k⟩ := hh
  refine ⟨env, O, F, _, R0, hh, fun d v O1 H1 F1 a1 r1 h1 => ?_⟩
  obtain ⟨ds, e, h1⟩ := h1
  obtain ⟨a, xs, rfl, hs, hr⟩ := asL_sq a1.fh a1.ow r1 e
  refine ⟨a, rfl, ⟨xs, by rw [hK]; exact hs⟩, k ds _ O1 H1 F1 _ a1 ?_ h1⟩
  intro O2 H2 F2 i s2 fh2 ow2 gd
  obtain ⟨a', ys, e', hs', hr'⟩ := asL_sq fh2 ow2 (r1.mono s2) (asL_gd e gd)
  cases e'
  rw [hK]
  refine ⟨fun x hx => ?_, fun hi => ⟨ys, hs', by rw [hi, hr'.length]; exact Nat.le_refl _⟩⟩
  obtain ⟨v', e1, r'⟩ := hr'.get hx
  refine ⟨⟨ys, v', hs', e1⟩, fun v H3 hy => ?_⟩
  obtain ⟨rfl, hy⟩ := hy
  have : v = v' := Option.some.inj ((hy ys hs').symm.trans e1)
  subst this
  exact ⟨F2, .rfl' fh2 ow2, r'⟩
def diTup (te : DTE) : DTI := fun env O q => te env O fun d O1 => match d with | .tup ds => q ds (fun _ => True) O1 | _ => False
theorem di_tup {l : Expr} {te : DTE} (hK : X.K = B.K) (h : PE X l (lift B te)) : PI X tg l (liftI B (diTup te)) := PI.weak (pi_tup h) fun σ H R hh => by
  obtain ⟨env, O, F, q, R0, hh, k⟩ := hh
  refine ⟨env, O, F, _, R0, hh, fun d v O1 H1 F1 a1 r1 h1 => ?_⟩
  cases d <;> try exact h1.elim
  cases r1 with
  | tup hs hr =>
    rename_i a xs
    refine ⟨a, rfl, ⟨xs, by rw [hK]; exact same_tup a1.fh hs⟩, k _ _ O1 H1 F1 _ a1 ?_ h1⟩
    intro O2 H2 F2 i s2 fh2 ow2 _
    have hs' : SqT B.K H2 a xs := same_tup (s2.trans fh2) hs
    rw [hK]
    refine ⟨fun x hx => ?_, fun hi => ⟨xs, hs', by rw [hi, hr.length]; exact Nat.le_refl _⟩⟩
    obtain ⟨v', e1, r'⟩ := hr.get hx
    refine ⟨⟨xs, v', hs', e1⟩, fun v H3 hy => ?_⟩
    obtain ⟨rfl, hy⟩ := hy
    have : v = v' := Option.some.inj ((hy xs hs').symm.trans e1)
    subst this
    exact ⟨F2, .rfl' fh2 ow2, r'.mono s2⟩
/-- lo, lo + 1, .. below hi -/
def rgD (lo hi : Int) : List D := (List.range (hi - lo).toNat).map fun (k : Nat) => .int (lo + (k : Int))
def InRg (i : Int) : Prop := -(2 ^ 62) ≤ i ∧ i < 2 ^ 62
theorem it_range {lo hi : Int} {F1 : Hp} : ItD B (Itr lo (hi - lo).toNat) (rgD lo hi) (fun _ => True) F1 := by
  intro O2 H2 F2 i s2 fh2 ow2 _
  unfold rgD
  refine ⟨fun x hx => ?_, fun hi => ?_⟩
  · rw [List.getElem?_map] at hx
    cases e : (List.range (hi - lo).toNat)[i]? with
    | none => rw [e] at hx; cases hx
    | some j =>
      rw [e] at hx
      cases hx
      obtain ⟨hl, e2⟩ := List.getElem?_eq_some_iff.mp e
      rw [List.getElem_range] at e2
      subst e2
      rw [List.length_range] at hl
      refine ⟨hl, fun v H3 hy => ?_⟩
      obtain ⟨rfl, rfl⟩ := hy
      exact ⟨F2, .rfl' fh2 ow2, .int _⟩
  · rw [List.length_map, List.length_range] at hi
    exact Nat.le_of_eq hi.symm
def diRg1 (ta : DTA) : DTI := fun env O q => ta env O fun ds O1 => match ds with | [.int j] => InRg j ∧ q (rgD 0 j) (fun _ => True) O1 | _ => False
theorem di_range1 {a : Expr} {ta : DTA} {p : Pos} (hg : Gl X "range") (hm : X.mg "range" = none) (ha : PA X [a] (liftA B ta)) (hs : starEach [a] X.env = [(false, eval a X.env)] := by rfl) : PI X tg (.Call (.Name "range" p) [a] [] pos) (liftI B (diRg1 ta)) :=
  PI.weak (pi_range1 hg hm ha hs) fun σ H R hh => by
    obtain ⟨env, O, F, q, R0, hh, k⟩ := hh
    refine ⟨env, O, F, _, R0, hh, fun ds vs O1 H1 F1 a1 r1 h1 => ?_⟩
    match ds, r1, h1 with
    | [.int j], r1, h1 =>
      obtain ⟨v, rfl, r⟩ := r1.one
      cases r
      obtain ⟨⟨b1, b2⟩, h1⟩ := h1
      have := k (rgD 0 j) _ O1 H1 F1 (Itr 0 (j - 0).toNat) a1 it_range h1
      rw [Int.sub_zero] at this
      exact ⟨j, rfl, b1, b2, this⟩
def diRg2 (ta : DTA) : DTI := fun env O q => ta env O fun ds O1 => match ds with | [.int i, .int j] => InRg i ∧ InRg j ∧ q (rgD i j) (fun _ => True) O1 | _ => False
theorem di_range2 {a b : Expr} {ta : DTA} {p : Pos} (hg : Gl X "range") (hm : X.mg "range" = none) (ha : PA X [a, b] (liftA B ta)) (hs : starEach [a, b] X.env = [(false, eval a X.env), (false, eval b X.env)] := by rfl) (hs2 : starEach [b] X.env = [(false, eval b X.env)] := by rfl) :
    PI X tg (.Call (.Name "range" p) [a, b] [] pos) (liftI B (diRg2 ta)) :=
  PI.weak (pi_range2 hg hm ha hs hs2) fun σ H R hh => by
    obtain ⟨env, O, F, q, R0, hh, k⟩ := hh
    refine ⟨env, O, F, _, R0, hh, fun ds vs O1 H1 F1 a1 r1 h1 => ?_⟩
    match ds, r1, h1 with
    | [.int i, .int j], r1, h1 =>
      obtain ⟨v, w, rfl, r, r'⟩ := r1.two
      cases r
      cases r'
      obtain ⟨⟨b1, b2⟩, ⟨b3, b4⟩, h1⟩ := h1
      exact ⟨i, j, rfl, ⟨b1, b2, b3, b4⟩, k (rgD i j) _ O1 H1 F1 _ a1 it_range h1⟩

/-! ### for -/
def forGo (g : DTG) (tb : DTS) (Gd : Ow → Prop) (E : DEnds) : List D → Env → Ow → Prop
  | [], env, O => Gd O ∧ E.nx env O
  | x :: xs, env, O => Gd O ∧ g x env O fun env2 O2 => tb { nx := fun e o => ∃ o2, SubO o2 o ∧ forGo g tb Gd E xs e o2, rt := E.rt, bk := E.nx, ct := fun e o => ∃ o2, SubO o2 o ∧ forGo g tb Gd E xs e o2 } env2 O2
def dFor (wi : DTI) (g : DTG) (tb : DTS) : DTS := fun E env O => wi env O fun xs Gd O1 => forGo g tb Gd E xs env O1
theorem ds_for {st : Stmt} {wi : DTI} {g : DTG} {tb : DTS} (h : PS X st (tFor (liftI B wi) (liftG B g) (liftS B tb))) : PS X st (liftS B (dFor wi g tb)) := PS.weak h fun E σ H hh => by
  obtain ⟨env, O, F, d, R, hh, m⟩ := hh
  refine ⟨env, O, F, _, R, hh, fun xs Gd O1 H1 F1 J a1 hJ h1 => ?_⟩
  refine ⟨fun i n σ H => n = xs.length - i ∧ i ≤ xs.length ∧ ∃ env O F2, After B.K O1 H1 F1 O H F2 ∧ Sl B.K env σ F2 ∧ forGo g tb Gd d (xs.drop i) env O, ⟨xs.length, by simp, Nat.zero_le _, env, O1, F1, .refl (R.call a1), R.sl.mono a1.ff, h1⟩, ?_⟩
  rintro i n σ2 H2 ⟨rfl, hi, env2, O2, F2, a2, s2, h2⟩
  by_cases hlt : i < xs.length
  · refine .inr ?_
    rw [List.drop_eq_getElem_cons hlt] at h2
    obtain ⟨gd, h2⟩ := h2
    obtain ⟨hgo, hy⟩ := (hJ O2 H2 F2 i a2.ff a2.fh a2.ow gd).1 xs[i] (List.getElem?_eq_getElem hlt)
    refine ⟨hgo, fun σ' H' => ∃ env O F3, After B.K O1 H1 F1 O H' F3 ∧ Sl B.K env σ' F3 ∧ forGo g tb Gd d (xs.drop (i + 1)) env O, fun σ' H' n => ⟨xs.length - (i + 1), by omega, rfl, hlt, n⟩, fun v H3 yv => ?_⟩
    obtain ⟨F3, a3, rv⟩ := hy v H3 yv
    have b3 := a2.trans a3
    have R3 : Rel B env2 O2 σ2 H3 F3 := ⟨R.af.trans (a1.trans b3), s2.mono a3.ff⟩
    refine ⟨xs[i], env2, O2, F3, _, R3, rv, h2, fun env4 O4 σ4 H4 F4 a4 s4 h4 => ?_⟩
    have b4 := b3.trans a4
    refine ⟨env4, O4, F4, _, R3.on a4 s4, h4, ⟨fun e o σ'' h f a' sl ⟨o2, sb, n⟩ => ⟨e, o2, f, (b4.trans a').weak sb, sl, n⟩, fun x v o h f a' => m.rt x v o h f (a1.trans (b4.trans a')), fun e o σ'' h f a' => m.nx e o σ'' h f (a1.trans (b4.trans a')), fun e o σ'' h f a' sl ⟨o2, sb, n⟩ => ⟨e, o2, f, (b4.trans a').weak sb, sl, n⟩⟩⟩
  · have e : i = xs.length := by omega
    subst e
    rw [List.drop_length] at h2
    exact .inl ⟨(hJ O2 H2 F2 _ a2.ff a2.fh a2.ow h2.1).2 rfl, m.nx env2 O2 σ2 H2 F2 (a1.trans a2) s2 h2.2⟩
/-- by a word over the turn -/
theorem forGo_inv {g : DTG} {tb : DTS} {Gd : Ow → Prop} {E : DEnds} {xs : List D} {env : Env} {O : Ow} (P : Nat → Env → Ow → Prop) (h0 : P 0 env O) (hg : ∀ i env O, i ≤ xs.length → P i env O → Gd O)
    (hs : ∀ (N : Env → Ow → Prop) (i : Nat) (x : D) (env : Env) (O : Ow), xs[i]? = some x → P i env O → (∀ e o o2, SubO o2 o → P (i + 1) e o2 → N e o) → g x env O fun env2 O2 => tb { nx := N, rt := E.rt, bk := E.nx, ct := N } env2 O2)
    (hd : ∀ env O, P xs.length env O → E.nx env O) : forGo g tb Gd E xs env O := by
  suffices h : ∀ (ys : List D) (i : Nat) (env : Env) (O : Ow), xs.drop i = ys → i ≤ xs.length → P i env O → forGo g tb Gd E ys env O from h xs 0 env O rfl (Nat.zero_le _) h0
  intro ys
  induction ys with
  | nil =>
    intro i env O e hi p
    have : xs.length ≤ i := List.drop_eq_nil_iff.mp e
    have : i = xs.length := by omega
    subst this
    exact ⟨hg _ env O hi p, hd env O p⟩
  | cons y ys ih =>
    intro i env O e hi p
    have hlt : i < xs.length := by
      rcases Nat.lt_or_ge i xs.length with h | h
      · exact h
      · rw [List.drop_eq_nil_iff.mpr h] at e; cases e
    rw [List.drop_eq_getElem_cons hlt] at e
    injection e with e1 e2
    exact ⟨hg i env O hi p, hs _ i y env O (by rw [← e1]; exact List.getElem?_eq_getElem hlt) p fun e o o2 sb p' => ⟨o2, sb, ih (i + 1) e o2 e2 hlt p'⟩⟩

/-! ### while -/
def whGo (c : DTT) (tb : DTS) (E : DEnds) : Nat → Env → Ow → Prop
  | 0, _, _ => False
  | m + 1, env, O => c env O fun b O1 => if b = true then tb { nx := fun e o => ∃ o2, SubO o2 o ∧ whGo c tb E m e o2, rt := E.rt, bk := E.nx, ct := fun e o => ∃ o2, SubO o2 o ∧ whGo c tb E m e o2 } env O1 else E.nx env O1
def dWhile (c : DTT) (tb : DTS) : DTS := fun E env O => ∃ m, whGo c tb E m env O
theorem ds_while {st : Stmt} {c : DTT} {tb : DTS} (h : PS X st (tWhile (liftT B c) (liftS B tb))) : PS X st (liftS B (dWhile c tb)) := PS.weak h fun E σ H hh => by
  obtain ⟨env, O, F, d, R, ⟨m0, hh⟩, mt⟩ := hh
  refine ⟨fun m σ' H' => ∃ env' O' F2, After B.K O H F O' H' F2 ∧ Sl B.K env' σ' F2 ∧ whGo c tb d m env' O', ⟨m0, env, O, F, .refl R, R.sl, hh⟩, ?_⟩
  rintro m σ2 H2 ⟨env2, O2, F2, a2, s2, h2⟩
  cases m with
  | zero => exact h2.elim
  | succ m =>
    have R2 := R.on a2 s2
    refine ⟨env2, O2, F2, _, R2, h2, fun b O3 H3 F3 a3 h3 => ?_⟩
    have b3 := a2.trans a3
    cases b with
    | true =>
      rw [if_pos rfl] at h3
      refine iteT ⟨fun σ' H' => ∃ env' O' F2, After B.K O H F O' H' F2 ∧ Sl B.K env' σ' F2 ∧ whGo c tb d m env' O', fun σ' H' n => ⟨m, Nat.lt_succ_self m, n⟩, ?_⟩
      exact ⟨env2, O3, F3, _, R2.call a3, h3, ⟨fun e o σ'' h f a' sl ⟨o2, sb, n⟩ => ⟨e, o2, f, (b3.trans a').weak sb, sl, n⟩, fun x v o h f a' => mt.rt x v o h f (b3.trans a'), fun e o σ'' h f a' => mt.nx e o σ'' h f (b3.trans a'), fun e o σ'' h f a' sl ⟨o2, sb, n⟩ => ⟨e, o2, f, (b3.trans a').weak sb, sl, n⟩⟩⟩
    | false =>
      rw [if_neg (by decide)] at h3
      exact iteF (mt.nx env2 O3 σ2 H3 F3 b3 (s2.mono a3.ff) h3)

/-! ### comprehensions -/
theorem wipe_get {σ : St} {vs : List Nat} {j : Nat} : (wipe σ vs)[j]? = if j ∈ vs then (σ[j]?).map fun _ => none else σ[j]? := by
  induction vs with
  | nil => simp [wipe]
  | cons v vs ih =>
    unfold wipe
    by_cases h : v = j
    · subst h
      rw [if_pos (by simp)]
      by_cases hl : v < (wipe σ vs).length
      · rw [List.getElem?_set_self hl]
        rw [wipe_length] at hl
        rw [List.getElem?_eq_getElem hl]; rfl
      · rw [List.getElem?_eq_none (by simpa using hl)]
        rw [wipe_length] at hl
        rw [List.getElem?_eq_none (by omega)]; rfl
    · rw [List.getElem?_set_ne h, ih]
      have : (j ∈ v :: vs) = (j ∈ vs) := by
        simp only [List.mem_cons, eq_iff_iff]
        exact ⟨fun z => z.elim (fun z => absurd z.symm h) id, .inr⟩
      simp only [this]
theorem wipe_set {σ : St} {vs : List Nat} {i : Nat} {x : Option V} (h : i ∈ vs) (ρ : St) (e : wipe ρ vs = wipe σ vs) : wipe (ρ.set i x) vs = wipe σ vs := by
  apply List.ext_getElem?
  intro j
  rw [← e, wipe_get, wipe_get]
  by_cases hj : j ∈ vs
  · rw [if_pos hj, if_pos hj]
    by_cases hij : i = j
    · subst hij
      by_cases hl : i < ρ.length
      · rw [List.getElem?_set_self hl, List.getElem?_eq_getElem hl]; rfl
      · rw [List.getElem?_eq_none (by simpa using hl), List.getElem?_eq_none (by omega)]
    · rw [List.getElem?_set_ne hij]
  · rw [if_neg hj, if_neg hj, List.getElem?_set_ne (fun z => hj (by rw [← z]; exact h))]
theorem wipe_wipe {σ : St} {vs : List Nat} : wipe (wipe σ vs) vs = wipe σ vs := by
  apply List.ext_getElem?
  intro j
  rw [wipe_get, wipe_get]
  by_cases hj : j ∈ vs
  · rw [if_pos hj, if_pos hj, Option.map_map]; rfl
  · rw [if_neg hj, if_neg hj]
def wipeD (env : Env) : List Nat → Env
  | [] => env
  | v :: vs => (wipeD env vs).set v none
theorem Sl.wiped {K : Frag} {env : Env} {σ : St} {F : Hp} (R : Sl K env σ F) : ∀ vs : List Nat, Sl K (wipeD env vs) (wipe σ vs) F
  | [] => R
  | _ :: vs => (R.wiped vs).setn
/-- a comprehension's target: it stores names of vs alone -/
def SimG (K : Frag) (vs : List Nat) (g : TG) (dg : DTG) : Prop := ∀ (env : Env) (O : Ow) (σ ρ : St) (H F : Hp) (v : V) (d : D) (q : Env → Ow → Prop) (Q : St → Hp → Prop), Same F H → Sl K env ρ F → wipe ρ vs = wipe σ vs → RV K F d v → dg d env O q →
  (∀ env' ρ', wipe ρ' vs = wipe σ vs → Sl K env' ρ' F → q env' O → Q ρ' H) → g v ρ H Q
theorem simG_name {K : Frag} {vs : List Nat} {i : Nat} (h : i ∈ vs) : SimG K vs (gName i) (dgName i) := fun env O σ ρ H F v d q Q _ R e r hq k => k _ _ (wipe_set h ρ e) (R.setv r) hq
def SimGs (K : Frag) (vs : List Nat) (g : TGs) (dg : DTGs) : Prop := ∀ (env : Env) (O : Ow) (σ ρ : St) (H F : Hp) (v : List V) (d : List D) (q : Env → Ow → Prop) (Q : St → Hp → Prop), Same F H → Sl K env ρ F → wipe ρ vs = wipe σ vs → RVs K F d v → dg d env O q →
  (∀ env' ρ', wipe ρ' vs = wipe σ vs → Sl K env' ρ' F → q env' O → Q ρ' H) → g v ρ H Q
theorem simGs_nil {K : Frag} {vs : List Nat} : SimGs K vs gNil dgNil := fun env O σ ρ H F v d q Q _ R e r hq k => by
  obtain ⟨rfl, hq⟩ := hq
  cases r
  exact ⟨rfl, k _ _ e R hq⟩
def OwSame (dg : DTG) : Prop := ∀ d env O q, dg d env O q → dg d env O fun env' O' => O' = O ∧ q env' O'
theorem owSame_name {i : Nat} : OwSame (dgName i) := fun d env O q h => ⟨rfl, h⟩
theorem simGs_cons {K : Frag} {vs : List Nat} {g : TG} {dg : DTG} {gs : TGs} {dgs : DTGs} (ho : OwSame dg) (h : SimG K vs g dg) (hs : SimGs K vs gs dgs) : SimGs K vs (gCons g gs) (dgCons dg dgs) := fun env O σ ρ H F v d q Q fh R e r hq k => by
  cases r with
  | nil => exact hq.elim
  | cons r rs =>
    refine ⟨_, _, rfl, h env O σ ρ H F _ _ _ _ fh R e r (ho _ _ _ _ hq) fun env' ρ' e' R' hq' => ?_⟩
    exact hs env' O σ ρ' H F _ _ q Q fh R' e' rs hq'.2 k
theorem simG_tup {K' K : Frag} {vs : List Nat} {n : Nat} {gs : TGs} {dgs : DTGs} (hK : K' = K) (hs : SimGs K vs gs dgs) : SimG K vs (gTup K' n gs) (dgTup n dgs) := fun env O σ ρ H F v d q Q fh R e r hq k => by
  cases d <;> try exact hq.elim
  cases r with
  | tup h1 h2 => exact ⟨_, _, rfl, by rw [hK]; exact same_tup fh h1, h2.length ▸ hq.1, hs env O σ ρ H F _ _ q Q fh R e h2 hq.2 k⟩

def lcGo (g : DTG) (tt : DTT) (te : DTE) (Gd : Ow → Prop) : List D → Env → Ow → (List D → Ow → Prop) → Prop
  | [], _, O, q => Gd O ∧ q [] O
  | x :: xs, env, O, q => Gd O ∧ g x env O fun env2 _ => tt env2 O fun b O3 => if b = true then te env2 O3 fun y O4 => ∃ o2, SubO o2 O4 ∧ lcGo g tt te Gd xs env o2 fun ys O5 => q (y :: ys) O5 else ∃ o2, SubO o2 O3 ∧ lcGo g tt te Gd xs env o2 q
def dLc (wi : DTI) (g : DTG) (tt : DTT) (te : DTE) (vs : List Nat) : DTE := fun env O q => wi env O fun xs Gd O1 => xs.length ≤ sizeLine ∧ lcGo g tt te Gd xs (wipeD env vs) O1 fun ys O2 => q (.lst ys) O2
def dLcO (wi : DTI) (g : DTG) (tt : DTT) (te : DTE) (vs : List Nat) : DTE := fun env O q => wi env O fun xs Gd O1 => xs.length ≤ sizeLine ∧ lcGo g tt te Gd xs (wipeD env vs) O1 fun ys O2 => ∀ p, O2 p = none → q (.ref p) (setO O2 p (.lst ys))
theorem After.upn {K : Frag} {O O' : Ow} {H F H' F' : Hp} (a : After K O H F O' H' F') {p : Addr} {o : HO} (h1 : O' p = none) (h2 : F' p = none) (h3 : O p ≠ none ∨ H p = none) : After K O H F O' (upd H' p o) F' := by
  refine ⟨a.ff, fun b x e => by rw [upd_ne (ne_of_none e h2)]; exact a.fh b x e, fun b x e ho => ?_, a.fr, fun q x e => ?_, a.nw⟩
  · have : b ≠ p := fun z => by
      subst z
      rcases h3 with h3 | h3
      · exact h3 ho
      · rw [h3] at e; cases e
    rw [upd_ne this]; exact a.kp b x e ho
  · have hq : q ≠ p := fun z => by rw [z, h1] at e; cases e
    obtain ⟨a1, ho, a3, a4⟩ := a.ow q x e
    exact ⟨a1, ho, by rw [upd_ne hq]; exact a3, a4⟩
/-- a new list becomes data, or one's own -/
theorem After.ice {K : Frag} {O O' : Ow} {H F H' F' : Hp} (a : After K O H F O' H' F') {p : Addr} {o : HO} (h1 : O' p = none) (h2 : F' p = none) (h3 : O p ≠ none ∨ H p = none) (hp : H' p = some o) : After K O H F O' H' (upd F' p o) := by
  have s : Same F' (upd F' p o) := fun b u e => by rw [upd_ne (ne_of_none e h2)]; exact e
  refine ⟨a.ff.trans s, fun b x e => ?_, a.kp, fun b e1 e2 e3 => ?_, fun q x e => ?_, a.nw⟩
  · by_cases hb : b = p
    · subst hb; rw [upd_same] at e; cases e; exact hp
    · rw [upd_ne hb] at e; exact a.fh b x e
  · have : b ≠ p := fun z => by
      subst z
      rcases h3 with h3 | h3
      · exact h3 e2
      · exact e1 h3
    rw [upd_ne this]; exact a.fr b e1 e2 e3
  · have hq : q ≠ p := fun z => by rw [z, h1] at e; cases e
    obtain ⟨a1, ho, a3, a4⟩ := a.ow q x e
    exact ⟨by rw [upd_ne hq]; exact a1, ho, a3, a4.mono s⟩
theorem After.mine {K : Frag} {O O' : Ow} {H F H' F' : Hp} (a : After K O H F O' H' F') {p : Addr} {o : HO} {u : OD} (h2 : F' p = none) (h3 : O p ≠ none ∨ H p = none) (hp : H' p = some o) (r : RO K F' p u o) : After K O H F (setO O' p u) H' F' := by
  refine ⟨a.ff, a.fh, a.kp, a.fr, fun q x e => ?_, fun q x e => ?_⟩
  · by_cases hq : q = p
    · subst hq
      rw [setO_same] at e; cases e
      exact ⟨h2, o, hp, r⟩
    · rw [setO_ne hq] at e; exact a.ow q x e
  · by_cases hq : q = p
    · subst hq; exact h3
    · rw [setO_ne hq] at e; exact a.nw q x e
/-- what is neither own nor frozen stays out of both -/
theorem After.out {K : Frag} {O O' : Ow} {H F H' F' : Hp} (a : After K O H F O' H' F') {p : Addr} {o : HO} (h1 : O p = none) (h2 : F p = none) (h3 : H p = some o) : O' p = none ∧ F' p = none ∧ H' p = some o := by
  refine ⟨?_, a.fr p (by rw [h3]; simp) h1 h2, a.kp p o h3 h1⟩
  cases e : O' p with
  | none => rfl
  | some u =>
    rcases a.nw p u e with z | z
    · exact absurd h1 z
    · rw [h3] at z; cases z
theorem lc_sim {wi : DTI} {g : TG} {dg : DTG} {tt : DTT} {te : DTE} {vs : List Nat} (sg : SimG B.K vs g dg) {σ : St} {H : Hp} {Q : VK} {env : Env} {O : Ow} {F : Hp} {q : List D → Ow → Prop} (R : Rel B env O σ H F)
    (h : wi env O fun xs Gd O1 => xs.length ≤ sizeLine ∧ lcGo dg tt te Gd xs (wipeD env vs) O1 q)
    (k : ∀ ys vs' O' H' F' p, After B.K O H F O' H' F' → (O p ≠ none ∨ H p = none) → O' p = none → F' p = none → RVs B.K F' ys vs' → H' p = some (.lst vs') → q ys O' → Q (.ref p) H') :
    tLc (liftI B wi) g (liftT B tt) (lift B te) vs σ H Q := by
  refine ⟨env, O, F, _, R, h, fun xs Gd O1 H1 F1 J a1 hJ h1 p hp => ?_⟩
  obtain ⟨hl, h1⟩ := h1
  have R1 := R.call a1
  obtain ⟨p1, p2⟩ := R1.free hp
  have hp0 : O p ≠ none ∨ H p = none := by
    by_cases ho : O p = none
    · refine .inr ?_
      cases e : H p with
      | none => rfl
      | some o => rw [a1.kp p o e ho] at hp; cases hp
    · exact .inl ho
  refine ⟨fun i n Hc => n = xs.length - i ∧ i ≤ xs.length ∧ ∃ O2 F2 acc av, After B.K O1 H1 F1 O2 Hc F2 ∧ O2 p = none ∧ F2 p = none ∧ acc.length ≤ i ∧ RVs B.K F2 acc av ∧ Hc p = some (.lst av) ∧ lcGo dg tt te Gd (xs.drop i) (wipeD env vs) O2 fun ys O3 => q (acc ++ ys) O3,
    ⟨xs.length, by simp, Nat.zero_le _, O1, F1, [], [], (After.refl R1).upn p1 p2 (.inr hp), p1, p2, Nat.le_refl _, .nil, upd_same, h1⟩, ?_⟩
  rintro i n H2 ⟨rfl, hi, O2, F2, acc, av, a2, e1, e2, e3, ra, e4, h2⟩
  by_cases hlt : i < xs.length
  · refine .inr ?_
    rw [List.drop_eq_getElem_cons hlt] at h2
    obtain ⟨gd, h2⟩ := h2
    obtain ⟨hgo, hy⟩ := (hJ O2 H2 F2 i a2.ff a2.fh a2.ow gd).1 xs[i] (List.getElem?_eq_getElem hlt)
    refine ⟨hgo, fun Hc => ∃ O2 F2 acc av, After B.K O1 H1 F1 O2 Hc F2 ∧ O2 p = none ∧ F2 p = none ∧ acc.length ≤ i + 1 ∧ RVs B.K F2 acc av ∧ Hc p = some (.lst av) ∧ lcGo dg tt te Gd (xs.drop (i + 1)) (wipeD env vs) O2 fun ys O3 => q (acc ++ ys) O3, fun H' n => ⟨xs.length - (i + 1), by omega, rfl, hlt, n⟩, fun v H3 yv => ?_⟩
    obtain ⟨F3, a3, rv⟩ := hy v H3 yv
    obtain ⟨o3, f3, l3⟩ := a3.out e1 e2 e4
    have b3 := a2.trans a3
    refine sg (wipeD env vs) O2 σ (wipe σ vs) H3 F3 v xs[i] _ _ a3.fh (((R1.sl.wiped vs).mono a2.ff).mono a3.ff) wipe_wipe rv h2 fun env' ρ' ew sl' h3 => ⟨ew, ?_⟩
    refine ⟨env', O2, F3, _, ⟨R1.af.trans b3, sl'⟩, h3, fun b O4 H4 F4 a4 h4 => ?_⟩
    obtain ⟨o4, f4, l4⟩ := a4.out o3 f3 l3
    have b4 := b3.trans a4
    cases b with
    | false =>
      rw [if_neg (by decide)] at h4
      obtain ⟨o2, sb, h4⟩ := h4
      exact iteF ⟨o2, F4, acc, av, b4.weak sb, sb.gone o4, f4, Nat.le_succ_of_le e3, (ra.mono a3.ff).mono a4.ff, l4, h4⟩
    | true =>
      rw [if_pos rfl] at h4
      refine iteT ⟨env', O4, F4, _, ⟨R1.af.trans b4, sl'.mono a4.ff⟩, h4, fun y yv O5 H5 F5 a5 ry h5 => ?_⟩
      obtain ⟨o5, f5, l5⟩ := a5.out o4 f4 l4
      have r5 := ((ra.mono a3.ff).mono a4.ff).mono a5.ff
      obtain ⟨o2, sb, h5⟩ := h5
      refine ⟨av, l5, by rw [← r5.length]; omega, o2, F5, acc ++ [y], _, ((b4.trans a5).weak sb).upn (sb.gone o5) f5 (.inr hp), sb.gone o5, f5, by simp; omega, r5.append (.cons ry .nil), upd_same, ?_⟩
      simpa using h5
  · have e : i = xs.length := by omega
    subst e
    rw [List.drop_length] at h2
    refine .inl ⟨(hJ O2 H2 F2 _ a2.ff a2.fh a2.ow h2.1).2 rfl, k acc av O2 H2 F2 p (a1.trans a2) hp0 e1 e2 ra e4 ?_⟩
    simpa using h2.2
theorem lift_lc {wi : DTI} {g : TG} {dg : DTG} {tt : DTT} {te : DTE} {vs : List Nat} (sg : SimG B.K vs g dg) (σ : St) (H : Hp) (Q : VK) (h : lift B (dLc wi dg tt te vs) σ H Q) : tLc (liftI B wi) g (liftT B tt) (lift B te) vs σ H Q := by
  obtain ⟨env, O, F, q, R, h, k⟩ := h
  refine lc_sim sg R h fun ys vs' O' H' F' p a hp0 o' f' r l hq => ?_
  have a2 := a.ice o' f' hp0 l
  exact k _ _ O' H' _ a2 (.lst (SqL.of upd_same) (r.mono fun b u e => by rw [upd_ne (ne_of_none e f')]; exact e)) hq
theorem lift_lcO {wi : DTI} {g : TG} {dg : DTG} {tt : DTT} {te : DTE} {vs : List Nat} (sg : SimG B.K vs g dg) (σ : St) (H : Hp) (Q : VK) (h : lift B (dLcO wi dg tt te vs) σ H Q) : tLc (liftI B wi) g (liftT B tt) (lift B te) vs σ H Q := by
  obtain ⟨env, O, F, q, R, h, k⟩ := h
  refine lc_sim sg R h fun ys vs' O' H' F' p a hp0 o' f' r l hq => ?_
  exact k _ _ _ H' F' (a.mine (u := .lst ys) f' hp0 l ⟨vs', rfl, r⟩) (.ref p) (hq p o')
theorem de_lc {e : Expr} {wi : DTI} {g : TG} {dg : DTG} {tt : DTT} {te : DTE} {vs : List Nat} (sg : SimG B.K vs g dg) (h : PE X e (tLc (liftI B wi) g (liftT B tt) (lift B te) vs)) : PE X e (lift B (dLc wi dg tt te vs)) := PE.weak h (lift_lc sg)
theorem de_lcO {e : Expr} {wi : DTI} {g : TG} {dg : DTG} {tt : DTT} {te : DTE} {vs : List Nat} (sg : SimG B.K vs g dg) (h : PE X e (tLc (liftI B wi) g (liftT B tt) (lift B te) vs)) : PE X e (lift B (dLcO wi dg tt te vs)) := PE.weak h (lift_lcO sg)
theorem ds_setLc {st : Stmt} {i : Nat} {wi : DTI} {g : TG} {dg : DTG} {tt : DTT} {te : DTE} {vs : List Nat} (sg : SimG B.K vs g dg) (h : PS X st (tAsg (tLc (liftI B wi) g (liftT B tt) (lift B te) vs) (gName i))) : PS X st (liftS B (dAsg (dLc wi dg tt te vs) (dgName i))) :=
  ds_set (PS.weak h fun E σ H q => lift_lc sg σ H _ q)
theorem ds_setLcO {st : Stmt} {i : Nat} {wi : DTI} {g : TG} {dg : DTG} {tt : DTT} {te : DTE} {vs : List Nat} (sg : SimG B.K vs g dg) (h : PS X st (tAsg (tLc (liftI B wi) g (liftT B tt) (lift B te) vs) (gName i))) : PS X st (liftS B (dAsg (dLcO wi dg tt te vs) (dgName i))) :=
  ds_set (PS.weak h fun E σ H q => lift_lcO sg σ H _ q)
def dYes : DTT := fun _ O q => q true O
theorem PTs.weak {ifs : List Expr} {t t' : TT} (h : PTs X ifs t) (i : ∀ σ H Q, t' σ H Q → t σ H Q) : PTs X ifs t' := ⟨fun pins s σ H Q I q => h.run pins s σ H Q I (i σ H Q q)⟩
theorem dts_nil : PTs X [] (liftT B dYes) := PTs.weak pts_nil fun σ H Q h => by
  obtain ⟨env, O, F, q, R, h, k⟩ := h
  exact k true O H F (.refl R) h
theorem dts_one {c : Expr} {t : DTT} (h : PT X c (liftT B t)) : PTs X [c] (liftT B t) := pts_one h
end
end DL

set_option Elab.async false
set_option linter.all false
set_option maxRecDepth 100000
set_option maxHeartbeats 4000000
namespace DL
open PySem PySem.Spec PyProof.Rows L2

/-! ### plain data -/
mutual
def py : D → PyData
  | .non => .none | .bl b => .bool b | .int i => .int i | .str x => .str x | .ref _ => .none | .ty _ => .none
  | .lst ds => .list (pys ds) | .tup ds => .tuple (pys ds) | .ins _ _ _ => .none
def pys : List D → List PyData
  | [] => [] | d :: ds => py d :: pys ds
end
mutual
def pd : D → Bool
  | .ref _ => false | .ty _ => false | .ins _ _ _ => false | .lst ds => pds ds | .tup ds => pds ds | _ => true
def pds : List D → Bool
  | [] => true | d :: ds => pd d && pds ds
end
mutual
theorem RV.dp {K : Frag} {F H : Hp} (s : Same F H) : ∀ {d : D} {v : V}, RV K F d v → pd d = true → Dp K H v (py d)
  | _, _, .non, _ => by rw [py]; exact .non
  | _, _, .bl b, _ => by rw [py]; exact .bl b
  | _, _, .int b, _ => by rw [py]; exact .int b
  | _, _, .str b, _ => by rw [py]; exact .str b
  | _, _, .ref b, h => by simp [pd] at h
  | _, _, .ty b, h => by simp [pd] at h
  | _, _, .ins _ _ _, h => by simp [pd] at h
  | _, _, .lst hs hr, h => by rw [py]; exact .lst (s.seq hs) (RVs.dp s hr (by simpa [pd] using h))
  | _, _, .tup hs hr, h => by rw [py]; exact .tup (same_tup s hs) (RVs.dp s hr (by simpa [pd] using h))
theorem RVs.dp {K : Frag} {F H : Hp} (s : Same F H) : ∀ {ds : List D} {vs : List V}, RVs K F ds vs → pds ds = true → DpAll K H vs (pys ds)
  | _, _, .nil, _ => by rw [pys]; exact .nil
  | _, _, .cons h hs, e => by
    simp only [pds, Bool.and_eq_true] at e
    rw [pys]; exact .cons (RV.dp s h e.1) (RVs.dp s hs e.2)
end
/-- as plain data, an own list too -/
def asP (O : Ow) : D → Option PyData
  | .ref p => match O p with | some (.lst ds) => if pds ds = true then some (.list (pys ds)) else none | _ => none
  | d => if pd d = true then some (py d) else none
theorem asP_dp {K : Frag} {O : Ow} {H F : Hp} (fh : Same F H) (ow : OwOk K O H F) {d : D} {v : V} {a : PyData} (r : RV K F d v) (h : asP O d = some a) : Dp K H v a := by
  cases d <;> simp only [asP] at h
  case ref p =>
    cases r
    split at h
    · rename_i e
      split at h
      · rename_i e2
        cases h
        obtain ⟨_, ho, e1, vs, rfl, r⟩ := ow _ _ e
        exact .lst (SqL.of e1) (r.dp fh e2)
      · cases h
    · cases h
  all_goals
    split at h
    · rename_i e
      cases h
      exact r.dp fh e
    · cases h

section
variable {X : Cx} {B : Bd} {pos : Pos}
/-! ### == and != -/
def dEq : DR2 := fun x y O q => ∃ a b, asP O x = some a ∧ asP O y = some b ∧ SeqAt.shaped a = true ∧ SeqAt.shaped b = true ∧ q (.bl (PyData.eqv a b)) O
def dNe : DR2 := fun x y O q => ∃ a b, asP O x = some a ∧ asP O y = some b ∧ SeqAt.shaped a = true ∧ SeqAt.shaped b = true ∧ q (.bl (!PyData.eqv a b)) O
theorem sim_eq : Sim2 B (rEqD B.K) dEq := by
  intro env O σ H F x y dx dy q Q R rx ry h k
  obtain ⟨a, b, e1, e2, s1, s2, h⟩ := h
  exact ⟨a, b, asP_dp R.fh R.ow rx e1, asP_dp R.fh R.ow ry e2, s1, s2, k _ _ O H F (.refl R) (.bl _) h⟩
theorem sim_ne : Sim2 B (rNeD B.K) dNe := by
  intro env O σ H F x y dx dy q Q R rx ry h k
  obtain ⟨a, b, e1, e2, s1, s2, h⟩ := h
  exact ⟨a, b, asP_dp R.fh R.ow rx e1, asP_dp R.fh R.ow ry e2, s1, s2, k _ _ O H F (.refl R) (.bl _) h⟩
/-! ### order of ints -/
def dLt : DR2 := dI2 (fun _ _ => True) fun i j => .bl (decide (i < j))
def dLe : DR2 := dI2 (fun _ _ => True) fun i j => .bl (decide (i ≤ j))
def dGt : DR2 := dI2 (fun _ _ => True) fun i j => .bl (decide (j < i))
def dGe : DR2 := dI2 (fun _ _ => True) fun i j => .bl (decide (j ≤ i))
theorem sim_lt : Sim2 B (rI0 fun i j => .bl (decide (i < j))) dLt := sim_I0 fun _ _ _ => .bl _
theorem sim_le : Sim2 B (rI0 fun i j => .bl (decide (i ≤ j))) dLe := sim_I0 fun _ _ _ => .bl _
theorem sim_gt : Sim2 B (rI0 fun i j => .bl (decide (j < i))) dGt := sim_I0 fun _ _ _ => .bl _
theorem sim_ge : Sim2 B (rI0 fun i j => .bl (decide (j ≤ i))) dGe := sim_I0 fun _ _ _ => .bl _
/-! ### is None -/
def dIsN : DR2 := fun x y O q => match y with | .non => q (.bl (match x with | .non => true | _ => false)) O | _ => False
def dNotN : DR2 := fun x y O q => match y with | .non => q (.bl (match x with | .non => false | _ => true)) O | _ => False
theorem sim_isN : Sim2 B (fun x y H Q => y = .non ∧ Q (.bl (decide (x = .non))) H) dIsN := by
  intro env O σ H F x y dx dy q Q R rx ry h k
  cases dy <;> try exact h.elim
  cases ry
  refine ⟨rfl, k _ _ O H F (.refl R) ?_ h⟩
  cases rx <;> exact .bl _
theorem sim_notN : Sim2 B (fun x y H Q => y = .non ∧ Q (.bl (!decide (x = .non))) H) dNotN := by
  intro env O σ H F x y dx dy q Q R rx ry h k
  cases dy <;> try exact h.elim
  cases ry
  refine ⟨rfl, k _ _ O H F (.refl R) ?_ h⟩
  cases rx <;> exact .bl _
/-! ### arithmetic -/
def dSub : DR2 := dI2 (fun _ _ => True) fun i j => .int (i - j)
theorem sim_sub : Sim2 B (rI0 fun i j => .int (i - j)) dSub := sim_I0 fun _ _ _ => .int _
def dMod : DR2 := dI2 (fun _ j => 0 < j) fun i j => .int (i % j)
theorem sim_mod : Sim2 B (rI (fun _ j => 0 < j) fun i j => .int (i % j)) dMod := sim_I fun _ _ _ => .int _
def dAddI : DR2 := dI2 (fun _ _ => True) fun i j => .int (i + j)
theorem sim_addI : Sim2 B (rI0 fun i j => .int (i + j)) dAddI := sim_I0 fun _ _ _ => .int _

/-! ### + -/
def rCatL (K : Frag) : R2 := fun x y H Q => ∃ a b xs ys, x = .ref a ∧ y = .ref b ∧ SqL K H a xs ∧ SqL K H b ys ∧ xs.length + ys.length ≤ sizeLine ∧ ∀ p, H p = none → Q (.ref p) (upd H p (.lst (xs ++ ys)))
theorem op_catL : OpR X (binaryOp .Add) (rCatL X.K) := by
  intro pins s σ H x y v u Q I rx ry h
  obtain ⟨a, b, xs, ys, rfl, rfl, ha, hb, hz, q⟩ := h
  cases rx; cases ry
  obtain ⟨i1, r1, ⟨⟨c1, d1, t1, l1⟩, n1, h1, k1, _, e1⟩, _⟩ := I.list ha
  obtain ⟨i2, r2, ⟨⟨c2, d2, t2, l2⟩, n2, h2, k2, _, e2⟩, _⟩ := I.list hb
  simp only at k1 e1 k2 e2
  subst k1 e1 k2 e2
  have hlen : i1.toArray.size + i2.toArray.size ≤ sizeLine := by
    have x1 := r1.length
    have x2 := r2.length
    simp only [List.size_toArray]; omega
  refine concat_meets ⟨_, h1, rfl⟩ ⟨_, h2, rfl⟩ noFill_list_add seq_list_add F.slot_list_add F.entry_list_add (F.args_list_add_2 _ _) (list_addW a b i1.toArray i2.toArray n1 n2 d1 d2 l1 l2 hlen) ⟨h1, h2, ?_⟩
  have ee : i1.toArray ++ i2.toArray = (i1 ++ i2).toArray := by simp
  rw [ee]
  exact ⟨.ref _, _, I.lnew (t' := s.toks) (r1.append r2) (by rw [List.length_append]; omega), rfl, q _ I.fresh⟩
def dAdd : DR2 := fun x y O q => match x, y with
  | .int i, .int j => q (.int (i + j)) O
  | .str i, .str j => i.length + j.length ≤ sizeLine ∧ q (.str (i ++ j)) O
  | .tup a, .tup b => a.length + b.length ≤ sizeLine ∧ q (.tup (a ++ b)) O
  | x, y => ∃ a b, asL O x = some a ∧ asL O y = some b ∧ a.length + b.length ≤ sizeLine ∧ q (.lst (a ++ b)) O
abbrev rAddA (K : Frag) : R2 := fun x y H Q => ((rI0 fun i j => .int (i + j)) x y H Q ∨ ∃ i j, x = .str i ∧ y = .str j ∧ i.length + j.length ≤ sizeLine ∧ Q (.str (i ++ j)) H) ∨ (rCatA K x y H Q ∨ rCatL K x y H Q)
theorem op_addA : OpR X (binaryOp .Add) (rAddA X.K) := (op_add.or op_add_str).or (op_catA.or op_catL)
theorem fresh_tup {env : Env} {O : Ow} {σ : St} {H F : Hp} {q : DQ} {Q : VK} {ds : List D} {vs : List V} (R : Rel B env O σ H F) (r : RVs B.K F ds vs) (h : q (.tup ds) O)
    (k : ∀ d v O' H' F', After B.K O H F O' H' F' → RV B.K F' d v → q d O' → Q v H') (p : Addr) (hp : H p = none) : Q (.ref p) (upd H p (.tup vs)) :=
  have a := R.froz hp (.tup vs)
  k _ _ O _ _ a (.tup (SqT.of upd_same) (r.mono a.ff)) h
theorem fresh_lst {env : Env} {O : Ow} {σ : St} {H F : Hp} {q : DQ} {Q : VK} {ds : List D} {vs : List V} (R : Rel B env O σ H F) (r : RVs B.K F ds vs) (h : q (.lst ds) O)
    (k : ∀ d v O' H' F', After B.K O H F O' H' F' → RV B.K F' d v → q d O' → Q v H') (p : Addr) (hp : H p = none) : Q (.ref p) (upd H p (.lst vs)) :=
  have a := R.froz hp (.lst vs)
  k _ _ O _ _ a (.lst (SqL.of upd_same) (r.mono a.ff)) h
theorem sim_add : Sim2 B (rAddA B.K) dAdd := by
  intro env O σ H F x y dx dy q Q R rx ry h k
  have hL : (∃ a b, asL O dx = some a ∧ asL O dy = some b ∧ a.length + b.length ≤ sizeLine ∧ q (.lst (a ++ b)) O) → rAddA B.K x y H Q := by
    rintro ⟨a, b, e1, e2, hz, h⟩
    obtain ⟨p, xs, rfl, s1, r1⟩ := asL_sq R.fh R.ow rx e1
    obtain ⟨p', ys, rfl, s2, r2⟩ := asL_sq R.fh R.ow ry e2
    exact .inr (.inr ⟨p, p', xs, ys, rfl, rfl, s1, s2, by rw [← r1.length, ← r2.length]; exact hz, fresh_lst R (r1.append r2) h k⟩)
  cases dx <;> cases dy <;> simp only [dAdd] at h <;> try exact hL h
  · cases rx; cases ry
    exact .inl (.inl ⟨_, _, rfl, rfl, k _ _ O H F (.refl R) (.int _) h⟩)
  · cases rx; cases ry
    exact .inl (.inr ⟨_, _, rfl, rfl, h.1, k _ _ O H F (.refl R) (.str _) h.2⟩)
  · cases rx with
    | tup s1 r1 =>
      cases ry with
      | tup s2 r2 =>
        rename_i a b p xs p' ys
        refine .inr (.inl ⟨p, p', xs, ys, rfl, rfl, same_tup R.fh s1, same_tup R.fh s2, by rw [← r1.length, ← r2.length]; exact h.1, fun e => ?_, fun e e' => ?_, fun _ _ => fresh_tup R (r1.append r2) h.2 k⟩)
        · subst e
          cases r1
          exact k _ _ O H F (.refl R) (.tup s2 r2) h.2
        · subst e'
          cases r2
          exact k _ _ O H F (.refl R) (.tup s1 (by simpa using r1)) h.2

/-! ### * -/
theorem RVs.rep {K : Frag} {F : Hp} {ds : List D} {vs : List V} (r : RVs K F ds vs) : ∀ n : Nat, RVs K F (List.replicate n ds).flatten (List.replicate n vs).flatten
  | 0 => .nil
  | n + 1 => by
    rw [List.replicate_succ, List.replicate_succ, List.flatten_cons, List.flatten_cons]
    exact r.append (r.rep n)
theorem mul_one_T (l : Addr) (items : Array Value) (n : Nat) (dd : Option Addr) (sl : Array (Option Value)) (u : Tok) :
    Meets (Builtin.«tuple.__mul__» ⟨[.ref l, .int 1 u], []⟩) (fun _ R s => s.heap.get? l = some { cls := .type "tuple", dict := dd, data := .seq items n, slots := sl } ∧ R (.ok (.ret (Value.ref l))) s) :=
  .of_wp fun prog w A R s h => by
    obtain ⟨hp, g, d, tk, os⟩ := s
    obtain ⟨hl, h⟩ := h
    have f1 := AutoSeq1.idx_int
    have c1 : (items.isEmpty || (1 : Int) == 1) = true := by simp
    wp_walk using wpAny_loadPart' hl
    repeat (first
      | (refine wpAny_ite_true (decide_eq_true c1) ?_; wp_walk using wpAny_loadPart' hl))
    exact ⟨_, rfl, h⟩
theorem mul_nil_T (l : Addr) (items : Array Value) (n : Nat) (dd : Option Addr) (sl : Array (Option Value)) (k : Int) (u : Tok) (h0 : k ≤ 0) (h1 : -(2 ^ 63) ≤ k) (hne : items.isEmpty = false) :
    Meets (Builtin.«tuple.__mul__» ⟨[.ref l, .int k u], []⟩) (fun _ R s => s.heap.get? l = some { cls := .type "tuple", dict := dd, data := .seq items n, slots := sl } ∧
      R (.ok (.ret (Value.ref s.heap.objs.size))) { s with heap := s.heap.push { cls := Value.type "tuple", data := Data.seq #[] }, toks := s.toks }) :=
  .of_wp fun prog w A R s h => by
    obtain ⟨hp, g, d, tk, os⟩ := s
    obtain ⟨hl, h⟩ := h
    have f1 := AutoSeq1.idx_int
    have c0 : ¬ ((decide (k < -(2 ^ 63)) || decide (k ≥ 2 ^ 63)) = true) := by simp; omega
    have c1 : ¬ ((items.isEmpty || k == 1) = true) := by rw [hne]; simp; omega
    have c2 : (decide (k ≤ 0) || items.isEmpty) = true := by simp [h0]
    wp_walk using wpAny_loadPart' hl
    repeat (first
      | (refine wpAny_ite_false (decide_eq_false c0) ?_; wp_walk using wpAny_loadPart' hl)
      | (refine wpAny_ite_false (decide_eq_false c1) ?_; wp_walk using wpAny_loadPart' hl)
      | (refine wpAny_ite_true (decide_eq_true c2) ?_; wp_walk using wpAny_loadPart' hl))
    exact ⟨_, rfl, h⟩

/-- t * k for k up to 1: t itself, or a new () -/
def rRep1 (K : Frag) : R2 := fun x y H Q => ∃ l k xs, x = .ref l ∧ y = .int k ∧ SqT K H l xs ∧ xs ≠ [] ∧ -(2 ^ 63) ≤ k ∧ k ≤ 1 ∧ (k = 1 → Q (.ref l) H) ∧ (k ≤ 0 → ∀ p, H p = none → Q (.ref p) (upd H p (.tup [])))
theorem op_rep1 : OpR X (binaryOp .Mult) (rRep1 X.K) := by
  intro pins s σ H x y v u Q I rx ry h
  obtain ⟨l, k, xs, rfl, rfl, hT, hne, h1, h2, q1, q0⟩ := h
  cases rx
  obtain ⟨t, rfl⟩ := ry
  obtain ⟨its, r, ⟨⟨cls, dd, data, sl⟩, ho, hc, n, hd⟩, hs⟩ := I.tuple hT
  simp only at hc hd
  subst hc hd
  have hi : its.toArray.isEmpty = false := by
    cases r with
    | nil => exact absurd rfl hne
    | cons _ _ => rfl
  have go : wpAny (model X.prog X.w) X.A (call (.builtin "tuple.__mul__") [.ref l, .int k t]) (EP X pins σ Q) X.xe s := by
    by_cases hk : k ≤ 0
    · refine call_meets F.slot_tuple_mul ⟨_, ho, rfl⟩ F.entry_tuple_mul (F.args_tuple_mul_2 _ _) (mul_nil_T l its.toArray n dd sl k t hk h1 hi) ⟨ho, ?_⟩
      refine ⟨.ref s.heap.objs.size, _, I.laid (t' := s.toks) (o := .tup []) (fun b ob q => Heap.get?_push_of_some _ q) (Nat.le_refl _) ?_, rfl, q0 hk _ (I.hok.fresh (Nat.le_refl _))⟩
      exact ⟨Nat.zero_le _, [], .nil, IsTup.new _ _⟩
    · obtain rfl : k = 1 := by omega
      exact call_meets F.slot_tuple_mul ⟨_, ho, rfl⟩ F.entry_tuple_mul (F.args_tuple_mul_2 _ _) (mul_one_T l its.toArray n dd sl t) ⟨ho, .ref l, H, I, rfl, q1 rfl⟩
  exact wpAny_binaryOp_repeat_ref (T := "tuple") (U := "int") (by decide) ⟨_, ho, rfl⟩ (fun s' => typeIs_int s' k t) noFill_tuple_mul F.fills_int_mul F.slot_int_rmul repeat_tuple F.slot_int_index.lookup
    (call_meets F.slot_int_rmul (typeIs_int s k t) F.entry_int_rmul (F.args_int_rmul_2 _ _) (int_rmul_tuple k t l its.toArray n dd sl) ⟨ho, rfl, ⟨_, ho, rfl⟩, go⟩)
def dMul : DR2 := fun x y O q => match x, y with
  | .int i, .int j => CMul i j ∧ q (.int (i * j)) O
  | .tup a, .int k => a ≠ [] ∧ a.length ≤ 1000 ∧ (-(2 ^ 63) ≤ k ∧ k ≤ 1000) ∧ q (.tup (List.replicate k.toNat a).flatten) O
  | _, _ => False
abbrev rMulA (K : Frag) : R2 := fun x y H Q => (rI CMul fun i j => .int (i * j)) x y H Q ∨ (rRep1 K x y H Q ∨ rRepT K x y H Q)
theorem op_mulA : OpR X (binaryOp .Mult) (rMulA X.K) := op_mul.or (op_rep1.or op_repT)
theorem sim_mul : Sim2 B (rMulA B.K) dMul := by
  intro env O σ H F x y dx dy q Q R rx ry h k
  cases dx <;> cases dy <;> simp only [dMul] at h <;> try exact h.elim
  · cases rx; cases ry
    exact .inl ⟨_, _, rfl, rfl, h.1, k _ _ O H F (.refl R) (.int _) h.2⟩
  · rename_i a kk
    cases ry
    cases rx with
    | tup s1 r1 =>
      rename_i p xs
      obtain ⟨hne, hl, ⟨hk1, hk2⟩, h⟩ := h
      have hxs : xs ≠ [] := fun e => hne (by rw [e] at r1; cases r1; rfl)
      by_cases h1 : kk ≤ 1
      · refine .inr (.inl ⟨p, kk, xs, rfl, rfl, same_tup R.fh s1, hxs, hk1, h1, fun e => ?_, fun e => ?_⟩)
        · subst e
          refine k _ _ O H F (.refl R) (.tup s1 r1) ?_
          simpa using h
        · have e0 : kk.toNat = 0 := by omega
          rw [e0] at h
          exact fresh_tup (ds := []) R .nil h k
      · exact .inr (.inr ⟨p, kk, xs, rfl, rfl, same_tup R.fh s1, hxs, by omega, hk2, by rw [← r1.length]; exact hl, fresh_tup R (r1.rep _) h k⟩)
/-! ### // % ** -/
def dFdiv : DR2 := dI2 CDiv fun i j => .int (i / j)
theorem sim_fdiv : Sim2 B (rI CDiv fun i j => .int (i / j)) dFdiv := sim_I fun _ _ _ => .int _
def CPowW (i j : Int) : Prop := 0 ≤ j ∧ (Builtin.Int.intBits i : Int) * j ≤ 2 ^ 27
theorem op_powW : OpR X (binaryOp .Pow) (rI CPowW fun i j => .int (i ^ j.toNat)) := opI fun _ _ _ _ _ _ _ hc q => pow_int hc.1 hc.2 q
def dPow : DR2 := dI2 CPowW fun i j => .int (i ^ j.toNat)
theorem sim_pow : Sim2 B (rI CPowW fun i j => .int (i ^ j.toNat)) dPow := sim_I fun _ _ _ => .int _

/-! ### items, slices -/
def asT : D → Option (List D) | .tup ds => some ds | _ => none
theorem atI_rv {K : Frag} {F : Hp} {ds : List D} {vs : List V} {i : Int} {d : D} (r : RVs K F ds vs) (h : atI ds i = some d) : ∃ v, atI vs i = some v ∧ RV K F d v := by
  unfold atI at h ⊢
  rw [← r.length]
  cases e : ixN ds.length i with
  | none => rw [e] at h; cases h
  | some j =>
    rw [e] at h
    exact r.get h
def dIx : DR2 := fun x y O q => match x, y with
  | .tup ds, .int i => ∃ d, atI ds i = some d ∧ q d O
  | .str z, .int i => ∃ c, z.length ≤ sizeLine ∧ atI z.cps.toList i = some c ∧ q (.str ⟨#[c]⟩) O
  | x, .int i => ∃ ds d, asL O x = some ds ∧ atI ds i = some d ∧ q d O
  | _, _ => False
abbrev rIxA (K : Frag) : R2 := fun x y H Q => rIxL K x y H Q ∨ (rIxT K x y H Q ∨ rIxS x y H Q)
theorem ix_all : IxR X (rIxA X.K) := ix_list.or (ix_tup.or ix_str)
theorem sim_ix : Sim2 B (rIxA B.K) dIx := by
  intro env O σ H F x y dx dy q Q R rx ry h k
  have hL : ∀ i : Int, dy = .int i → (∃ ds d, asL O dx = some ds ∧ atI ds i = some d ∧ q d O) → rIxA B.K x y H Q := by
    rintro i rfl ⟨ds, d, e1, e2, h⟩
    cases ry
    obtain ⟨p, xs, rfl, s1, r1⟩ := asL_sq R.fh R.ow rx e1
    obtain ⟨v, e3, r⟩ := atI_rv r1 e2
    exact .inl ⟨p, xs, i, v, rfl, rfl, s1, e3, k _ _ O H F (.refl R) r h⟩
  cases dy <;> first | (cases dx <;> exact h.elim) | skip
  rename_i i
  cases dx <;> simp only [dIx] at h <;> try exact hL i rfl h
  · cases rx; cases ry
    obtain ⟨c, hz, e, h⟩ := h
    exact .inr (.inr ⟨_, i, c, rfl, rfl, hz, e, k _ _ O H F (.refl R) (.str _) h⟩)
  · cases ry
    cases rx with
    | tup s1 r1 =>
      obtain ⟨d, e, h⟩ := h
      obtain ⟨v, e3, r⟩ := atI_rv r1 e
      exact .inr (.inl ⟨_, _, i, v, rfl, rfl, same_tup R.fh s1, e3, k _ _ O H F (.refl R) r h⟩)
theorem de_ix {a b : Expr} {ta tb : DTE} (hK : X.K = B.K) (ha : PE X a (lift B ta)) (hb : PE X b (lift B tb)) (hs : PlainIx b) : PE X (.Subscript a b pos) (lift B (dOp dIx ta tb)) :=
  PE.weak (pe_ix ix_all ha hb hs) (by rw [hK]; exact lift_op sim_ix)
def cutD (ds : List D) (lo hi : Option Int) : List D := (ds.drop (HT.sIx ds.length 0 lo)).take (HT.sIx ds.length ds.length hi - HT.sIx ds.length 0 lo)
theorem RVs.cut {K : Frag} {F : Hp} {ds : List D} {vs : List V} (r : RVs K F ds vs) (lo hi : Option Int) : RVs K F (cutD ds lo hi) (cutV vs lo hi) := by
  unfold cutD cutV
  rw [← r.length]
  exact (r.drop _).take _
/-- a part of a slice -/
abbrev DTO := Env → Ow → (Option Int → Ow → Prop) → Prop
def liftO (B : Bd) (t : DTO) : TO := fun σ H Q => ∃ env O F q, Rel B env O σ H F ∧ t env O q ∧ ∀ i O' H' F', After B.K O H F O' H' F' → q i O' → Q i H'
def doNone : DTO := fun _ O q => q none O
def doSome (te : DTE) : DTO := fun env O q => te env O fun d O1 => match d with | .int i => q (some i) O1 | _ => False
theorem PO.weak {e : Option Expr} {t t' : TO} (h : PO X e t) (i : ∀ σ H Q, t' σ H Q → t σ H Q) : PO X e t' := ⟨fun pins s σ H Q I q => h.run pins s σ H Q I (i σ H Q q)⟩
theorem do_none : PO X none (liftO B doNone) := PO.weak po_none fun σ H Q h => by
  obtain ⟨env, O, F, q, R, h, k⟩ := h
  exact k none O H F (.refl R) h
theorem do_some {e : Expr} {te : DTE} (h : PE X e (lift B te)) : PO X (some e) (liftO B (doSome te)) := PO.weak (po_some h) fun σ H Q h => by
  obtain ⟨env, O, F, q, R, h, k⟩ := h
  refine ⟨env, O, F, _, R, h, fun d v O1 H1 F1 a1 r1 h1 => ?_⟩
  cases d <;> try exact h1.elim
  cases r1
  exact ⟨_, rfl, k _ O1 H1 F1 a1 h1⟩
def dSl (te : DTE) (tl th : DTO) : DTE := fun env O q => te env O fun x O1 => tl env O1 fun l O2 => th env O2 fun u O3 => match x with
  | .tup ds => q (.tup (cutD ds l u)) O3
  | x => ∃ ds, asL O3 x = some ds ∧ q (.lst (cutD ds l u)) O3
theorem de_slice {e : Expr} {lo hi : Option Expr} {p2 : Pos} {te : DTE} {tl th : DTO} (hK : X.K = B.K) (he : PE X e (lift B te)) (hl : PO X lo (liftO B tl)) (hu : PO X hi (liftO B th)) : PE X (.Subscript e (.Slice lo hi none p2) pos) (lift B (dSl te tl th)) :=
  PE.weak (pe_slice (sl_list.or sl_tupA) he hl hu) fun σ H Q h => by
    obtain ⟨env, O, F, q, R, h, k⟩ := h
    refine ⟨env, O, F, _, R, h, fun x v O1 H1 F1 a1 r1 h1 => ?_⟩
    have R1 := R.call a1
    refine ⟨env, O1, F1, _, R1, h1, fun l O2 H2 F2 a2 h2 => ?_⟩
    have R2 := R1.call a2
    refine ⟨env, O2, F2, _, R2, h2, fun u O3 H3 F3 a3 h3 => ?_⟩
    have R3 := R2.call a3
    have r3 := (r1.mono a2.ff).mono a3.ff
    have k' : ∀ d v O' H' F', After B.K O3 H3 F3 O' H' F' → RV B.K F' d v → q d O' → Q v H' := fun d v O' H' F' a => k d v O' H' F' (a1.trans (a2.trans (a3.trans a)))
    have hL : (∃ ds, asL O3 x = some ds ∧ q (.lst (cutD ds l u)) O3) → rSlL X.K v l u H3 Q := by
      rintro ⟨ds, e1, h3⟩
      obtain ⟨p, xs, rfl, s1, rr⟩ := asL_sq R3.fh R3.ow r3 e1
      exact ⟨p, xs, rfl, by rw [hK]; exact s1, fresh_lst R3 (rr.cut l u) h3 k'⟩
    cases x <;> simp only at h3 <;> try exact .inl (hL h3)
    cases r3 with
    | tup s1 rr =>
      rename_i ds p xs
      refine .inr ⟨p, xs, rfl, by rw [hK]; exact same_tup R3.fh s1, fun hw => ?_, fun _ => fresh_tup R3 (rr.cut l u) h3 k'⟩
      refine k' _ _ O3 H3 F3 (.refl R3) (.tup s1 rr) ?_
      have : cutD ds l u = ds := by
        unfold cutD
        rw [rr.length, hw.1, hw.2, List.drop_zero, Nat.sub_zero, List.take_of_length_le (Nat.le_of_eq rr.length)]
      rw [this] at h3
      exact h3

/-! ### built-ins by values -/
def SimC (B : Bd) (r : List V → Hp → VK → Prop) (dr : List D → Ow → DQ → Prop) : Prop := ∀ (env : Env) (O : Ow) (σ : St) (H F : Hp) (vs : List V) (ds : List D) (q : DQ) (Q : VK), Rel B env O σ H F → RVs B.K F ds vs → dr ds O q →
  (∀ d v O' H' F', After B.K O H F O' H' F' → RV B.K F' d v → q d O' → Q v H') → r vs H Q
def dCB (dr : List D → Ow → DQ → Prop) (ta : DTA) : DTE := fun env O q => ta env O fun ds O1 => dr ds O1 q
theorem lift_cb {r : List V → Hp → VK → Prop} {dr : List D → Ow → DQ → Prop} {ta : DTA} (s : SimC B r dr) (σ : St) (H : Hp) (Q : VK) (h : lift B (dCB dr ta) σ H Q) : tCB r (liftA B ta) σ H Q := by
  obtain ⟨env, O, F, q, R, h, k⟩ := h
  refine ⟨env, O, F, _, R, h, fun ds vs O1 H1 F1 a1 r1 h1 => ?_⟩
  exact s env O1 σ H1 F1 vs ds q Q (R.call a1) r1 h1 fun d v O' H' F' a => k d v O' H' F' (a1.trans a)
theorem de_cb {e : Expr} {r : List V → Hp → VK → Prop} {dr : List D → Ow → DQ → Prop} {ta : DTA} (s : SimC B r dr) (h : PE X e (tCB r (liftA B ta))) : PE X e (lift B (dCB dr ta)) := PE.weak h (lift_cb s)
def lenD (O : Ow) : D → Option Nat
  | .str x => if x.length ≤ sizeLine then some x.length else none
  | .tup ds => some ds.length
  | d => (asL O d).map List.length
def dLen : List D → Ow → DQ → Prop := fun ds O q => match ds with | [d] => ∃ n, lenD O d = some n ∧ q (.int (n : Int)) O | _ => False
theorem sim_len : SimC B (fun xs H Q => ∃ x n, xs = [x] ∧ LenV B.K x H n ∧ Q (.int (n : Nat)) H) dLen := by
  intro env O σ H F vs ds q Q R r h k
  match ds, r, h with
  | [d], r, ⟨n, e, h⟩ =>
    obtain ⟨v, rfl, r1⟩ := r.one
    refine ⟨v, n, rfl, ?_, k _ _ O H F (.refl R) (.int _) h⟩
    have hL : (asL O d).map List.length = some n → LenV B.K v H n := fun e => by
      cases e2 : asL O d with
      | none => rw [e2] at e; cases e
      | some ds =>
        rw [e2] at e
        cases e
        obtain ⟨p, xs, rfl, s1, rr⟩ := asL_sq R.fh R.ow r1 e2
        exact .inl ⟨xs, s1, rr.length⟩
    cases d <;> simp only [lenD] at e <;> try exact hL e
    · cases r1
      split at e
      · rename_i hz
        cases e
        exact ⟨hz, rfl⟩
      · cases e
    · cases e
      cases r1 with
      | tup s1 rr => exact .inr ⟨_, same_tup R.fh s1, rr.length⟩
def dAbs : List D → Ow → DQ → Prop := fun ds O q => match ds with | [.int i] => q (.int (if i < 0 then -i else i)) O | _ => False
theorem sim_abs : SimC B (fun xs H Q => ∃ i, xs = [.int i] ∧ Q (.int (if i < 0 then -i else i)) H) dAbs := by
  intro env O σ H F vs ds q Q R r h k
  match ds, r, h with
  | [.int i], r, h =>
    obtain ⟨v, rfl, r1⟩ := r.one
    cases r1
    exact ⟨i, rfl, k _ _ O H F (.refl R) (.int _) h⟩
def dMin2 : List D → Ow → DQ → Prop := fun ds O q => match ds with | [.int i, .int j] => q (.int (if j < i then j else i)) O | _ => False
def dMax2 : List D → Ow → DQ → Prop := fun ds O q => match ds with | [.int i, .int j] => q (.int (if j > i then j else i)) O | _ => False
theorem sim_min2 : SimC B (fun xs H Q => ∃ i j, xs = [.int i, .int j] ∧ Q (.int (if j < i then j else i)) H) dMin2 := by
  intro env O σ H F vs ds q Q R r h k
  match ds, r, h with
  | [.int i, .int j], r, h =>
    obtain ⟨v, w, rfl, r, r'⟩ := r.two
    cases r; cases r'
    exact ⟨i, j, rfl, k _ _ O H F (.refl R) (.int _) h⟩
theorem sim_max2 : SimC B (fun xs H Q => ∃ i j, xs = [.int i, .int j] ∧ Q (.int (if j > i then j else i)) H) dMax2 := by
  intro env O σ H F vs ds q Q R r h k
  match ds, r, h with
  | [.int i, .int j], r, h =>
    obtain ⟨v, w, rfl, r, r'⟩ := r.two
    cases r; cases r'
    exact ⟨i, j, rfl, k _ _ O H F (.refl R) (.int _) h⟩
def dInt1 : List D → Ow → DQ → Prop := fun ds O q => match ds with | [.int i] => q (.int i) O | [.bl b] => q (.int (if b then 1 else 0)) O | _ => False
theorem sim_int1 : SimC B (fun xs H Q => (∃ i, xs = [.int i] ∧ Q (.int i) H) ∨ ∃ k, xs = [.bl k] ∧ Q (.int (if k then 1 else 0)) H) dInt1 := by
  intro env O σ H F vs ds q Q R r h k
  match ds, r, h with
  | [.int i], r, h =>
    obtain ⟨v, rfl, r1⟩ := r.one
    cases r1
    exact .inl ⟨i, rfl, k _ _ O H F (.refl R) (.int _) h⟩
  | [.bl i], r, h =>
    obtain ⟨v, rfl, r1⟩ := r.one
    cases r1
    exact .inr ⟨i, rfl, k _ _ O H F (.refl R) (.int _) h⟩
end
end DL

set_option Elab.async false
set_option linter.all false
set_option maxRecDepth 100000
set_option maxHeartbeats 4000000
namespace DL
open PySem PySem.Spec PyProof.Rows L2

section
variable {X : Cx} {B : Bd} {pos : Pos}
/-! ### in -/
def rInA (K : Frag) (neg : Bool) : R2 := fun x y H Q => ∃ d ds, Dp K H x d ∧ (Dp K H y (.list ds) ∨ Dp K H y (.tuple ds)) ∧ SeqAt.shaped d = true ∧ SeqAt.shaped (.list ds) = true ∧ Q (.bl (if neg then !(ds.any fun z => PyData.eqv z d) else ds.any fun z => PyData.eqv z d)) H
theorem shaped_tl {ds : List PyData} (h : SeqAt.shaped (.list ds) = true) : SeqAt.shaped (.tuple ds) = true := by
  unfold SeqAt.shaped at h ⊢
  simpa [PyData.canLay0, PyData.depth] using h
theorem op_inA (hu : X.A.units + 65 < cLine) : OpR X (compareOp .In) (rInA X.K false) := by
  intro pins s σ H x y v u Q I rx ry h
  obtain ⟨d, ds, hd, hy, sd, sl, q⟩ := h
  rcases hy with hy | hy
  · exact op_inD hu pins s σ H x y v u Q I rx ry ⟨d, ds, hd, hy, sd, sl, q⟩
  · obtain ⟨as, r1⟩ := Dp.reads I d x v hd rx
    obtain ⟨bs, r2⟩ := Dp.reads I (.tuple ds) y u hy ry
    exact SeqAt.in_tuple_reads r2 r1 (SeqAt.canLay_of_shaped sl) (SeqAt.canLay_of_shaped sd) (room_in_shaped sd hu) ⟨.bl _, H, I, rfl, q⟩
theorem op_notInA (hu : X.A.units + 65 < cLine) : OpR X (compareOp .NotIn) (rInA X.K true) := by
  intro pins s σ H x y v u Q I rx ry h
  obtain ⟨d, ds, hd, hy, sd, sl, q⟩ := h
  rcases hy with hy | hy
  · exact op_notInD hu pins s σ H x y v u Q I rx ry ⟨d, ds, hd, hy, sd, sl, q⟩
  · obtain ⟨as, r1⟩ := Dp.reads I d x v hd rx
    obtain ⟨bs, r2⟩ := Dp.reads I (.tuple ds) y u hy ry
    exact SeqAt.notIn_tuple_reads r2 r1 (SeqAt.canLay_of_shaped sl) (SeqAt.canLay_of_shaped sd) (room_in_shaped sd hu) ⟨.bl _, H, I, rfl, q⟩
/-- the items of a list or a tuple, as plain data -/
def asPs (O : Ow) : D → Option (List PyData)
  | .tup ds => if pds ds = true then some (pys ds) else none
  | d => (asL O d).bind fun ds => if pds ds = true then some (pys ds) else none
def dInG (neg : Bool) : DR2 := fun x y O q => ∃ a ds, asP O x = some a ∧ asPs O y = some ds ∧ SeqAt.shaped a = true ∧ SeqAt.shaped (.list ds) = true ∧ q (.bl (if neg then !(ds.any fun z => PyData.eqv z a) else ds.any fun z => PyData.eqv z a)) O
abbrev dIn := dInG false
abbrev dNotIn := dInG true
theorem asPs_dp {K : Frag} {O : Ow} {H F : Hp} (fh : Same F H) (ow : OwOk K O H F) {d : D} {v : V} {a : List PyData} (r : RV K F d v) (h : asPs O d = some a) : Dp K H v (.list a) ∨ Dp K H v (.tuple a) := by
  have hL : ((asL O d).bind fun ds => if pds ds = true then some (pys ds) else none) = some a → Dp K H v (.list a) := fun h => by
    cases e : asL O d with
    | none => rw [e] at h; cases h
    | some ds =>
      rw [e] at h
      simp only [Option.bind_some] at h
      split at h
      · rename_i e2
        cases h
        obtain ⟨p, xs, rfl, s1, rr⟩ := asL_sq fh ow r e
        exact .lst s1 (rr.dp fh e2)
      · cases h
  cases d <;> simp only [asPs] at h <;> try exact .inl (hL h)
  split at h
  · rename_i e2
    cases h
    cases r with
    | tup s1 rr => exact .inr (.tup (same_tup fh s1) (rr.dp fh e2))
  · cases h
theorem sim_in {neg : Bool} : Sim2 B (rInA B.K neg) (dInG neg) := by
  intro env O σ H F x y dx dy q Q R rx ry h k
  obtain ⟨a, ds, e1, e2, s1, s2, h⟩ := h
  exact ⟨a, ds, asP_dp R.fh R.ow rx e1, asPs_dp R.fh R.ow ry e2, s1, s2, k _ _ O H F (.refl R) (.bl _) h⟩

/-! ### list(..), tuple(..) -/
def asS (O : Ow) : D → Option (List D)
  | .tup ds => some ds
  | d => asL O d
theorem asS_sq {K : Frag} {O : Ow} {H F : Hp} (fh : Same F H) (ow : OwOk K O H F) {d : D} {v : V} {ds : List D} (r : RV K F d v) (h : asS O d = some ds) : ∃ a xs, v = .ref a ∧ (SqL K H a xs ∨ SqT K H a xs) ∧ RVs K F ds xs := by
  have hL : asL O d = some ds → ∃ a xs, v = .ref a ∧ (SqL K H a xs ∨ SqT K H a xs) ∧ RVs K F ds xs := fun h => by
    obtain ⟨p, xs, e, s1, rr⟩ := asL_sq fh ow r h
    exact ⟨p, xs, e, .inl s1, rr⟩
  cases d <;> simp only [asS] at h <;> try exact hL h
  cases h
  cases r with
  | tup s1 rr => exact ⟨_, _, rfl, .inr (same_tup fh s1), rr⟩
def dList1 : List D → Ow → DQ → Prop := fun ds O q => match ds with | [d] => ∃ es, asS O d = some es ∧ q (.lst es) O | _ => False
def dList1O : List D → Ow → DQ → Prop := fun ds O q => match ds with | [d] => ∃ es, asS O d = some es ∧ ∀ p, O p = none → q (.ref p) (setO O p (.lst es)) | _ => False
def dTuple1 : List D → Ow → DQ → Prop := fun ds O q => match ds with | [d] => ∃ es, asS O d = some es ∧ q (.tup es) O | _ => False
theorem sim_list1 : SimC B (fun xs H Q => ∃ p ys, xs = [.ref p] ∧ (SqL B.K H p ys ∨ SqT B.K H p ys) ∧ ∀ l, H l = none → Q (.ref l) (upd H l (.lst ys))) dList1 := by
  intro env O σ H F vs ds q Q R r h k
  match ds, r, h with
  | [d], r, ⟨es, e, h⟩ =>
    obtain ⟨v, rfl, r1⟩ := r.one
    obtain ⟨p, xs, rfl, s1, rr⟩ := asS_sq R.fh R.ow r1 e
    exact ⟨p, xs, rfl, s1, fresh_lst R rr h k⟩
theorem sim_list1O : SimC B (fun xs H Q => ∃ p ys, xs = [.ref p] ∧ (SqL B.K H p ys ∨ SqT B.K H p ys) ∧ ∀ l, H l = none → Q (.ref l) (upd H l (.lst ys))) dList1O := by
  intro env O σ H F vs ds q Q R r h k
  match ds, r, h with
  | [d], r, ⟨es, e, h⟩ =>
    obtain ⟨v, rfl, r1⟩ := r.one
    obtain ⟨p, xs, rfl, s1, rr⟩ := asS_sq R.fh R.ow r1 e
    exact ⟨p, xs, rfl, s1, fun l hl => k _ _ _ _ F (R.own hl (u := .lst es) ⟨xs, rfl, rr⟩) (.ref l) (h l (R.free hl).1)⟩
theorem sim_tuple1 : SimC B (fun xs H Q => ∃ p ys, xs = [.ref p] ∧ ((SqL B.K H p ys ∧ ∀ l, H l = none → Q (.ref l) (upd H l (.tup ys))) ∨ (SqT B.K H p ys ∧ Q (.ref p) H))) dTuple1 := by
  intro env O σ H F vs ds q Q R r h k
  match ds, r, h with
  | [d], r, ⟨es, e, h⟩ =>
    obtain ⟨v, rfl, r1⟩ := r.one
    have hL : asL O d = some es → ∃ p ys, [v] = [.ref p] ∧ ((SqL B.K H p ys ∧ ∀ l, H l = none → Q (.ref l) (upd H l (.tup ys))) ∨ (SqT B.K H p ys ∧ Q (.ref p) H)) := fun e => by
      obtain ⟨p, xs, rfl, s1, rr⟩ := asL_sq R.fh R.ow r1 e
      exact ⟨p, xs, rfl, .inl ⟨s1, fresh_tup R rr h k⟩⟩
    cases d <;> simp only [asS] at e <;> try exact hL e
    cases e
    cases r1 with
    | tup s1 rr => exact ⟨_, _, rfl, .inr ⟨same_tup R.fh s1, k _ _ O H F (.refl R) (.tup s1 rr) h⟩⟩
/-- list(range(..)) -/
def dListRg1 (ta : DTE) : DTE := fun env O q => ta env O fun d O1 => match d with | .int n => RgOk 0 n ∧ q (.lst (rgD 0 n)) O1 | _ => False
theorem rgD_rv {K : Frag} {F : Hp} (a b : Int) : RVs K F (rgD a b) (rgV a b) := by
  unfold rgD rgV
  have : ∀ l : List Nat, RVs K F (l.map fun (k : Nat) => D.int (a + (k : Int))) (l.map fun i => V.int (a + (i : Nat))) := by
    intro l
    induction l with
    | nil => exact .nil
    | cons x l ih => exact .cons (.int _) ih
  exact this _
theorem de_listRg1 {e : Expr} {ta : DTE} (h : PE X e (tLstRg (tRg1 (lift B ta)))) : PE X e (lift B (dListRg1 ta)) := PE.weak h fun σ H Q h => by
  obtain ⟨env, O, F, q, R, h, k⟩ := h
  refine ⟨env, O, F, _, R, h, fun d v O1 H1 F1 a1 r1 h1 => ?_⟩
  cases d <;> try exact h1.elim
  cases r1
  exact ⟨_, rfl, h1.1, fresh_lst (R.call a1) (rgD_rv _ _) h1.2 fun d v O' H' F' a => k d v O' H' F' (a1.trans a)⟩

/-! ### sorted -/
abbrev srtD (ds : List D) : List D := ds.mergeSort (PySem.W.dataLe false py)
def rSortG (K : Frag) : List V → Hp → VK → Prop := fun vs H Q => ∃ (a : Addr) (bs : List (V × D)), vs = [.ref a] ∧ SqL K H a (bs.map (·.1)) ∧ (∀ b ∈ bs, Dp K H b.1 (py b.2)) ∧ PySem.W.AllAlike (bs.map fun b => py b.2) ∧ PySem.W.Sortable (bs.map fun b => py b.2) ∧
  (∀ b ∈ bs, (py b.2).depth ≤ 64) ∧ ∀ p, H p = none → Q (.ref p) (upd H p (.lst ((bs.mergeSort (PySem.W.dataLe false fun b => py b.2)).map (·.1))))
theorem eachIs_vals : ∀ {us : List Value} {bs : List (V × D)}, PySem.W.EachIs (fun u (b : V × D) => RelV b.1 u) us bs → Vals (bs.map (·.1)) us
  | _, _, .nil => .nil
  | _, _, .cons h t => .cons h (eachIs_vals t)
theorem vals_eachIs : ∀ {us : List Value} {bs : List (V × D)}, Vals (bs.map (·.1)) us → PySem.W.EachIs (fun u (b : V × D) => RelV b.1 u) us bs
  | _, [], h => by cases h; exact .nil
  | _, b :: bs, h => by
    cases h with
    | cons h t => exact .cons h (vals_eachIs t)
theorem eachIs_and {α β : Type} {R S : α → β → Prop} : ∀ {us : List α} {bs : List β}, PySem.W.EachIs R us bs → (∀ u b, b ∈ bs → R u b → S u b) → PySem.W.EachIs S us bs
  | _, _, .nil, _ => .nil
  | _, _, .cons h t, f => .cons (f _ _ List.mem_cons_self h) (eachIs_and t fun u b hb => f u b (List.mem_cons_of_mem _ hb))
theorem cr_sortG (hu : X.A.units + 66 < cLine) : CallR X (.builtin "sorted") (rSortG X.K) := by
  intro pins s σ H xs us Q I r h
  obtain ⟨a, bs, rfl, hs, hd, hal, hso, hdp, q⟩ := h
  obtain ⟨u, rfl, ru⟩ := vals1 r
  cases ru
  obtain ⟨its, rv, pl, hz⟩ := I.list hs
  have e1 := vals_eachIs rv
  have hlen : bs.length ≤ sizeLine := by simpa using hz
  refine PySem.W.sorted_data (bs := bs) (enc := fun b => py b.2) (R := fun u (b : V × D) => RelV b.1 u) (vs := its) pl.isList e1 (eachIs_and e1 fun u b hb hr => Dp.reads I (py b.2) b.1 u (hd b hb) hr) hal hso hlen (fun b hb => by have := hdp b hb; omega) fun out ho eo => ?_
  obtain ⟨c, hc⟩ := PyProof.Rows.sortedAll_at s.heap its out.toArray
  refine ⟨.ref (s.heap.objs.size + 1), _, I.laid (t' := s.toks) (a := s.heap.objs.size + 1) (o := .lst ((bs.mergeSort (PySem.W.dataLe false fun b => py b.2)).map (·.1))) (fun b o => PyProof.Rows.sortedAll_old) (Nat.le_succ _) ?_, rfl, q _ (I.hok.fresh (Nat.le_succ _))⟩
  exact ⟨by simpa using hlen, out, c, eachIs_vals eo, hc⟩
def dSorted : List D → Ow → DQ → Prop := fun ds O q => match ds with
  | [d] => ∃ es, asL O d = some es ∧ pds es = true ∧ PySem.W.AllAlike (es.map py) ∧ PySem.W.Sortable (es.map py) ∧ (∀ e ∈ es, (py e).depth ≤ 64) ∧ q (.lst (srtD es)) O
  | _ => False
theorem zipRV {K : Frag} {F : Hp} : ∀ {ds : List D} {vs : List V}, RVs K F ds vs → ∃ bs : List (V × D), bs.map (·.1) = vs ∧ bs.map (·.2) = ds ∧ ∀ b ∈ bs, RV K F b.2 b.1
  | _, _, .nil => ⟨[], rfl, rfl, fun _ h => by cases h⟩
  | d :: _, v :: _, .cons h hs => by
    obtain ⟨bs, e1, e2, hb⟩ := zipRV hs
    refine ⟨(v, d) :: bs, by simp [e1], by simp [e2], fun b hm => ?_⟩
    rcases List.mem_cons.mp hm with rfl | hm
    · exact h
    · exact hb b hm
theorem rvs_of_zip {K : Frag} {F : Hp} : ∀ (bs : List (V × D)), (∀ b ∈ bs, RV K F b.2 b.1) → RVs K F (bs.map (·.2)) (bs.map (·.1))
  | [], _ => .nil
  | b :: bs, h => .cons (h b List.mem_cons_self) (rvs_of_zip bs fun c hc => h c (List.mem_cons_of_mem _ hc))
theorem pds_mem : ∀ {ds : List D} {d : D}, pds ds = true → d ∈ ds → pd d = true
  | e :: ds, d, h, hm => by
    simp only [pds, Bool.and_eq_true] at h
    rcases List.mem_cons.mp hm with rfl | hm
    · exact h.1
    · exact pds_mem h.2 hm
theorem sim_sorted : SimC B (rSortG B.K) dSorted := by
  intro env O σ H F vs ds q Q R r h k
  match ds, r, h with
  | [d], r, ⟨es, e, hp, hal, hso, hdp, h⟩ =>
    obtain ⟨v, rfl, r1⟩ := r.one
    obtain ⟨p, xs, rfl, s1, rr⟩ := asL_sq R.fh R.ow r1 e
    obtain ⟨bs, rfl, rfl, hb⟩ := zipRV rr
    have em : (bs.map fun b => py b.2) = (bs.map (·.2)).map py := by simp
    refine ⟨p, bs, rfl, s1, fun b hm => (hb b hm).dp R.fh (pds_mem hp (List.mem_map.mpr ⟨b, hm, rfl⟩)), by rw [em]; exact hal, by rw [em]; exact hso, fun b hm => hdp _ (List.mem_map.mpr ⟨b, hm, rfl⟩), ?_⟩
    have hmap : (bs.mergeSort (PySem.W.dataLe false fun b => py b.2)).map (·.2) = srtD (bs.map (·.2)) := List.map_mergeSort fun _ _ _ _ => rfl
    refine fresh_lst (ds := srtD (bs.map (·.2))) R ?_ h k
    rw [← hmap]
    exact rvs_of_zip _ fun b hm => hb b (List.mem_mergeSort.mp hm)

/-! ### repr -/
def rRepr (K : Frag) : List V → Hp → VK → Prop := fun xs H Q => ∃ v d, xs = [v] ∧ Dp K H v d ∧ d.showable = true ∧ d.depth ≤ 64 ∧ d.shown.length ≤ sizeLine ∧ Q (.str d.shown) H
theorem dp_noDict {K : Frag} {H : Hp} : ∀ {v : V} {d : PyData}, Dp K H v d → d.hasDict = false := by
  intro v d h
  exact Dp.rec (motive_1 := fun _ d _ => d.hasDict = false) (motive_2 := fun _ ds _ => PyData.hasDictAll ds = false) (by simp [PyData.hasDict]) (fun _ => by simp [PyData.hasDict]) (fun _ => by simp [PyData.hasDict]) (fun _ => by simp [PyData.hasDict])
    (fun _ _ ih => by simpa [PyData.hasDict] using ih) (fun _ _ ih => by simpa [PyData.hasDict] using ih) (by simp [PyData.hasDictAll]) (fun _ _ i1 i2 => by simp [PyData.hasDictAll, i1, i2]) h
theorem cr_repr (hgd : X.A.guards = some []) (hu : X.A.units + 66 < cLine) : CallR X (.builtin "repr") (rRepr X.K) := by
  intro pins s σ H xs us Q I r h
  obtain ⟨v, d, rfl, hd, hs, hdp, hz, q⟩ := h
  obtain ⟨u, rfl, ru⟩ := vals1 r
  have hnd := dp_noDict hd
  cases v with
  | ref a =>
    cases ru
    obtain ⟨as, rd⟩ := Dp.reads I d _ _ hd rfl
    exact repr_of_reads' rd hs (PyData.noDict_hsm hnd) hgd (by omega) (fun _ _ e => e) (fun h' u tk hk => ⟨.str _, H, I.kept hk, ⟨_, rfl⟩, q⟩) hz
  | non => cases hd; cases ru; exact PySem.P.repr_of_none ⟨.str _, H, I.tok _, ⟨_, rfl⟩, by simpa [PyData.shown] using q⟩
  | bl b => cases hd; cases ru; exact PySem.P.repr_of_bool ⟨.str _, H, I.tok _, ⟨_, rfl⟩, by simpa [PyData.shown] using q⟩
  | int i => cases hd; obtain ⟨t, rfl⟩ := ru; exact PySem.P.repr_of_int (by simpa [PyData.showable] using hs) ⟨.str _, H, I.tok _, ⟨_, rfl⟩, by simpa [PyData.shown] using q⟩
  | str i => cases hd; obtain ⟨t, rfl⟩ := ru; exact PySem.P.repr_of_str ⟨.str _, H, I.tok _, ⟨_, rfl⟩, by simpa [PyData.shown] using q⟩ (by simpa [PyData.shown] using hz)
  | byt _ => cases hd
  | flt _ => cases hd
  | ty _ => cases hd
def dRepr : List D → Ow → DQ → Prop := fun ds O q => match ds with
  | [d] => ∃ a, asP O d = some a ∧ a.showable = true ∧ a.depth ≤ 64 ∧ a.shown.length ≤ sizeLine ∧ q (.str a.shown) O
  | _ => False
theorem sim_repr : SimC B (rRepr B.K) dRepr := by
  intro env O σ H F vs ds q Q R r h k
  match ds, r, h with
  | [d], r, ⟨a, e, h1, h2, h3, h⟩ =>
    obtain ⟨v, rfl, r1⟩ := r.one
    exact ⟨v, a, rfl, asP_dp R.fh R.ow r1 e, h1, h2, h3, k _ _ O H F (.refl R) (.str _) h⟩

/-! ### own lists change -/
def dAppend (to : DTE) (ta : DTA) : DTE := fun env O q => to env O fun x O1 => match x with
  | .ref p => ∃ es, O1 p = some (.lst es) ∧ ta env O1 fun ds O2 => match ds with | [d] => O2 p = some (.lst es) ∧ es.length < sizeLine ∧ q .non (setO O2 p (.lst (es ++ [d]))) | _ => False
  | _ => False
theorem de_append {e : Expr} {to : DTE} {ta : DTA} (hK : X.K = B.K) (h : PE X e (tBM X.K "list" rAppend (lift B to) (liftA B ta))) : PE X e (lift B (dAppend to ta)) := PE.weak h fun σ H Q h => by
  obtain ⟨env, O, F, q, R, h, k⟩ := h
  refine ⟨env, O, F, _, R, h, fun x v O1 H1 F1 a1 r1 h1 => ?_⟩
  cases x <;> try exact h1.elim
  rename_i p
  cases r1
  obtain ⟨es, e1, h1⟩ := h1
  obtain ⟨_, ho, e2, vs, rfl, rr⟩ := a1.ow p _ e1
  have R1 := R.call a1
  refine ⟨.inl ⟨rfl, vs, SqL.of e2⟩, env, O1, F1, _, R1, h1, fun ds us O2 H2 F2 a2 r2 h2 => ?_⟩
  match ds, r2, h2 with
  | [d], r2, ⟨e3, hz, h2⟩ =>
    obtain ⟨u, rfl, ru⟩ := r2.one
    obtain ⟨_, ho, e4, vs2, rfl, rr2⟩ := a2.ow p _ e3
    refine ⟨p, vs2, u, rfl, rfl, e4, by rw [← rr2.length]; exact hz, ?_⟩
    exact k _ _ _ _ F2 (a1.trans (a2.trans ((R1.call a2).put e3 (u := .lst (es ++ [d])) ⟨_, rfl, rr2.append (.cons ru .nil)⟩))) .non h2
/-- o[i] = v, o a list of one's own -/
def dgSub (to ti : DTE) : DTG := fun d env O q => to env O fun x O1 => ti env O1 fun y O2 => match x, y with
  | .ref p, .int i => ∃ es j, O2 p = some (.lst es) ∧ ixN es.length i = some j ∧ q env (setO O2 p (.lst (es.set j d)))
  | _, _ => False
theorem dg_sub {tg : Expr} {to ti : DTE} (h : PG X tg (gSub (lift B to) (lift B ti) rSetL)) : PG X tg (liftG B (dgSub to ti)) := PG.weak h fun v σ H Q h => by
  obtain ⟨d, env, O, F, q, R, r, h, k⟩ := h
  refine ⟨env, O, F, _, R, h, fun x xv O1 H1 F1 a1 r1 h1 => ?_⟩
  have R1 := R.call a1
  refine ⟨env, O1, F1, _, R1, h1, fun y yv O2 H2 F2 a2 r2 h2 => ?_⟩
  cases x <;> cases y <;> try exact h2.elim
  cases r1; cases r2
  rename_i p i
  obtain ⟨es, j, e1, e2, h2⟩ := h2
  obtain ⟨_, ho, e3, vs, rfl, rr⟩ := a2.ow p _ e1
  have r' := (r.mono a1.ff).mono a2.ff
  have a3 := (R1.call a2).put e1 (u := .lst (es.set j d)) ⟨vs.set j v, rfl, rr.set r' j⟩
  exact ⟨p, vs, i, j, rfl, rfl, e3, by rw [← rr.length]; exact e2, k _ _ _ _ _ (a1.trans (a2.trans a3)) (((R.sl.mono a1.ff).mono a2.ff).mono a3.ff) h2⟩
end

/-! ### a def by its body -/
section
variable {P : Program} {w : World} {K : Frag} {mg : Str → Option Value} {base : Heap}
/-- at a def's end some of the ghost heap may be forgotten -/
def rtK (q : DQ) : DQ := fun d O => ∃ o2, SubO o2 O ∧ q d o2
theorem rt_same {q : DQ} {d : D} {O : Ow} (h : q d O) : rtK q d O := ⟨O, .refl O, h⟩
/-- what a body's walk may lean on -/
structure Site (X : Cx) (B : Bd) (k : Nat) (wx : DW) : Prop where
  hK : X.K = B.K
  gd : X.A.guards = some []
  rm : Room k X.A
  tk : TakesD X B wx
  po : PassesOwn (model X.prog X.w) X.A X.env X.xe
theorem fn_D {x qual : Str} {st : Stmt} {f : Addr} {fd : FuncData} {N ps : List Str} {n k : Nat} {fn : DF} (F : Fun K x qual st f fd) (S : FnScope N ps (defScope st)) (hn : ps.length = n)
    (hb : ∀ (cdv : Value) (A : Around) (outer : List PySem.Env) (s : Shared) (H : Hp) (E : XK) (O0 : Ow) (H0 F0 : Hp) (ds : List D) (O : Ow) (q : DQ) (xx : DX), ds.length = n → fn ds O q xx →
      Site (cxOf (L2.CX P w) P w K mg base N qual (defScope st) f cdv A outer s H E) ⟨K, O0, H0, F0⟩ k (fun c fs _ O => xx c fs O) →
      ∃ t : DTS, PSs (cxOf (L2.CX P w) P w K mg base N qual (defScope st) f cdv A outer s H E) (defBody st) (liftS ⟨K, O0, H0, F0⟩ t) ∧ t { nx := fun _ O' => rtK q .non O', rt := rtK q } (envOf N.length ds) O) :
    FnG P w K mg base (L2.CX P w) (k + 1) f fd ps (spD K n fn) := by
  refine FnG.ofFun F S (spD_len hn) fun cdv A outer s H vs Q E hg hr h => ?_
  obtain ⟨F0, O, ds, q, xx, fh, ow, rv, hl, hf, k1, k2⟩ := h
  obtain ⟨t, ht, hq⟩ := hb cdv A outer s H E O H F0 ds O q xx hl hf ⟨rfl, hg, hr, (takes_of rfl rfl rfl rfl).imp fun c d σ H' z => by
    obtain ⟨env, O', F', fs, R, xr, hx⟩ := z
    exact k2 c d fs O' H' F' R.af xr hx, passes_of rfl⟩
  refine ⟨_, ht, envOf N.length ds, O, F0, _, rel_start fh ow rv, hq, ⟨fun env' O' σ' H' F' a _ ⟨o2, sb, z⟩ => k1 .non .non o2 H' F' (a.weak sb) .non z, fun x v O' H' F' a r ⟨o2, sb, z⟩ => k1 x v o2 H' F' (a.weak sb) r z, fun _ _ _ _ _ _ _ z => z.elim, fun _ _ _ _ _ _ _ z => z.elim⟩⟩
theorem fn_DD {x qual : Str} {params : Arguments} {body : List Stmt} {scope : Scope} {dvs : List V} {kws : List (Str × V)} {f : Addr} {fd : FuncData} {N ps : List Str} {n k : Nat} {fn : DF} (F : FunD K x qual params body scope dvs kws f fd) (S : FnScope N ps scope) (hn : ps.length = n)
    (hb : ∀ (cdv : Value) (A : Around) (outer : List PySem.Env) (s : Shared) (H : Hp) (E : XK) (O0 : Ow) (H0 F0 : Hp) (ds : List D) (O : Ow) (q : DQ) (xx : DX), ds.length = n → fn ds O q xx →
      Site (cxOf (L2.CX P w) P w K mg base N qual scope f cdv A outer s H E) ⟨K, O0, H0, F0⟩ k (fun c fs _ O => xx c fs O) →
      ∃ t : DTS, PSs (cxOf (L2.CX P w) P w K mg base N qual scope f cdv A outer s H E) body (liftS ⟨K, O0, H0, F0⟩ t) ∧ t { nx := fun _ O' => rtK q .non O', rt := rtK q } (envOf N.length ds) O) :
    FnG P w K mg base (L2.CX P w) (k + 1) f fd ps (spD K n fn) := by
  refine FnG.ofFunD F S (spD_len hn) fun cdv A outer s H vs Q E hg hr h => ?_
  obtain ⟨F0, O, ds, q, xx, fh, ow, rv, hl, hf, k1, k2⟩ := h
  obtain ⟨t, ht, hq⟩ := hb cdv A outer s H E O H F0 ds O q xx hl hf ⟨rfl, hg, hr, (takes_of rfl rfl rfl rfl).imp fun c d σ H' z => by
    obtain ⟨env, O', F', fs, R, xr, hx⟩ := z
    exact k2 c d fs O' H' F' R.af xr hx, passes_of rfl⟩
  refine ⟨_, ht, envOf N.length ds, O, F0, _, rel_start fh ow rv, hq, ⟨fun env' O' σ' H' F' a _ ⟨o2, sb, z⟩ => k1 .non .non o2 H' F' (a.weak sb) .non z, fun x v O' H' F' a r ⟨o2, sb, z⟩ => k1 x v o2 H' F' (a.weak sb) r z, fun _ _ _ _ _ _ _ z => z.elim, fun _ _ _ _ _ _ _ z => z.elim⟩⟩
end
end DL

set_option Elab.async false
set_option linter.all false
set_option maxRecDepth 100000
set_option maxHeartbeats 4000000
namespace DL
open PySem PySem.Spec PyProof.Rows L2
/-! ### the law's end -/
/-- the script alone is tracked, and known -/
def scrH (K : Frag) (a : Addr) (vs : List Value) (ns : List Int) : Hp := fun b => if b = a ∧ K.lookup a = none then some (.frz { cls := .type "list", data := .seq vs.toArray } (.lst (ns.map V.int))) else none
theorem scrH_some {K : Frag} {a b : Addr} {vs : List Value} {ns : List Int} {o : HO} (e : scrH K a vs ns b = some o) : b = a ∧ K.lookup a = none ∧ o = .frz { cls := .type "list", data := .seq vs.toArray } (.lst (ns.map V.int)) := by
  unfold scrH at e
  split at e
  · rename_i h
    exact ⟨h.1, h.2, (Option.some.inj e).symm⟩
  · cases e
theorem law_G {P : Program} {w : World} {K : Frag} {mg mb : Str → Option Value} {k : Nat} {fa a : Addr} {fd : FuncData} {x : Str} {fn : DF} {t : Shared} {vs : List Value} {ns : List Int}
    (kin : K.In t.heap) (gl : t.heap.Ns mainGlobals mg) (bl : t.heap.Ns builtinsNs mb) (bb : ∀ x : Str, x ≠ "__name__" → mb x = bootBuiltins x) (lim : t.heap.NoLimit) (gens : t.gens = #[])
    (scr : t.heap.get? a = some { cls := .type "list", data := .seq vs.toArray }) (hin : IntsAre vs ns) (short : ns.length ≤ sizeLine) (room : Room k callerA)
    (F : ∀ base : Heap, K.In base → base.Ns mainGlobals mg → FnG P w K mg base (L2.CX P w) k fa fd [x] (spD K 1 fn)) (bind : ∀ (s : Shared) (u : Value), BindsTo s fd ⟨[u], []⟩ [(x, u)])
    (hfn : fn [.lst (ns.map D.int)] (fun _ => none) (fun d _ => d = .bl true) (fun _ _ _ => False)) :
    codeAny (model P w) callerA (.call (.ref fa) ⟨[.ref a], []⟩) (fun r s' => r = .ok (.ret (.bool true)) ∧ OldK t.heap s'.heap ∧ s'.os = t.os ∧ AllBare s'.gens) t := by
  let H := scrH K a vs ns
  have vals : Vals (ns.map V.int) vs := vals_ints hin
  have hlen := hin.length
  have dat : ∀ {b : Addr} {o : Obj} {es : Array DictEntry} {ep : Nat}, t.heap.get? b = some o → o.data = .dict es ep → H b = none := by
    intro b o es ep e de
    cases z : H b with
    | none => rfl
    | some u =>
      obtain ⟨rfl, _, _⟩ := scrH_some z
      rw [scr] at e
      cases e
      cases de
  have nsOf : ∀ {b : Addr} {m : Str → Option Value}, t.heap.Ns b m → (hidT t.heap H).Ns b m := by
    rintro b m ⟨o, es, ep, e, de, rest⟩
    exact ⟨o, es, ep, hidT_get e (dat e de), de, rest⟩
  have kB : K.In (hidT t.heap H) := by
    intro b o e
    refine hidT_get (kin b o e) ?_
    cases z : H b with
    | none => rfl
    | some u =>
      obtain ⟨rfl, kn, _⟩ := scrH_some z
      rw [kn] at e; cases e
  have hok : HOk P w H t.heap := by
    intro b o e
    obtain ⟨rfl, _, rfl⟩ := scrH_some e
    exact ⟨scr, by simpa using short, vs, _, vals, scr⟩
  have m0 : Mod K mg (hidT t.heap H) := by
    obtain ⟨mc, l1, l2⟩ := lim
    exact ⟨kB, nsOf gl, ⟨mb, nsOf bl, bb⟩, ⟨mc, nsOf l1, l2⟩⟩
  have e0 : Env0 P w K mg (hidT t.heap H) callerA [] t H :=
    ⟨rfl, m0, fun b o e => of_hidT e, Nat.le_of_eq (hidT_size _ _), trivial, fun b z => absurd (show b ∈ ([] : List Addr) from z) (by simp), hok, .of_eq gens⟩
  have sq : SqL K H a (ns.map V.int) := by
    cases hk : K.lookup a with
    | none => exact .inl (.inr ⟨_, if_pos ⟨rfl, hk⟩⟩)
    | some o =>
      have e := kin a o hk
      rw [scr] at e
      cases e
      exact .inr ⟨_, vs.toArray, _, hk, rfl, rfl, rfl, by rw [List.size_toArray, hlen]; exact short, by simpa using vals⟩
  have rvs : ∀ l : List Int, RVs K H (l.map D.int) (l.map V.int) := by
    intro l
    induction l with
    | nil => exact .nil
    | cons i l ih => exact .cons (.int i) ih
  have hsp : spD K 1 fn [.ref a] H (fun v _ => v = .bl true) (fun _ _ _ => False) := by
    refine ⟨H, fun _ => none, [.lst (ns.map D.int)], _, _, Same.refl _, (fun p o z => by cases z), .cons (.lst sq (rvs ns)) .nil, rfl, hfn, fun d v O' H' F' _ r z => ?_, fun _ _ _ _ _ _ _ _ z => z⟩
    subst z
    cases r
    rfl
  refine codeAny_mono ((F _ kB (nsOf gl)).run callerA [] t H ⟨[.ref a], []⟩ [.ref a] [.ref a] _ _ rfl room e0 (bind t (.ref a)) (.cons rfl .nil) hsp) ?_
  intro r s' z
  match r, z with
  | .error e, z =>
    obtain ⟨_, _, _, _, _, _, _, _, _, _, _, _, z⟩ := z
    exact z.elim
  | .ok .next, z => exact False.elim z
  | .ok .brk, z => exact False.elim z
  | .ok .cont, z => exact False.elim z
  | .ok (.ret u), z =>
    obtain ⟨v, H', os, bare, un, hok', rv, q⟩ := z
    have q' : v = .bl true := q
    subst q'
    obtain rfl : u = Value.bool true := rv
    refine ⟨rfl, OldK.of_keep fun b o e => ?_, os, bare⟩
    cases z : H b with
    | none => exact un.keep b o e z (fun y => absurd (show b ∈ ([] : List Addr) from y) (by simp)) (by simp)
    | some y =>
      obtain ⟨rfl, _, rfl⟩ := scrH_some z
      have y2 := (hok' _ _ (un.frzs _ _ _ z)).1
      rw [scr] at e
      cases e
      exact y2
theorem walk_G {l : PySem.W.OpenLaw} {n k : Nat} {q : Program} {loose : List Str} {XP : (Str → Option Value) → Heap → Prop} {YP : World → Heap → Prop} {d : DefRec} {K : Params → Frag} {x : Str} {fn : DF}
    (hn : l.most = some n) (hn2 : n ≤ sizeLine) (hdf : d.params.defaults = []) (hr : Room k callerA) (hY : ∀ (w : World) (h : Heap), YP w h → (K w.params).In h)
    (F : ∀ (w : World) (mg : Str → Option Value) (fa : Addr) (h : Heap), (K w.params).In h → h.Ns mainGlobals mg → mg d.name = some (.ref fa) →
      ∃ fd : FuncData, (∀ (s : Shared) (u : Value), BindsTo s fd ⟨[u], []⟩ [(x, u)]) ∧ ∀ base : Heap, (K w.params).In base → base.Ns mainGlobals mg → FnG l.prog w (K w.params) mg base (L2.CX l.prog w) k fa fd [x] (spD (K w.params) 1 fn))
    (hfn : ∀ ns : List Int, ns.length ≤ n → (∀ k ∈ ns, Builtin.Int.intBits k ≤ 1048576) → fn [.lst (ns.map D.int)] (fun _ => none) (fun d _ => d = .bl true) (fun _ _ _ => False)) :
    PySem.W.WalkO q loose XP YP l.row.toRowW d [] (fun f vs => PySem.call f vs) := by
  refine Att.attach_callB hn hdf fun w s₀ s₁ mg mb fa o pm cd doc a vs ns G Y ho hd hcd hmg hobj hints hlen hbits hg => ?_
  obtain ⟨fd, hb, hF⟩ := F w mg fa _ (hY w _ Y) G.T.g hmg
  exact law_G (hY w _ Y) G.T.g G.T.b G.T.builtins G.T.nolimit hg hobj hints (Nat.le_trans hlen hn2) hr hF hb (hfn ns hlen hbits)
end DL

set_option Elab.async false
set_option linter.all false
set_option maxRecDepth 100000
set_option maxHeartbeats 4000000
namespace DL
open PySem PySem.Spec PyProof.Rows L2
/-! ### a def that is called -/
structure Cal (P : Program) (w : World) (K : Frag) (mg : Str → Option Value) (base : Heap) (x : Str) (ps : List Str) (n k : Nat) (fn : DF) (f : Addr) (fd : FuncData) : Prop where
  G : FnG P w K mg base (L2.CX P w) k f fd ps (spD K n fn)
  mg : mg x = some (.ref f)
  kp : PySem.W.keepIn K (.ref f) = true

section
variable {X : Cx} {B : Bd} {pos : Pos} {k : Nat} {wx : DW} {a b c : Expr} {ta tb tc : DTE}
/-! ### the sites within a body -/
theorem Site.blk (S : Site X B k wx) {s : Shared} {H : Hp} {scope : Scope} {cenv : PySem.Env} {fp : List Addr} : Site (X.blk s H scope cenv fp) B k w0 := ⟨S.hK, S.gd, S.rm, takesD0, PassesOwn.never⟩
/-! ### operators at a site -/
theorem so_eq (S : Site X B k wx) (ha : PE X a (lift B ta)) (hb : PE X b (lift B tb)) : PE X (.Compare a [.Eq] [b] pos) (lift B (dOp dEq ta tb)) := de_cmp (op_eqD S.rm.units) (by rw [S.hK]; exact sim_eq) ha hb (nomark _)
theorem so_ne (S : Site X B k wx) (ha : PE X a (lift B ta)) (hb : PE X b (lift B tb)) : PE X (.Compare a [.NotEq] [b] pos) (lift B (dOp dNe ta tb)) := de_cmp (op_neD S.rm.units) (by rw [S.hK]; exact sim_ne) ha hb (nomark _)
theorem so_lt (S : Site X B k wx) (ha : PE X a (lift B ta)) (hb : PE X b (lift B tb)) : PE X (.Compare a [.Lt] [b] pos) (lift B (dOp dLt ta tb)) := de_cmp op_lt sim_lt ha hb (nomark _)
theorem so_le (S : Site X B k wx) (ha : PE X a (lift B ta)) (hb : PE X b (lift B tb)) : PE X (.Compare a [.LtE] [b] pos) (lift B (dOp dLe ta tb)) := de_cmp op_le sim_le ha hb (nomark _)
theorem so_gt (S : Site X B k wx) (ha : PE X a (lift B ta)) (hb : PE X b (lift B tb)) : PE X (.Compare a [.Gt] [b] pos) (lift B (dOp dGt ta tb)) := de_cmp op_gt sim_gt ha hb (nomark _)
theorem so_ge (S : Site X B k wx) (ha : PE X a (lift B ta)) (hb : PE X b (lift B tb)) : PE X (.Compare a [.GtE] [b] pos) (lift B (dOp dGe ta tb)) := de_cmp op_ge sim_ge ha hb (nomark _)
theorem so_is (S : Site X B k wx) (ha : PE X a (lift B ta)) (hb : PE X b (lift B tb)) : PE X (.Compare a [.Is] [b] pos) (lift B (dOp dIsN ta tb)) := de_cmp op_isN sim_isN ha hb (nomark _)
theorem so_isnot (S : Site X B k wx) (ha : PE X a (lift B ta)) (hb : PE X b (lift B tb)) : PE X (.Compare a [.IsNot] [b] pos) (lift B (dOp dNotN ta tb)) := de_cmp op_notN sim_notN ha hb (nomark _)
theorem Site.u65 (S : Site X B k wx) : X.A.units + 65 < cLine := by have := S.rm.un; omega
theorem Site.u66 (S : Site X B k wx) : X.A.units + 66 < cLine := by have := S.rm.un; omega
theorem so_in (S : Site X B k wx) (ha : PE X a (lift B ta)) (hb : PE X b (lift B tb)) (hm : behindInMarks .In b = false := by rfl) : PE X (.Compare a [.In] [b] pos) (lift B (dOp dIn ta tb)) := de_cmp (op_inA S.u65) (by rw [S.hK]; exact sim_in) ha hb hm
theorem so_notin (S : Site X B k wx) (ha : PE X a (lift B ta)) (hb : PE X b (lift B tb)) (hm : behindInMarks .NotIn b = false := by rfl) : PE X (.Compare a [.NotIn] [b] pos) (lift B (dOp dNotIn ta tb)) := de_cmp (op_notInA S.u65) (by rw [S.hK]; exact sim_in) ha hb hm
theorem st_eq (S : Site X B k wx) (ha : PE X a (lift B ta)) (hb : PE X b (lift B tb)) : PT X (.Compare a [.Eq] [b] pos) (liftT B (dTest (dOp dEq ta tb))) := dt_cmp (op_eqD S.rm.units) (by rw [S.hK]; exact sim_eq) ha hb (nomark _)
theorem st_ne (S : Site X B k wx) (ha : PE X a (lift B ta)) (hb : PE X b (lift B tb)) : PT X (.Compare a [.NotEq] [b] pos) (liftT B (dTest (dOp dNe ta tb))) := dt_cmp (op_neD S.rm.units) (by rw [S.hK]; exact sim_ne) ha hb (nomark _)
theorem st_lt (S : Site X B k wx) (ha : PE X a (lift B ta)) (hb : PE X b (lift B tb)) : PT X (.Compare a [.Lt] [b] pos) (liftT B (dTest (dOp dLt ta tb))) := dt_cmp op_lt sim_lt ha hb (nomark _)
theorem st_le (S : Site X B k wx) (ha : PE X a (lift B ta)) (hb : PE X b (lift B tb)) : PT X (.Compare a [.LtE] [b] pos) (liftT B (dTest (dOp dLe ta tb))) := dt_cmp op_le sim_le ha hb (nomark _)
theorem st_gt (S : Site X B k wx) (ha : PE X a (lift B ta)) (hb : PE X b (lift B tb)) : PT X (.Compare a [.Gt] [b] pos) (liftT B (dTest (dOp dGt ta tb))) := dt_cmp op_gt sim_gt ha hb (nomark _)
theorem st_ge (S : Site X B k wx) (ha : PE X a (lift B ta)) (hb : PE X b (lift B tb)) : PT X (.Compare a [.GtE] [b] pos) (liftT B (dTest (dOp dGe ta tb))) := dt_cmp op_ge sim_ge ha hb (nomark _)
theorem st_is (S : Site X B k wx) (ha : PE X a (lift B ta)) (hb : PE X b (lift B tb)) : PT X (.Compare a [.Is] [b] pos) (liftT B (dTest (dOp dIsN ta tb))) := dt_cmp op_isN sim_isN ha hb (nomark _)
theorem st_isnot (S : Site X B k wx) (ha : PE X a (lift B ta)) (hb : PE X b (lift B tb)) : PT X (.Compare a [.IsNot] [b] pos) (liftT B (dTest (dOp dNotN ta tb))) := dt_cmp op_notN sim_notN ha hb (nomark _)
theorem st_in (S : Site X B k wx) (ha : PE X a (lift B ta)) (hb : PE X b (lift B tb)) (hm : behindInMarks .In b = false := by rfl) : PT X (.Compare a [.In] [b] pos) (liftT B (dTest (dOp dIn ta tb))) := dt_cmp (op_inA S.u65) (by rw [S.hK]; exact sim_in) ha hb hm
theorem st_notin (S : Site X B k wx) (ha : PE X a (lift B ta)) (hb : PE X b (lift B tb)) (hm : behindInMarks .NotIn b = false := by rfl) : PT X (.Compare a [.NotIn] [b] pos) (liftT B (dTest (dOp dNotIn ta tb))) := dt_cmp (op_notInA S.u65) (by rw [S.hK]; exact sim_in) ha hb hm
theorem so_add (S : Site X B k wx) (ha : PE X a (lift B ta)) (hb : PE X b (lift B tb)) : PE X (.BinOp a .Add b pos) (lift B (dOp dAdd ta tb)) := de_op op_addA (by rw [S.hK]; exact sim_add) ha hb
theorem so_sub (S : Site X B k wx) (ha : PE X a (lift B ta)) (hb : PE X b (lift B tb)) : PE X (.BinOp a .Sub b pos) (lift B (dOp dSub ta tb)) := de_op op_sub sim_sub ha hb
theorem so_mul (S : Site X B k wx) (ha : PE X a (lift B ta)) (hb : PE X b (lift B tb)) : PE X (.BinOp a .Mult b pos) (lift B (dOp dMul ta tb)) := de_op op_mulA (by rw [S.hK]; exact sim_mul) ha hb
theorem so_fdiv (S : Site X B k wx) (ha : PE X a (lift B ta)) (hb : PE X b (lift B tb)) : PE X (.BinOp a .FloorDiv b pos) (lift B (dOp dFdiv ta tb)) := de_op op_fdiv sim_fdiv ha hb
theorem so_mod (S : Site X B k wx) (ha : PE X a (lift B ta)) (hb : PE X b (lift B tb)) : PE X (.BinOp a .Mod b pos) (lift B (dOp dMod ta tb)) := de_op op_mod sim_mod ha hb
theorem so_pow (S : Site X B k wx) (ha : PE X a (lift B ta)) (hb : PE X b (lift B tb)) : PE X (.BinOp a .Pow b pos) (lift B (dOp dPow ta tb)) := de_op op_powW sim_pow ha hb
def dNeg (ta : DTE) : DTE := fun env O q => ta env O fun x O1 => match x with | .int i => q (.int (-i)) O1 | _ => False
theorem so_neg (S : Site X B k wx) (ha : PE X a (lift B ta)) : PE X (.UnaryOp .USub a pos) (lift B (dNeg ta)) := PE.weak (pe_un un_neg ha) fun σ H Q h => by
  obtain ⟨env, O, F, q, R, h, kk⟩ := h
  refine ⟨env, O, F, _, R, h, fun d v O1 H1 F1 a1 r1 h1 => ?_⟩
  cases d <;> try exact h1.elim
  cases r1
  exact ⟨_, rfl, kk _ _ O1 H1 F1 a1 (.int _) h1⟩
theorem so_ix (S : Site X B k wx) (ha : PE X a (lift B ta)) (hb : PE X b (lift B tb)) (hs : PlainIx b) : PE X (.Subscript a b pos) (lift B (dOp dIx ta tb)) := de_ix S.hK ha hb hs
/-! ### chains -/
def dChain (r r' : DR2) (ta tb tc : DTE) : DTE := fun env O q => ta env O fun x O1 => tb env O1 fun y O2 => r x y O2 fun z O3 => match z with
  | .bl true => tc env O3 fun u O4 => r' y u O4 q
  | .bl false => q (.bl false) O3
  | _ => False
theorem lift_chain {r r' : R2} {dr dr' : DR2} (s : Sim2 B r dr) (s' : Sim2 B r' dr') (σ : St) (H : Hp) (Q : VK) (h : lift B (dChain dr dr' ta tb tc) σ H Q) : tChain r r' (lift B ta) (lift B tb) (lift B tc) σ H Q := by
  obtain ⟨env, O, F, q, R, h, k⟩ := h
  refine ⟨env, O, F, _, R, h, fun dx x O1 H1 F1 a1 r1 h1 => ?_⟩
  have R1 := R.call a1
  refine ⟨env, O1, F1, _, R1, h1, fun dy y O2 H2 F2 a2 r2 h2 => ?_⟩
  have R2 := R1.call a2
  refine s env O2 σ H2 F2 x y dx dy _ _ R2 (r1.mono a2.ff) r2 h2 fun d v O3 H3 F3 a3 r3 h3 => ?_
  have R3 := R2.call a3
  have b3 := a1.trans (a2.trans a3)
  cases d <;> try exact h3.elim
  rename_i bb
  cases r3
  cases bb with
  | true => exact ⟨true, rfl, iteT ⟨env, O3, F3, _, R3, h3, fun du u O4 H4 F4 a4 r4 h4 => s' env O4 σ H4 F4 y u dy du q Q (R3.call a4) ((r2.mono a3.ff).mono a4.ff) r4 h4 fun d v O' H' F' a' => k d v O' H' F' (b3.trans (a4.trans a'))⟩⟩
  | false => exact ⟨false, rfl, iteF (k _ _ O3 H3 F3 b3 (.bl _) h3)⟩
theorem so_chain {op op' : CmpOp} {r r' : R2} {dr dr' : DR2} (ho : OpR X (compareOp op) r) (s : Sim2 B r dr) (ho' : OpR X (compareOp op') r') (s' : Sim2 B r' dr') (ha : PE X a (lift B ta)) (hb : PE X b (lift B tb)) (hc : PE X c (lift B tc))
    (hm : lastMarks [op, op'] [b, c] = false := by with_unfolding_all rfl) : PE X (.Compare a [op, op'] [b, c] pos) (lift B (dChain dr dr' ta tb tc)) := PE.weak (pe_chain ho ho' ha hb hc hm) (lift_chain s s')
theorem st_chain {op op' : CmpOp} {r r' : R2} {dr dr' : DR2} (ho : OpR X (compareOp op) r) (s : Sim2 B r dr) (ho' : OpR X (compareOp op') r') (s' : Sim2 B r' dr') (ha : PE X a (lift B ta)) (hb : PE X b (lift B tb)) (hc : PE X c (lift B tc))
    (hm : lastMarks [op, op'] [b, c] = false := by with_unfolding_all rfl) : PT X (.Compare a [op, op'] [b, c] pos) (liftT B (dTest (dChain dr dr' ta tb tc))) :=
  PT.weak (pt_chain ho ho' ha hb hc hm) fun σ H Q h => tTest_mono (lift_chain s s') σ H Q (lift_test σ H Q h)
/-! ### truth -/
def truD (O : Ow) : D → Option Bool
  | .non => some false
  | .bl b => some b
  | .int i => some (i != 0)
  | .str x => if x.length ≤ sizeLine then some (x.length != 0) else none
  | .tup ds => some (!ds.isEmpty)
  | .ty _ => none
  | d => (asL O d).map fun ds => !ds.isEmpty
def dTru (t : DTE) : DTT := fun env O q => t env O fun x O' => ∃ k, truD O' x = some k ∧ q k O'
theorem isEmpty_rv {K : Frag} {F : Hp} {ds : List D} {vs : List V} (r : RVs K F ds vs) : ds.isEmpty = vs.isEmpty := by cases r <;> rfl
theorem tru_v {K : Frag} {O : Ow} {H F : Hp} (fh : Same F H) (ow : OwOk K O H F) {d : D} {v : V} {b : Bool} (r : RV K F d v) (e : truD O d = some b) : TruV K v H b := by
  have hL : ((asL O d).map fun ds => !ds.isEmpty) = some b → TruV K v H b := fun e => by
    cases e2 : asL O d with
    | none => rw [e2] at e; cases e
    | some ds =>
      rw [e2] at e
      cases e
      obtain ⟨p, xs, rfl, s1, rr⟩ := asL_sq fh ow r e2
      exact .inl ⟨xs, s1, by show (!ds.isEmpty) = _; rw [isEmpty_rv rr]⟩
  cases d <;> simp only [truD] at e <;> try exact hL e
  · cases r; cases e; rfl
  · cases r; cases e; rfl
  · cases r; cases e; rfl
  · cases r
    split at e
    · rename_i hz
      cases e
      refine ⟨hz, ?_⟩
      rw [Bool.eq_iff_iff]
      simp
    · cases e
  · cases e
    cases r with
    | tup s1 rr => exact .inr (.inl ⟨_, same_tup fh s1, by rw [isEmpty_rv rr]⟩)
theorem st_tru (S : Site X B k wx) (ha : PE X a (lift B ta)) (he : ∀ whole, isTrue a X.env whole = (do let v ← whole; standAt a.pos; holding [v] (truthy v)) := by intro _; rfl) : PT X a (liftT B (dTru ta)) := PT.weak (pt_truth ha he) fun σ H Q h => by
  obtain ⟨env, O, F, q, R, h, kk⟩ := h
  refine ⟨env, O, F, _, R, h, fun d v O1 H1 F1 a1 r1 h1 => ?_⟩
  obtain ⟨b, e, h1⟩ := h1
  exact ⟨b, by rw [S.hK]; exact tru_v a1.fh a1.ow r1 e, kk b O1 H1 F1 a1 h1⟩
/-! ### calls at a site -/
variable {x : Str} {p : Pos} {e : Expr} {es : List Expr} {ps : List Str} {n j : Nat} {fn : DF} {f : Addr} {fd : FuncData} {tA tB : DTA}
theorem so_call (S : Site X B k wx) (C : Cal X.prog X.w X.K X.mg X.base x ps n j fn f fd) (hj : j ≤ k) (hb : Binds X.K fd ps []) (hg : Gl X x) (ha : PA X (e :: es) (liftA B tA))
    (hdb : (x == ("__debug__" : Str)) = false := by decide) (he : starEach (e :: es) X.env = (false, eval e X.env) :: starEach es X.env := by rfl) (hpl : (backTo pos (starEach es X.env)).any (·.1) = false := by rfl) :
    PE X (.Call (.Name x p) (e :: es) [] pos) (lift B (dCall fn n wx [] tA)) :=
  de_call (S.hK ▸ C.G) S.gd (S.rm.mono hj) hg C.mg C.kp hb .nil (fun _ => .nil) S.tk ha hdb he hpl
/-- with defaults behind the written ones -/
theorem so_callD {dvs : List V} {dds : List D} {ds : List Value} (S : Site X B k wx) (C : Cal X.prog X.w X.K X.mg X.base x ps n j fn f fd) (hj : j ≤ k) (hb : Binds X.K fd ps ds) (hd : Vals dvs ds) (hdd : ∀ F, RVs B.K F dds dvs) (hg : Gl X x) (ha : PA X (e :: es) (liftA B tA))
    (hdb : (x == ("__debug__" : Str)) = false := by decide) (he : starEach (e :: es) X.env = (false, eval e X.env) :: starEach es X.env := by rfl) (hpl : (backTo pos (starEach es X.env)).any (·.1) = false := by rfl) :
    PE X (.Call (.Name x p) (e :: es) [] pos) (lift B (dCall fn n wx dds tA)) :=
  de_call (S.hK ▸ C.G) S.gd (S.rm.mono hj) hg C.mg C.kp hb hd hdd S.tk ha hdb he hpl
theorem so_call0 (S : Site X B k wx) (C : Cal X.prog X.w X.K X.mg X.base x ps n j fn f fd) (hj : j ≤ k) (hb : Binds X.K fd ps []) (hg : Gl X x) (hdb : (x == ("__debug__" : Str)) = false := by decide) :
    PE X (.Call (.Name x p) [] [] pos) (lift B (dCall fn n wx [] fun _ O q => q [] O)) :=
  de_call0 (S.hK ▸ C.G) S.gd (S.rm.mono hj) hg C.mg C.kp hb .nil (fun _ => .nil) S.tk hdb
theorem so_callK {m : Nat} {ks : List Str} {kws : List Keyword} {g : List Value → List Value → List Value} {gV : List V → List V → List V} {gD : List D → List D → List D} (S : Site X B k wx) (C : Cal X.prog X.w X.K X.mg X.base x ps n j fn f fd) (hj : j ≤ k)
    (hb : KBn X.K fd ps m ks g gV) (hgD : ∀ F ds vs es zs, RVs B.K F ds vs → RVs B.K F es zs → RVs B.K F (gD ds es) (gV vs zs)) (hg : Gl X x) (ha : PA X (e :: es) (liftA B tA)) (hkw : PK X kws (liftA B tB))
    (hall : (backToKw pos (keywordEach kws X.env)).all (·.1.isSome) = true := by rfl) (hks : (backToKw pos (keywordEach kws X.env)).filterMap (·.1) = ks := by rfl)
    (hdb : (x == ("__debug__" : Str)) = false := by decide) (he : starEach (e :: es) X.env = (false, eval e X.env) :: starEach es X.env := by rfl)
    (hpl : ((backTo pos (starEach (e :: es) X.env)).any (·.1) || (backToKw pos (keywordEach kws X.env)).any (·.1.isNone)) = false := by rfl) :
    PE X (.Call (.Name x p) (e :: es) kws pos) (lift B (dCallK fn n m ks.length wx gD tA tB)) :=
  de_callK (S.hK ▸ C.G) S.gd (S.rm.mono hj) hg C.mg C.kp hb hgD S.tk ha hkw hall hks hdb he hpl
/-! ### built-ins at a site -/
theorem so_len (S : Site X B k wx) (hg : Gl X "len") (hm : X.mg "len" = none) (ha : PA X [e] (liftA B tA)) (he : starEach [e] X.env = (false, eval e X.env) :: starEach [] X.env := by rfl) (hpl : (backTo pos (starEach [] X.env)).any (·.1) = false := by rfl) : PE X (.Call (.Name "len" p) [e] [] pos) (lift B (dCB dLen tA)) :=
  de_cb (by rw [S.hK]; exact sim_len) (pe_callB call_len hg hm PySem.boot_len ha (by decide) (by decide) he hpl)
theorem bt_abs : bootBuiltins "abs" = some (.builtin "abs") := by decide +kernel
theorem bt_min : bootBuiltins "min" = some (.builtin "min") := by decide +kernel
theorem bt_max : bootBuiltins "max" = some (.builtin "max") := by decide +kernel
theorem bt_int : bootBuiltins "int" = some (.type "int") := by decide +kernel
theorem bt_list : bootBuiltins "list" = some (.type "list") := by decide +kernel
theorem bt_tuple : bootBuiltins "tuple" = some (.type "tuple") := by decide +kernel
theorem bt_sorted : bootBuiltins "sorted" = some (.builtin "sorted") := by decide +kernel
theorem bt_repr : bootBuiltins "repr" = some (.builtin "repr") := by decide +kernel
theorem so_abs (S : Site X B k wx) (hg : Gl X "abs") (hm : X.mg "abs" = none) (ha : PA X [e] (liftA B tA)) (he : starEach [e] X.env = (false, eval e X.env) :: starEach [] X.env := by rfl) (hpl : (backTo pos (starEach [] X.env)).any (·.1) = false := by rfl) : PE X (.Call (.Name "abs" p) [e] [] pos) (lift B (dCB dAbs tA)) :=
  de_cb sim_abs (pe_callB call_abs hg hm bt_abs ha (by decide) (by decide) he hpl)
theorem so_min2 {e2 : Expr} (S : Site X B k wx) (hc : X.calm = true) (hg : Gl X "min") (hm : X.mg "min" = none) (ha : PA X [e, e2] (liftA B tA)) (he : starEach [e, e2] X.env = (false, eval e X.env) :: starEach [e2] X.env := by rfl) (hpl : (backTo pos (starEach [e2] X.env)).any (·.1) = false := by rfl) : PE X (.Call (.Name "min" p) [e, e2] [] pos) (lift B (dCB dMin2 tA)) :=
  de_cb sim_min2 (pe_callB (call_min2 hc) hg hm bt_min ha (by decide) (by decide) he hpl)
theorem so_max2 {e2 : Expr} (S : Site X B k wx) (hc : X.calm = true) (hg : Gl X "max") (hm : X.mg "max" = none) (ha : PA X [e, e2] (liftA B tA)) (he : starEach [e, e2] X.env = (false, eval e X.env) :: starEach [e2] X.env := by rfl) (hpl : (backTo pos (starEach [e2] X.env)).any (·.1) = false := by rfl) : PE X (.Call (.Name "max" p) [e, e2] [] pos) (lift B (dCB dMax2 tA)) :=
  de_cb sim_max2 (pe_callB (call_max2 hc) hg hm bt_max ha (by decide) (by decide) he hpl)
theorem so_int (S : Site X B k wx) (hg : Gl X "int") (hm : X.mg "int" = none) (ha : PA X [e] (liftA B tA)) (he : starEach [e] X.env = (false, eval e X.env) :: starEach [] X.env := by rfl) (hpl : (backTo pos (starEach [] X.env)).any (·.1) = false := by rfl) : PE X (.Call (.Name "int" p) [e] [] pos) (lift B (dCB dInt1 tA)) :=
  de_cb sim_int1 (pe_callTy call_int1 hg hm bt_int ha (by decide) (by decide) he hpl)
theorem so_list (S : Site X B k wx) (hg : Gl X "list") (hm : X.mg "list" = none) (ha : PA X [e] (liftA B tA)) (he : starEach [e] X.env = (false, eval e X.env) :: starEach [] X.env := by rfl) (hpl : (backTo pos (starEach [] X.env)).any (·.1) = false := by rfl) : PE X (.Call (.Name "list" p) [e] [] pos) (lift B (dCB dList1 tA)) :=
  de_cb (by rw [S.hK]; exact sim_list1) (pe_callTy call_list_of hg hm bt_list ha (by decide) (by decide) he hpl)
theorem so_listO (S : Site X B k wx) (hg : Gl X "list") (hm : X.mg "list" = none) (ha : PA X [e] (liftA B tA)) (he : starEach [e] X.env = (false, eval e X.env) :: starEach [] X.env := by rfl) (hpl : (backTo pos (starEach [] X.env)).any (·.1) = false := by rfl) : PE X (.Call (.Name "list" p) [e] [] pos) (lift B (dCB dList1O tA)) :=
  de_cb (by rw [S.hK]; exact sim_list1O) (pe_callTy call_list_of hg hm bt_list ha (by decide) (by decide) he hpl)
theorem so_tuple (S : Site X B k wx) (hg : Gl X "tuple") (hm : X.mg "tuple" = none) (ha : PA X [e] (liftA B tA)) (he : starEach [e] X.env = (false, eval e X.env) :: starEach [] X.env := by rfl) (hpl : (backTo pos (starEach [] X.env)).any (·.1) = false := by rfl) : PE X (.Call (.Name "tuple" p) [e] [] pos) (lift B (dCB dTuple1 tA)) :=
  de_cb (by rw [S.hK]; exact sim_tuple1) (pe_callTy call_tuple_of hg hm bt_tuple ha (by decide) (by decide) he hpl)
theorem so_sorted (S : Site X B k wx) (hg : Gl X "sorted") (hm : X.mg "sorted" = none) (ha : PA X [e] (liftA B tA)) (he : starEach [e] X.env = (false, eval e X.env) :: starEach [] X.env := by rfl) (hpl : (backTo pos (starEach [] X.env)).any (·.1) = false := by rfl) : PE X (.Call (.Name "sorted" p) [e] [] pos) (lift B (dCB dSorted tA)) :=
  de_cb (by rw [S.hK]; exact sim_sorted) (pe_callB (cr_sortG S.u66) hg hm bt_sorted ha (by decide) (by decide) he hpl)
theorem so_repr (S : Site X B k wx) (hg : Gl X "repr") (hm : X.mg "repr" = none) (ha : PA X [e] (liftA B tA)) (he : starEach [e] X.env = (false, eval e X.env) :: starEach [] X.env := by rfl) (hpl : (backTo pos (starEach [] X.env)).any (·.1) = false := by rfl) : PE X (.Call (.Name "repr" p) [e] [] pos) (lift B (dCB dRepr tA)) :=
  de_cb (by rw [S.hK]; exact sim_repr) (pe_callB (cr_repr S.gd S.u66) hg hm bt_repr ha (by decide) (by decide) he hpl)
theorem so_listRg1 (S : Site X B k wx) {p2 pos2 : Pos} (hc : X.calm = true) (hg : Gl X "list") (hm : X.mg "list" = none) (hg2 : Gl X "range") (hm2 : X.mg "range" = none) (ha : PE X a (lift B ta)) (na2 : starEach [a] X.env = (false, eval a X.env) :: starEach [] X.env := by rfl)
    (na : starEach [.Call (.Name "range" p2) [a] [] pos2] X.env = (false, eval (.Call (.Name "range" p2) [a] [] pos2) X.env) :: starEach [] X.env := by rfl) : PE X (.Call (.Name "list" p) [.Call (.Name "range" p2) [a] [] pos2] [] pos) (lift B (dListRg1 ta)) :=
  de_listRg1 (pe_listRg hc hg hm (prg_1 hg2 hm2 ha na2) na)
theorem so_append (S : Site X B k wx) {apos : Pos} {to : DTE} (ho : PE X a (lift B to)) (ha : PA X [e] (liftA B tA)) (hbase : attributeBase a "append" X.env (eval a X.env) = eval a X.env := by rfl)
    (hfew : ((backTo pos (starEach [e] X.env)).all (fun x => !x.1) && (backToKw pos (keywordEach [] X.env)).all (fun x => x.1.isSome) && decide ([e].length + ([] : List Keyword).length + (if ([] : List Keyword).isEmpty then 0 else 1) < 30)) = true := by rfl)
    (hline : (apos.endLine == pos.line) = true := by rfl) (hs : starEach [e] X.env = (false, eval e X.env) :: starEach [] X.env := by rfl) (hplain : (backTo pos (starEach [] X.env)).any (·.1) = false := by rfl) : PE X (.Call (.Attribute a "append" apos) [e] [] pos) (lift B (dAppend to tA)) :=
  de_append S.hK (pe_bm PySem.F.plainAttrs_list PySem.F.slot_list_append PySem.F.type_list_append mt_append ho ha hbase hfew hline hs hplain)
/-! ### a list or a tuple walked -/
theorem pi_seq {tg l : Expr} {tl : TE} (hl : PE X l tl) : PI X tg l (fun σ H R => tl σ H fun x H1 => ∃ a, x = .ref a ∧ (((∃ xs, SqL X.K H1 a xs) ∧ R (Itl X.K a) H1) ∨ ((∃ xs, SqT X.K H1 a xs) ∧ R (Itt X.K a) H1))) := by
  refine ⟨fun pins s σ H R I h => thn (hl.run pins s σ H _ I h) fun v s1 hh => ?_⟩
  obtain ⟨x, H1, I1, r1, a, rfl, q⟩ := hh
  cases r1
  have fp : ∀ b ∈ [s1.heap.objs.size], FpOk X pins H1 b := fun b hb => by
    obtain rfl : b = s1.heap.objs.size := by simpa using hb
    exact I1.fpOk (Nat.le_refl _) (I1.hok.fresh (Nat.le_refl _))
  rcases q with ⟨⟨xs, hs⟩, q⟩ | ⟨⟨xs, hs⟩, q⟩
  · obtain ⟨its, _, pl, _⟩ := I1.list hs
    exact wpAny_pyIter_list pl.isList ⟨_, [s1.heap.objs.size], _, _, H1, rfl, I1.kept (t' := s1.toks) fun b o e => Heap.get?_push_of_some _ e, turn_list a _, ⟨_, Heap.get?_push_size _ rfl, rfl, rfl⟩, fp, q⟩
  · obtain ⟨its, _, pl, _⟩ := I1.tuple hs
    exact wpAny_pyIter_tuple (show s1.heap.IsTuple a its.toArray from pl) ⟨_, [s1.heap.objs.size], _, _, H1, rfl, I1.kept (t' := s1.toks) fun b o e => Heap.get?_push_of_some _ e, turn_tuple a _, ⟨_, Heap.get?_push_size _ rfl, rfl, rfl⟩, fp, q⟩
def diSeq (te : DTE) : DTI := fun env O q => te env O fun d O1 => match d with
  | .tup ds => q ds (fun _ => True) O1
  | d => ∃ ds, asL O1 d = some ds ∧ q ds (gdL O1 d) O1
theorem di_seq {tg l : Expr} {te : DTE} (S : Site X B k wx) (h : PE X l (lift B te)) : PI X tg l (liftI B (diSeq te)) := PI.weak (pi_seq h) fun σ H R hh => by
  have hK := S.hK
  obtain ⟨env, O, F, q, R0, hh, kk⟩ := hh
  refine ⟨env, O, F, _, R0, hh, fun d v O1 H1 F1 a1 r1 h1 => ?_⟩
  have hL : (∃ ds, asL O1 d = some ds ∧ q ds (gdL O1 d) O1) → ∃ a, v = .ref a ∧ (((∃ xs, SqL X.K H1 a xs) ∧ R (Itl X.K a) H1) ∨ ((∃ xs, SqT X.K H1 a xs) ∧ R (Itt X.K a) H1)) := by
    rintro ⟨ds, e, h1⟩
    obtain ⟨a, xs, rfl, hs, hr⟩ := asL_sq a1.fh a1.ow r1 e
    refine ⟨a, rfl, .inl ⟨⟨xs, by rw [hK]; exact hs⟩, kk ds _ O1 H1 F1 _ a1 ?_ h1⟩⟩
    intro O2 H2 F2 i s2 fh2 ow2 gd
    obtain ⟨a', ys, e', hs', hr'⟩ := asL_sq fh2 ow2 (r1.mono s2) (asL_gd e gd)
    cases e'
    rw [hK]
    refine ⟨fun x hx => ?_, fun hi => ⟨ys, hs', by rw [hi, hr'.length]; exact Nat.le_refl _⟩⟩
    obtain ⟨v', e1, r'⟩ := hr'.get hx
    refine ⟨⟨ys, v', hs', e1⟩, fun v H3 hy => ?_⟩
    obtain ⟨rfl, hy⟩ := hy
    obtain rfl : v = v' := Option.some.inj ((hy ys hs').symm.trans e1)
    exact ⟨F2, .rfl' fh2 ow2, r'⟩
  cases d <;> simp only at h1 <;> try exact hL h1
  cases r1 with
  | tup hs hr =>
    rename_i a xs
    refine ⟨a, rfl, .inr ⟨⟨xs, by rw [hK]; exact same_tup a1.fh hs⟩, kk _ _ O1 H1 F1 _ a1 ?_ h1⟩⟩
    intro O2 H2 F2 i s2 fh2 ow2 _
    have hs' : SqT B.K H2 a xs := same_tup (s2.trans fh2) hs
    rw [hK]
    refine ⟨fun x hx => ?_, fun hi => ⟨xs, hs', by rw [hi, hr.length]; exact Nat.le_refl _⟩⟩
    obtain ⟨v', e1, r'⟩ := hr.get hx
    refine ⟨⟨xs, v', hs', e1⟩, fun v H3 hy => ?_⟩
    obtain ⟨rfl, hy⟩ := hy
    obtain rfl : v = v' := Option.some.inj ((hy xs hs').symm.trans e1)
    exact ⟨F2, .rfl' fh2 ow2, r'.mono s2⟩
/-! ### name += e -/
def dAugI (f : Int → Int → Int) (i : Nat) (te : DTE) : DTS := fun E env O => ∃ x, env[i]? = some (some (.int x)) ∧ te env O fun y O1 => match y with | .int z => E.nx (env.set i (some (.int (f x z)))) O1 | _ => False
theorem ss_augI {st : Stmt} {f : Int → Int → Int} {i : Nat} {te : DTE} (h : PS X st (tAug i (lift B te) (ipI f))) : PS X st (liftS B (dAugI f i te)) := PS.weak h fun E σ H h => by
  obtain ⟨env, O, F, d, R, ⟨x, e, h⟩, m⟩ := h
  obtain ⟨v, e1, r⟩ := R.sl.2 i _ e
  cases r
  refine ⟨_, e1, env, O, F, _, R, h, fun y v O1 H1 F1 a1 r1 h1 => ?_⟩
  cases y <;> try exact h1.elim
  cases r1
  exact ⟨_, _, rfl, rfl, m.nx _ O1 _ H1 F1 a1 ((R.sl.mono a1.ff).setv (.int _)) h1⟩
end
end DL

set_option Elab.async false
set_option linter.all false
set_option maxRecDepth 100000
set_option maxHeartbeats 4000000
namespace DL
open PySem PySem.Spec PyProof.Rows L2
/-! ### one step of a reading -/
section
variable {env : Env} {O : Ow} {q : DQ} {ta tb tc te to ti : DTE} {tA tB : DTA} {E : DEnds} {t u : DTS} {cT cU : DTT} {qb : Bool → Ow → Prop} {qa : List D → Ow → Prop} {g : DTG} {qe : Env → Ow → Prop}
theorem i_seq (h : t { E with nx := u E } env O) : dSeq t u E env O := h
theorem i_next (h : E.nx env O) : dNext E env O := h
theorem i_asg (h : te env O fun d O1 => g d env O1 E.nx) : dAsg te g E env O := h
theorem i_gname {i : Nat} {d : D} (h : qe (env.set i (some d)) O) : dgName i d env O qe := h
theorem i_ret (h : te env O E.rt) : dRet te E env O := h
theorem i_retN (h : E.rt .non O) : dRetN E env O := h
theorem i_expr (h : te env O fun _ O1 => E.nx env O1) : dExpr te E env O := h
theorem i_if (h : cT env O fun b O1 => if b = true then t E env O1 else u E env O1) : dIf cT t u E env O := h
theorem i_break (h : E.bk env O) : dBreak E env O := h
theorem i_cont (h : E.ct env O) : dCont E env O := h
theorem i_par {i j : Nat} (h : tA env O fun ds O1 => match ds with | [d, e] => E.nx ((env.set i (some d)).set j (some e)) O1 | _ => False) : dPar i j tA E env O := h
theorem i_for {wi : DTI} (h : wi env O fun xs Gd O1 => forGo g t Gd E xs env O1) : dFor wi g t E env O := h
theorem i_gtup {n : Nat} {gs : DTGs} {ds : List D} (h : ds.length = n) (h2 : gs ds env O qe) : dgTup n gs (.tup ds) env O qe := ⟨h, h2⟩
theorem i_gnil (h : qe env O) : dgNil [] env O qe := ⟨rfl, h⟩
theorem i_gcons {gs : DTGs} {d : D} {ds : List D} (h : g d env O fun env' O' => gs ds env' O' qe) : dgCons g gs (d :: ds) env O qe := h
theorem i_augI {f : Int → Int → Int} {i : Nat} {x : Int} (e : env[i]? = some (some (.int x))) (h : te env O fun y O1 => match y with | .int z => E.nx (env.set i (some (.int (f x z)))) O1 | _ => False) : dAugI f i te E env O := ⟨x, e, h⟩
-- expressions
theorem i_var {i : Nat} {d : D} (e : env[i]? = some (some d)) (h : q d O) : dVar i env O q := ⟨d, e, h⟩
theorem i_c {d : D} (h : q d O) : dC d env O q := h
theorem i_op {r : DR2} (h : ta env O fun x O1 => tb env O1 fun y O2 => r x y O2 q) : dOp r ta tb env O q := h
theorem i_cb {dr : List D → Ow → DQ → Prop} (h : tA env O fun ds O1 => dr ds O1 q) : dCB dr tA env O q := h
theorem i_nil (h : qa [] O) : dNil env O qa := h
theorem i_cons (h : ta env O fun x O1 => tA env O1 fun xs O2 => qa (x :: xs) O2) : dCons ta tA env O qa := h
theorem i_tup (h : tA env O fun ds O1 => ds.length ≤ sizeLine ∧ q (.tup ds) O1) : dTup tA env O q := h
theorem i_lst (h : tA env O fun ds O1 => ds.length ≤ sizeLine ∧ q (.lst ds) O1) : dLst tA env O q := h
theorem i_lstO (h : tA env O fun ds O1 => ds.length ≤ sizeLine ∧ ∀ p, O1 p = none → q (.ref p) (setO O1 p (.lst ds))) : dLstO tA env O q := h
theorem i_ifE (h : cT env O fun c O1 => if c = true then ta env O1 q else tb env O1 q) : dIfE cT ta tb env O q := h
theorem i_test (h : te env O fun x O' => match x with | .bl k => qb k O' | _ => False) : dTest te env O qb := h
theorem i_tru (h : te env O fun x O' => ∃ k, truD O' x = some k ∧ qb k O') : dTru te env O qb := h
theorem i_and (h : cT env O fun c O1 => if c = true then cU env O1 qb else qb false O1) : dAnd cT cU env O qb := h
theorem i_or (h : cT env O fun c O1 => if c = true then qb true O1 else cU env O1 qb) : dOr cT cU env O qb := h
theorem i_not (h : cT env O fun c O1 => qb (!c) O1) : dNot cT env O qb := h
theorem i_andV (h : ta env O fun x O1 => match x with | .bl true => tb env O1 q | .bl false => q (.bl false) O1 | _ => False) : dAndV ta tb env O q := h
theorem i_orV (h : ta env O fun x O1 => match x with | .bl false => tb env O1 q | .bl true => q (.bl true) O1 | _ => False) : dOrV ta tb env O q := h
theorem i_notV (h : ta env O fun x O1 => match x with | .bl b => q (.bl !b) O1 | _ => False) : dNotV ta env O q := h
theorem i_neg (h : ta env O fun x O1 => match x with | .int i => q (.int (-i)) O1 | _ => False) : dNeg ta env O q := h
theorem i_chain {r r' : DR2} (h : ta env O fun x O1 => tb env O1 fun y O2 => r x y O2 fun z O3 => match z with | .bl true => tc env O3 fun u O4 => r' y u O4 q | .bl false => q (.bl false) O3 | _ => False) : dChain r r' ta tb tc env O q := h
theorem i_call {fn : DF} {n : Nat} {w : DW} {dds : List D} (h : tA env O fun ds O1 => (ds ++ dds).length = n ∧ fn (ds ++ dds) O1 q fun c fs O' => w c fs env O') : dCall fn n w dds tA env O q := h
theorem i_callK {fn : DF} {n m l : Nat} {w : DW} {gD : List D → List D → List D} (h : tA env O fun ds O1 => tB env O1 fun es O2 => ds.length = m ∧ es.length = l ∧ (gD ds es).length = n ∧ fn (gD ds es) O2 q fun c fs O' => w c fs env O') : dCallK fn n m l w gD tA tB env O q := h
def appK2 (p : Addr) (es : List D) (q : DQ) : List D → Ow → Prop := fun ds O2 => match ds with | [d] => O2 p = some (.lst es) ∧ es.length < sizeLine ∧ q .non (setO O2 p (.lst (es ++ [d]))) | _ => False
def appK (tA : DTA) (env : Env) (q : DQ) : D → Ow → Prop := fun x O1 => match x with
  | .ref p => ∃ es, O1 p = some (.lst es) ∧ tA env O1 (appK2 p es q)
  | _ => False
theorem i_append (h : to env O (appK tA env q)) : dAppend to tA env O q := h
theorem i_appK {p : Addr} {es : List D} (hp : O p = some (.lst es)) (h : tA env O (appK2 p es q)) : appK tA env q (.ref p) O := ⟨es, hp, h⟩
theorem i_appK2 {p : Addr} {es : List D} {d : D} (hp : O p = some (.lst es)) (hl : es.length < sizeLine) (h : q .non (setO O p (.lst (es ++ [d])))) : appK2 p es q [d] O := ⟨hp, hl, h⟩
def subK (d : D) (env : Env) (qe : Env → Ow → Prop) (x : D) : D → Ow → Prop := fun y O2 => match x, y with
  | .ref p, .int i => ∃ es j, O2 p = some (.lst es) ∧ ixN es.length i = some j ∧ qe env (setO O2 p (.lst (es.set j d)))
  | _, _ => False
theorem i_gsub {d : D} (h : to env O fun x O1 => ti env O1 (subK d env qe x)) : dgSub to ti d env O qe := h
theorem i_subK {d : D} {p : Addr} {es : List D} {i : Int} {j : Nat} (hp : O p = some (.lst es)) (e : ixN es.length i = some j) (h : qe env (setO O p (.lst (es.set j d)))) : subK d env qe (.ref p) (.int i) O := ⟨es, j, hp, e, h⟩
def slK (q : DQ) (x : D) (l : Option Int) : Option Int → Ow → Prop := fun u O3 => match x with
  | .tup ds => q (.tup (cutD ds l u)) O3
  | x => ∃ ds, asL O3 x = some ds ∧ q (.lst (cutD ds l u)) O3
theorem i_sl {tl th : DTO} (h : te env O fun x O1 => tl env O1 fun l O2 => th env O2 (slK q x l)) : dSl te tl th env O q := h
theorem i_slT {ds : List D} {l u : Option Int} (h : q (.tup (cutD ds l u)) O) : slK q (.tup ds) l u O := h
theorem i_slL {ds : List D} {l u : Option Int} (h : q (.lst (cutD ds l u)) O) : slK q (.lst ds) l u O := ⟨ds, rfl, h⟩
theorem asL_ref {p : Addr} {ds : List D} (h : O p = some (.lst ds)) : asL O (.ref p) = some ds := by simp [asL, h]
theorem i_slO {p : Addr} {ds : List D} {l u : Option Int} (hp : O p = some (.lst ds)) (h : q (.lst (cutD ds l u)) O) : slK q (.ref p) l u O := ⟨ds, asL_ref hp, h⟩
theorem i_oN {qo : Option Int → Ow → Prop} (h : qo none O) : doNone env O qo := h
theorem i_oS {qo : Option Int → Ow → Prop} (h : te env O fun d O1 => match d with | .int i => qo (some i) O1 | _ => False) : doSome te env O qo := h
theorem i_lc {wi : DTI} {tt : DTT} {vs : List Nat} (h : wi env O fun xs Gd O1 => xs.length ≤ sizeLine ∧ lcGo g tt te Gd xs (wipeD env vs) O1 fun ys O2 => q (.lst ys) O2) : dLc wi g tt te vs env O q := h
theorem i_lcO {wi : DTI} {tt : DTT} {vs : List Nat} (h : wi env O fun xs Gd O1 => xs.length ≤ sizeLine ∧ lcGo g tt te Gd xs (wipeD env vs) O1 fun ys O2 => ∀ p, O2 p = none → q (.ref p) (setO O2 p (.lst ys))) : dLcO wi g tt te vs env O q := h
theorem i_yes (h : qb true O) : dYes env O qb := h
theorem i_listRg1 (h : ta env O fun d O1 => match d with | .int n => RgOk 0 n ∧ q (.lst (rgD 0 n)) O1 | _ => False) : dListRg1 ta env O q := h
theorem i_rg1 {qi : List D → (Ow → Prop) → Ow → Prop} (h : tA env O fun ds O1 => match ds with | [.int j] => InRg j ∧ qi (rgD 0 j) (fun _ => True) O1 | _ => False) : diRg1 tA env O qi := h
theorem i_rg2 {qi : List D → (Ow → Prop) → Ow → Prop} (h : tA env O fun ds O1 => match ds with | [.int i, .int j] => InRg i ∧ InRg j ∧ qi (rgD i j) (fun _ => True) O1 | _ => False) : diRg2 tA env O qi := h
def seqK (qi : List D → (Ow → Prop) → Ow → Prop) : D → Ow → Prop := fun d O1 => match d with | .tup ds => qi ds (fun _ => True) O1 | d => ∃ ds, asL O1 d = some ds ∧ qi ds (gdL O1 d) O1
theorem i_seqI {qi : List D → (Ow → Prop) → Ow → Prop} (h : te env O (seqK qi)) : diSeq te env O qi := h
theorem i_seqT {qi : List D → (Ow → Prop) → Ow → Prop} {ds : List D} (h : qi ds (fun _ => True) O) : seqK qi (.tup ds) O := h
theorem i_seqL {qi : List D → (Ow → Prop) → Ow → Prop} {ds : List D} (h : qi ds (fun _ => True) O) : seqK qi (.lst ds) O := ⟨ds, rfl, h⟩
theorem i_seqO {qi : List D → (Ow → Prop) → Ow → Prop} {p : Addr} {ds : List D} (hp : O p = some (.lst ds)) (h : qi ds (fun O' => O' p = O p) O) : seqK qi (.ref p) O := ⟨ds, asL_ref hp, h⟩
-- ints
variable {i j : Int}
theorem i_lt (h : q (.bl (decide (i < j))) O) : dLt (.int i) (.int j) O q := ⟨trivial, h⟩
theorem i_le (h : q (.bl (decide (i ≤ j))) O) : dLe (.int i) (.int j) O q := ⟨trivial, h⟩
theorem i_gt (h : q (.bl (decide (j < i))) O) : dGt (.int i) (.int j) O q := ⟨trivial, h⟩
theorem i_ge (h : q (.bl (decide (j ≤ i))) O) : dGe (.int i) (.int j) O q := ⟨trivial, h⟩
theorem i_sub (h : q (.int (i - j)) O) : dSub (.int i) (.int j) O q := ⟨trivial, h⟩
theorem i_addI (h : q (.int (i + j)) O) : dAdd (.int i) (.int j) O q := h
theorem i_mulI (hc : CMul i j) (h : q (.int (i * j)) O) : dMul (.int i) (.int j) O q := ⟨hc, h⟩
theorem i_mod (hc : 0 < j) (h : q (.int (i % j)) O) : dMod (.int i) (.int j) O q := ⟨hc, h⟩
theorem i_fdiv (hc : CDiv i j) (h : q (.int (i / j)) O) : dFdiv (.int i) (.int j) O q := ⟨hc, h⟩
theorem i_pow (hc : CPowW i j) (h : q (.int (i ^ j.toNat)) O) : dPow (.int i) (.int j) O q := ⟨hc, h⟩
theorem i_int (h : q (.int i) O) : dInt1 [.int i] O q := h
theorem i_intb {b : Bool} (h : q (.int (if b then 1 else 0)) O) : dInt1 [.bl b] O q := h
theorem i_abs (h : q (.int (if i < 0 then -i else i)) O) : dAbs [.int i] O q := h
theorem i_min2 (h : q (.int (if j < i then j else i)) O) : dMin2 [.int i, .int j] O q := h
theorem i_max2 (h : q (.int (if j > i then j else i)) O) : dMax2 [.int i, .int j] O q := h
theorem i_isN {d : D} (h : q (.bl (match d with | .non => true | _ => false)) O) : dIsN d .non O q := h
theorem i_notN {d : D} (h : q (.bl (match d with | .non => false | _ => true)) O) : dNotN d .non O q := h
theorem i_mulT {a : List D} {k : Int} (h1 : a ≠ []) (h2 : a.length ≤ 1000) (h3 : -(2 ^ 63) ≤ k ∧ k ≤ 1000) (h : q (.tup (List.replicate k.toNat a).flatten) O) : dMul (.tup a) (.int k) O q := ⟨h1, h2, h3, h⟩
theorem i_addT {a b : List D} (h1 : a.length + b.length ≤ sizeLine) (h : q (.tup (a ++ b)) O) : dAdd (.tup a) (.tup b) O q := ⟨h1, h⟩
theorem i_addL {a b : List D} (h1 : a.length + b.length ≤ sizeLine) (h : q (.lst (a ++ b)) O) : dAdd (.lst a) (.lst b) O q := ⟨a, b, rfl, rfl, h1, h⟩
theorem i_addS {a b : Str} (h1 : a.length + b.length ≤ sizeLine) (h : q (.str (a ++ b)) O) : dAdd (.str a) (.str b) O q := ⟨h1, h⟩
theorem i_ixT {ds : List D} {d : D} (e : atI ds i = some d) (h : q d O) : dIx (.tup ds) (.int i) O q := ⟨d, e, h⟩
theorem i_ixL {ds : List D} {d : D} (e : atI ds i = some d) (h : q d O) : dIx (.lst ds) (.int i) O q := ⟨ds, d, rfl, e, h⟩
theorem i_ixO {p : Addr} {ds : List D} {d : D} (hp : O p = some (.lst ds)) (e : atI ds i = some d) (h : q d O) : dIx (.ref p) (.int i) O q := ⟨ds, d, asL_ref hp, e, h⟩
theorem i_lenL {ds : List D} (h : q (.int (ds.length : Int)) O) : dLen [.lst ds] O q := ⟨ds.length, rfl, h⟩
theorem i_lenT {ds : List D} (h : q (.int (ds.length : Int)) O) : dLen [.tup ds] O q := ⟨ds.length, rfl, h⟩
theorem i_lenO {p : Addr} {ds : List D} (hp : O p = some (.lst ds)) (h : q (.int (ds.length : Int)) O) : dLen [.ref p] O q := ⟨ds.length, by simp [lenD, asL_ref hp], h⟩
theorem asP_ref {p : Addr} {ds : List D} (h : O p = some (.lst ds)) (hp : pds ds = true) : asP O (.ref p) = some (.list (pys ds)) := by simp [asP, h, hp]
-- two ways that meet
theorem join (V : D → Prop) (hk : ∀ d, V d → q d O) (h : ∀ q' : DQ, (∀ d, V d → q' d O) → te env O q') : te env O q := h q hk
theorem joinS (V : Env → Ow → Prop) (hk : ∀ e o, V e o → E.nx e o) (h : ∀ N : Env → Ow → Prop, (∀ e o, V e o → N e o) → t { nx := N, rt := E.rt, bk := E.bk, ct := E.ct } env O) : t E env O := h E.nx hk
-- branches
theorem if_d {P A B : Prop} [Decidable P] (h1 : P → A) (h2 : ¬ P → B) : if decide P = true then A else B := by
  by_cases h : P
  · rw [decide_eq_true h]; exact h1 h
  · rw [decide_eq_false h]; exact h2 h
theorem if_dT {P A B : Prop} [Decidable P] (hp : P) (h1 : A) : if decide P = true then A else B := by rw [decide_eq_true hp]; exact h1
theorem if_dF {P A B : Prop} [Decidable P] (hp : ¬ P) (h1 : B) : if decide P = true then A else B := by rw [decide_eq_false hp]; exact h1
end
/-- a call whose keywords give all the rest -/
theorem kbn_all {K : Frag} {x qual : Str} {params : Arguments} {body : List Stmt} {scope : Scope} {kws : List (Str × V)} {f : Addr} {fd : FuncData} {ps : List Str} (F : FunD K x qual params body scope [] kws f fd) (n : Nat) (ks : List Str)
    (h : ∀ (kV doc pm : Value) (an : Option Addr) (cdv ct : Value) (us ws : List Value), us.length = n → ws.length = ks.length → bindArgs (PySem.W.fnOf x qual params body scope .none kV doc pm an cdv ct) ⟨us, ks.zip ws⟩ = pure (ps.zip (us ++ ws))) :
    KBn K fd ps n ks (fun us ws => us ++ ws) (fun us ws => us ++ ws) := by
  obtain ⟨oc, od, dV, kV, doc, pm, an, cdv, ct, osl, rfl, lk, hcd, hD, hK⟩ := F.ex
  rcases hD with ⟨_, rfl⟩ | ⟨e, _⟩
  · exact ⟨fun s us ws _ l1 l2 => .of_eq (h kV doc pm an cdv ct us ws l1 l2), fun r1 r2 => r1.append r2⟩
  · exact absurd rfl e
theorem funD_mk {K : Frag} {x qual : Str} {st : Stmt} {kws : List (Str × V)} {f : Addr} {oc : Value} {od an : Option Addr} {osl : Array (Option Value)} {kV doc pm cdv ct : Value} (l : K.lookup f = some ⟨oc, od, .func (PySem.W.fnOf x qual (defArgs st) (defBody st) (defScope st) .none kV doc pm an cdv ct), osl⟩)
    (c : PySem.W.codeIn K cdv qual = true) (k : PySem.W.keepIn K (.ref f) = true) (hk : KwdV K kV kws) : FunD K x qual (defArgs st) (defBody st) (defScope st) [] kws f (PySem.W.fnOf x qual (defArgs st) (defBody st) (defScope st) .none kV doc pm an cdv ct) :=
  ⟨⟨oc, od, .none, kV, doc, pm, an, cdv, ct, osl, rfl, l, c, .inl ⟨rfl, rfl⟩, hk⟩, k⟩
theorem asP_pd {O : Ow} {d : D} (h : pd d = true) : asP O d = some (py d) := by
  cases d <;> first | (simp [pd] at h; done) | simp [asP, h]
theorem asPs_L {O : Ow} {ds : List D} (h : pds ds = true) : asPs O (.lst ds) = some (pys ds) := by simp [asPs, asL, h]
theorem asPs_T {O : Ow} {ds : List D} (h : pds ds = true) : asPs O (.tup ds) = some (pys ds) := by simp [asPs, h]
theorem line_ok {n : Nat} (h : n ≤ 100000) : n ≤ sizeLine := Nat.le_trans h (by decide)
theorem len_ok {ds : List D} (h : ds.length ≤ 100000) : ds.length ≤ sizeLine := Nat.le_trans h (by decide)
/-! ### loops and comprehensions in one go -/
theorem lcGo_fm {g : DTG} {tt : DTT} {te : DTE} {Gd : Ow → Prop} {env : Env} {O : Ow} (f : D → Option D) (hG : Gd O) : ∀ {xs : List D} {q : List D → Ow → Prop},
    (∀ x ∈ xs, ∀ (k : DQ) (z : Ow → Prop), (∀ y o, f x = some y → SubO O o → k y o) → (∀ o, f x = none → SubO O o → z o) → g x env O fun env2 _ => tt env2 O fun b O3 => if b = true then te env2 O3 k else z O3) → q (xs.filterMap f) O → lcGo g tt te Gd xs env O q
  | [], _, _, hq => ⟨hG, hq⟩
  | x :: xs, q, hx, hq => by
    refine ⟨hG, hx x List.mem_cons_self _ _ (fun y o e sb => ⟨O, sb, ?_⟩) (fun o e sb => ⟨O, sb, ?_⟩)⟩
    · refine lcGo_fm f hG (fun x' h' => hx x' (List.mem_cons_of_mem _ h')) ?_
      rw [List.filterMap_cons_some e] at hq
      exact hq
    · refine lcGo_fm f hG (fun x' h' => hx x' (List.mem_cons_of_mem _ h')) ?_
      rw [List.filterMap_cons_none e] at hq
      exact hq
theorem lcGo_map {g : DTG} {tt : DTT} {te : DTE} {Gd : Ow → Prop} {env : Env} {O : Ow} {xs : List D} {q : List D → Ow → Prop} (f : D → D) (hG : Gd O)
    (hx : ∀ x ∈ xs, ∀ (k : DQ) (z : Ow → Prop), (∀ o, SubO O o → k (f x) o) → g x env O fun env2 _ => tt env2 O fun b O3 => if b = true then te env2 O3 k else z O3) (hq : q (xs.map f) O) : lcGo g tt te Gd xs env O q :=
  lcGo_fm (fun x => some (f x)) hG (fun x h k z h1 _ => hx x h k z fun o sb => h1 _ o rfl sb) (by rw [List.filterMap_eq_map']; exact hq)
/-! ### sorted texts -/
theorem str_antisymm {a b : Str} (h1 : a.cps.toList ≤ b.cps.toList) (h2 : b.cps.toList ≤ a.cps.toList) : a = b := by
  have e : a.cps.toList = b.cps.toList := List.le_antisymm h1 h2
  cases a; cases b
  simp only [Str.mk.injEq]
  exact Array.toList_inj.mp e
theorem srt_str (ss : List Str) : srtD (ss.map D.str) = (ss.mergeSort fun a b => decide (a.cps.toList ≤ b.cps.toList)).map D.str := by
  symm
  refine List.map_mergeSort fun a _ b _ => ?_
  have := congrFun (congrFun (PySem.W.dataLe_str (fun b : Str => b)) a) b
  rw [← this]
  rfl
theorem srt_perm {ss ts : List Str} (h : ss.Perm ts) : srtD (ss.map D.str) = srtD (ts.map D.str) := by
  rw [srt_str, srt_str]
  congr 1
  have tr : ∀ a b c : Str, decide (a.cps.toList ≤ b.cps.toList) = true → decide (b.cps.toList ≤ c.cps.toList) = true → decide (a.cps.toList ≤ c.cps.toList) = true := fun a b c h1 h2 =>
    decide_eq_true (List.le_trans (of_decide_eq_true h1) (of_decide_eq_true h2))
  have tot : ∀ a b : Str, (decide (a.cps.toList ≤ b.cps.toList) || decide (b.cps.toList ≤ a.cps.toList)) = true := fun a b => by
    rcases List.le_total a.cps.toList b.cps.toList with h | h
    · simp [h]
    · simp [h]
  have p1 := List.pairwise_mergeSort (le := fun a b : Str => decide (a.cps.toList ≤ b.cps.toList)) tr tot ss
  have p2 := List.pairwise_mergeSort (le := fun a b : Str => decide (a.cps.toList ≤ b.cps.toList)) tr tot ts
  exact List.Perm.eq_of_pairwise (fun a b _ _ h1 h2 => str_antisymm (of_decide_eq_true h1) (of_decide_eq_true h2)) p1 p2 ((List.mergeSort_perm ss _).trans (h.trans (List.mergeSort_perm ts _).symm))
def isStr : D → Bool | .str _ => true | _ => false
theorem strs_alike (ss : List Str) : PySem.W.AllAlike ((ss.map D.str).map py) := by
  intro d hd e he
  simp only [List.map_map, List.mem_map, Function.comp] at hd he
  obtain ⟨a, _, rfl⟩ := hd
  obtain ⟨b, _, rfl⟩ := he
  simp [py, PySem.W.alike]
theorem strs_sortable (ss : List Str) : PySem.W.Sortable ((ss.map D.str).map py) := by
  refine .inr fun d hd => ?_
  simp only [List.map_map, List.mem_map, Function.comp] at hd
  obtain ⟨a, _, rfl⟩ := hd
  simp [py]
theorem strs_pds : ∀ ss : List Str, pds (ss.map D.str) = true
  | [] => by simp [pds]
  | s :: ss => by simp [pds, pd, strs_pds ss]
theorem i_sortS {O : Ow} {q : DQ} {ss : List Str} (h : q (.lst (srtD (ss.map D.str))) O) : dSorted [.lst (ss.map D.str)] O q :=
  ⟨_, rfl, strs_pds ss, strs_alike ss, strs_sortable ss, fun e he => by
    simp only [List.mem_map] at he
    obtain ⟨a, _, rfl⟩ := he
    simp [py, PyData.depth], h⟩
theorem powW {i j : Int} {m : Nat} (hi : i.natAbs < 2 ^ m) (hm : 0 < m) (h0 : 0 ≤ j) (h : ((m : Int) + 1) * j ≤ 2 ^ 27) : CPowW i j := by
  refine ⟨h0, Int.le_trans (Int.mul_le_mul_of_nonneg_right ?_ h0) h⟩
  have h1 : i.natAbs.log2 < m := PySem.Flt.log2_lt_of hm hi
  have h2 : Builtin.Int.intBits i ≤ i.natAbs.log2 + 1 := by
    unfold Builtin.Int.intBits
    split <;> omega
  omega
/-- a source of draws: digits, a mixed number, how often it was mixed -/
def Bag (O : Ow) (p : Addr) (m : Int) : Prop := ∃ a b c : Int, O p = some (.lst [.int a, .int b, .int c]) ∧ 0 ≤ b ∧ b < 2 ^ 90 ∧ 0 ≤ c ∧ c ≤ m
theorem Bag.mono {O : Ow} {p : Addr} {m m' : Int} (h : Bag O p m) (hm : m ≤ m') : Bag O p m' := by
  obtain ⟨a, b, c, e, h1, h2, h3, h4⟩ := h
  exact ⟨a, b, c, e, h1, h2, h3, Int.le_trans h4 hm⟩
theorem Bag.other {O : Ow} {p r : Addr} {m : Int} {o : OD} (h : Bag O p m) (hr : O r = none) : Bag (setO O r o) p m := by
  obtain ⟨a, b, c, e, h1⟩ := h
  refine ⟨a, b, c, ?_, h1⟩
  have : p ≠ r := fun z => by rw [z, hr] at e; cases e
  rw [setO_ne this]; exact e
/-- a number from 0 to n - 1 is drawn; nothing else changes -/
def f_take : DF := fun ds O q _ => ∃ p n m, ds = [.ref p, .int n] ∧ Bag O p m ∧ m < 2 ^ 40 ∧ 0 < n ∧ n < 2 ^ 30 ∧ ∀ r o, 0 ≤ r → r < n → Bag (setO O p o) p (m + 1) → q (.int r) (setO O p o)
/-- a new bag of a cell of the script -/
def f_bag : DF := fun ds O q _ => ∃ (ns : List Int) (at_ : Int), ds = [.lst (ns.map D.int), .int at_] ∧ 0 ≤ at_ ∧ at_ < 1000 ∧ ∀ p o, O p = none → Bag (setO O p o) p 0 → q (.ref p) (setO O p o)
end DL

set_option linter.all false
namespace DL
open PySem PySem.Spec PyProof.Rows L2
/-! ### repr and sorted reprs -/
def shw (d : D) : Str := (py d).shown
def shwOk (d : D) : Bool := pd d && (py d).showable && decide ((py d).depth ≤ 64) && decide ((py d).shown.length ≤ 16777216) && (PyData.str (shw d)).canLay0
theorem shw_lay {d : D} (h : shwOk d = true) : (PyData.str (shw d)).canLay0 = true := (Bool.and_eq_true_iff.mp h).2
theorem i_repr {O : Ow} {q : DQ} {d : D} (h : shwOk d = true) (hq : q (.str (shw d)) O) : dRepr [d] O q := by
  simp only [shwOk, Bool.and_eq_true, decide_eq_true_eq] at h
  exact ⟨py d, asP_pd h.1.1.1.1, h.1.1.1.2, h.1.1.2, by rw [sizeLine_eq]; exact h.1.2, hq⟩
theorem i_reprO {O : Ow} {q : DQ} {p : Addr} {ds : List D} (hp : O p = some (.lst ds)) (h : shwOk (.lst ds) = true) (hq : q (.str (shw (.lst ds))) O) : dRepr [.ref p] O q := by
  simp only [shwOk, Bool.and_eq_true, decide_eq_true_eq] at h
  have e : pds ds = true := by simpa [pd] using h.1.1.1.1
  have e2 : py (.lst ds) = .list (pys ds) := by simp [py]
  refine ⟨.list (pys ds), by simp [asP, hp, e], by rw [← e2]; exact h.1.1.1.2, by rw [← e2]; exact h.1.1.2, by rw [sizeLine_eq, ← e2]; exact h.1.2, ?_⟩
  rw [← e2]
  exact hq
theorem strs_lay : ∀ {ss : List Str}, (∀ s ∈ ss, (PyData.str s).canLay0 = true) → PyData.canLayAll0 (pys (ss.map D.str)) = true ∧ PyData.depthAll (pys (ss.map D.str)) = 0
  | [], _ => by simp [pys, PyData.canLayAll0, PyData.depthAll]
  | s :: ss, h => by
    obtain ⟨h1, h2⟩ := strs_lay fun s' hs => h s' (List.mem_cons_of_mem _ hs)
    have h3 := h s List.mem_cons_self
    simp only [List.map_cons, pys, py, PyData.canLayAll0, PyData.depthAll, PyData.depth, h1, h2, h3]
    exact ⟨rfl, rfl⟩
theorem strs_shaped {ss : List Str} (h : ∀ s ∈ ss, (PyData.str s).canLay0 = true) : SeqAt.shaped (py (.lst (ss.map D.str))) = true := by
  obtain ⟨h1, h2⟩ := strs_lay h
  simp only [SeqAt.shaped, py, PyData.canLay0, PyData.depth, h1, h2]
  decide
theorem eqvAll_strs : ∀ ss : List Str, PyData.eqvAll (pys (ss.map D.str)) (pys (ss.map D.str)) = true
  | [] => by simp [pys, PyData.eqvAll]
  | s :: ss => by simp [pys, py, PyData.eqvAll, PyData.eqv, eqvAll_strs ss]
/-- two sorted texts of the same reprs: told apart they are not -/
theorem i_neSorted {O : Ow} {q : DQ} {xs ys : List D} (h : (xs.map shw).isPerm (ys.map shw) = true) (h1 : ∀ x ∈ xs, shwOk x = true) (hq : q (.bl false) O) :
    dNe (.lst (srtD ((xs.map shw).map D.str))) (.lst (srtD ((ys.map shw).map D.str))) O q := by
  have pm := List.isPerm_iff.mp h
  rw [← srt_perm pm, srt_str]
  generalize hz : ((xs.map shw).mergeSort fun a b => decide (a.cps.toList ≤ b.cps.toList)) = zs
  have hm : ∀ s ∈ zs, (PyData.str s).canLay0 = true := fun s hs => by
    rw [← hz, List.mem_mergeSort, List.mem_map] at hs
    obtain ⟨d, hd, rfl⟩ := hs
    exact shw_lay (h1 d hd)
  have hp : pd (.lst (zs.map D.str)) = true := by simp [pd, strs_pds]
  refine ⟨_, _, asP_pd hp, asP_pd hp, strs_shaped hm, strs_shaped hm, ?_⟩
  have : PyData.eqv (py (.lst (zs.map D.str))) (py (.lst (zs.map D.str))) = true := by
    simp only [py, PyData.eqv]
    exact eqvAll_strs zs
  rw [this]
  exact hq
theorem i_neStr {O : Ow} {q : DQ} {a b : Str} (h : a = b) (ha : (PyData.str a).canLay0 = true) (hq : q (.bl false) O) : dNe (.str a) (.str b) O q := by
  subst h
  refine ⟨_, _, asP_pd (by simp [pd]), asP_pd (by simp [pd]), ?_, ?_, ?_⟩
  · simp only [SeqAt.shaped, py, PyData.depth, ha]; decide
  · simp only [SeqAt.shaped, py, PyData.depth, ha]; decide
  · have : PyData.eqv (py (.str a)) (py (.str a)) = true := by simp [py, PyData.eqv]
    rw [this]
    exact hq
/-- [repr(x) for x in xs] -/
theorem lcGo_reprs {i : Nat} {Gd : Ow → Prop} {env : Env} {O : Ow} {xs : List D} {q : List D → Ow → Prop} (hG : Gd O) (hi : i < env.length) (h1 : ∀ x ∈ xs, shwOk x = true)
    (hq : q ((xs.map shw).map D.str) O) : lcGo (dgName i) dYes (dCB dRepr (dCons (dVar i) dNil)) Gd xs env O q := by
  refine lcGo_map (fun d => .str (shw d)) hG (fun x hx k z hk => ?_) ?_
  · have e : (env.set i (some x))[i]? = some (some x) := by rw [List.getElem?_set_self hi]
    refine i_gname (i_yes ?_)
    rw [if_pos rfl]
    refine i_cb (i_cons (i_var (d := x) ?_ (i_nil (i_repr (h1 x hx) (hk _ (.refl _))))))
    simp [e]
  · rw [List.map_map] at hq
    exact hq
end DL

set_option Elab.async false
set_option linter.all false
set_option maxRecDepth 100000
set_option maxHeartbeats 4000000
namespace DL
open PySem PySem.Spec PyProof.Rows L2
/-- a def of no default, as the head tells it -/
abbrev FD (K : PySem.W.Frag) (x : Str) (st : Stmt) (f : Addr) (fd : FuncData) : Prop := FunD K x x (defArgs st) (defBody st) (defScope st) [] [] f fd
theorem walk_GE {l : PySem.W.OpenLaw} {n k : Nat} {q : Program} {loose : List Str} {XP : (Str → Option Value) → Heap → Prop} {YP : World → Heap → Prop} {d : DefRec} {x : Str} {fn : DF}
    (hn : l.most = some n) (hn2 : n ≤ sizeLine) (hdf : d.params.defaults = []) (hr : Room k callerA)
    (F : ∀ (w : World) (mg : Str → Option Value) (fa : Addr) (h : Heap), YP w h → h.Ns mainGlobals mg → mg d.name = some (.ref fa) →
      ∃ (K : PySem.W.Frag) (fd : FuncData), K.In h ∧ (∀ (s : Shared) (u : Value), BindsTo s fd ⟨[u], []⟩ [(x, u)]) ∧ ∀ base : Heap, K.In base → base.Ns mainGlobals mg → FnG l.prog w K mg base (L2.CX l.prog w) k fa fd [x] (spD K 1 fn))
    (hfn : ∀ ns : List Int, ns.length ≤ n → (∀ k ∈ ns, Builtin.Int.intBits k ≤ 1048576) → fn [.lst (ns.map D.int)] (fun _ => none) (fun d _ => d = .bl true) (fun _ _ _ => False)) :
    PySem.W.WalkO q loose XP YP l.row.toRowW d [] (fun f vs => PySem.call f vs) := by
  refine Att.attach_callB hn hdf fun w s₀ s₁ mg mb fa o pm cd doc a vs ns G Y ho hd hcd hmg hobj hints hlen hbits hg => ?_
  obtain ⟨K, fd, KX, hb, hF⟩ := F w mg fa _ Y G.T.g hmg
  exact law_G KX G.T.g G.T.b G.T.builtins G.T.nolimit hg hobj hints (Nat.le_trans hlen hn2) hr hF hb (hfn ns hlen hbits)
end DL

set_option Elab.async false
set_option linter.all false
set_option maxRecDepth 100000
set_option maxHeartbeats 4000000
/-! # DLC: freezing, statements that are not reached, isinstance, instances of own classes -/
namespace DL
open PySem PySem.Spec PyProof.Rows L2
section
variable {X : Cx} {B : Bd} {pos : Pos} {k : Nat} {wx : DW} {e : Expr} {p : Pos}
/-! ### an own list becomes data -/
def delO (O : Ow) (p : Addr) : Ow := fun b => if b = p then none else O b
theorem delO_ne {O : Ow} {p r : Addr} (h : r ≠ p) : delO O p r = O r := if_neg h
theorem delO_set {O : Ow} {p : Addr} {o : OD} (h : O p = none) : delO (setO O p o) p = O := by
  funext b
  unfold delO setO
  split
  · rename_i z; rw [z, h]
  · rfl
theorem delO_sub {O : Ow} {p : Addr} : SubO (delO O p) O := fun q o e => by
  unfold delO at e
  split at e
  · cases e
  · exact e
def iceK (q : DQ) : DQ := fun d O1 => match d with
  | .ref p => ∃ ds, O1 p = some (.lst ds) ∧ q (.lst ds) (delO O1 p)
  | .lst ds => q (.lst ds) O1
  | _ => False
def dIce (t : DTE) : DTE := fun env O q => t env O (iceK q)
theorem de_ice {t : DTE} (h : PE X e (lift B t)) : PE X e (lift B (dIce t)) := PE.weak h fun σ H Q hh => by
  obtain ⟨env, O, F, q, R, hh, kk⟩ := hh
  refine ⟨env, O, F, _, R, hh, fun d v O1 H1 F1 a1 r1 h1 => ?_⟩
  cases d <;> try exact h1.elim
  · rename_i p
    obtain ⟨ds, e, h1⟩ := h1
    cases r1
    obtain ⟨F2, r2, a2⟩ := (R.call a1).ice e
    exact kk _ _ _ _ F2 (a1.trans a2) r2 h1
  · exact kk _ _ _ _ F1 a1 r1 h1
theorem i_ice {t : DTE} {env : Env} {O : Ow} {q : DQ} (h : t env O (iceK q)) : dIce t env O q := h
theorem i_iceK {O : Ow} {q : DQ} {p : Addr} {ds : List D} (e : O p = some (.lst ds)) (h : q (.lst ds) (delO O p)) : iceK q (.ref p) O := ⟨ds, e, h⟩
theorem i_iceL {O : Ow} {q : DQ} {ds : List D} (h : q (.lst ds) O) : iceK q (.lst ds) O := h
/-! ### what is not reached -/
/-! ### isinstance -/
def tyN (O : Ow) : D → Option String
  | .non => some "NoneType"
  | .bl _ => some "bool"
  | .int _ => some "int"
  | .str _ => some "str"
  | .lst _ => some "list"
  | .tup _ => some "tuple"
  | .ref p => match O p with
    | some (.lst _) => some "list"
    | some (.dK _) => some "dict"
    | some (.dT _) => some "dict"
    | _ => none
  | .ty _ => none
  | .ins _ _ _ => none
theorem tyN_ok {K : Frag} {O : Ow} {H F : Hp} (fh : Same F H) (ow : OwOk K O H F) {d : D} {v : V} {a : String} (r : RV K F d v) (h : tyN O d = some a) : TyX K H v (.type a) := by
  cases d <;> simp only [tyN] at h
  · cases h; cases r; exact .base .non
  · cases h; cases r; exact .base (.bl _)
  · cases h; cases r; exact .base (.int _)
  · cases h; cases r; exact .base (.str _)
  · rename_i p
    cases r
    split at h
    · rename_i e
      obtain ⟨_, ho, e1, vs, rfl, _⟩ := ow _ _ e
      cases h; exact .base (.lst e1)
    · rename_i e
      obtain ⟨_, ho, e1, vs, rfl, _⟩ := ow _ _ e
      cases h; exact .base (.dK e1)
    · rename_i e
      obtain ⟨_, ho, e1, vs, rfl, _⟩ := ow _ _ e
      cases h; exact .base (.dT e1)
    · cases h
  · cases h
  · cases h
    cases r with
    | lst hs _ =>
      rcases hs with (hs | ⟨o, hs⟩) | ⟨o, its, n, lk, c, _⟩
      · exact .base (.lst (fh _ _ hs))
      · exact .base (.frz (fh _ _ hs))
      · exact .kList lk c
  · cases h
    cases r with
    | tup hs _ =>
      rcases hs with (hs | ⟨o, hs⟩) | ⟨o, its, n, lk, c, _⟩
      · exact .base (.tup (fh _ _ hs))
      · exact .fTuple (fh _ _ hs)
      · exact .kTuple lk c
  · cases h
def tyKnown : List String := ["NoneType", "bool", "int", "str", "list", "tuple", "dict"]
def kitT (a n : String) : Bool := a == n || (a == "bool" && n == "int")
theorem kitB_eq : ∀ a ∈ tyKnown, ∀ n ∈ ["str", "int", "bool", "tuple", "list", "dict"], kitB a n = some (kitT a n) := by decide +kernel
theorem tyN_mem {O : Ow} {d : D} {a : String} (h : tyN O d = some a) : a ∈ tyKnown := by
  cases d <;> simp only [tyN] at h <;> try (cases h; done)
  all_goals try (cases h; decide)
  split at h <;> cases h <;> decide
def dIsi : List D → Ow → DQ → Prop := fun ds O q => match ds with
  | [x, .ty n] => ∃ a, tyN O x = some a ∧ n ∈ ["str", "int", "bool", "tuple", "list", "dict"] ∧ q (.bl (kitT a n)) O
  | _ => False
theorem sim_isi : SimC B (rIsi B.K) dIsi := by
  intro env O σ H F vs ds q Q R r h kk
  match ds, r, h with
  | [x, .ty n], r, ⟨a, e, hn, h⟩ =>
    obtain ⟨v, w, rfl, r1, r2⟩ := r.two
    cases r2
    exact ⟨v, _, _, _, _, rfl, .ty n, tyN_ok R.fh R.ow r1 e, kit_ty (kitB_eq a (tyN_mem e) n hn), kk _ _ O H F (.refl R) (.bl _) h⟩
theorem bt_isi : bootBuiltins "isinstance" = some (.builtin "isinstance") := by decide +kernel
theorem so_isi {e1 e2 : Expr} {tA : DTA} (S : Site X B k wx) (hg : Gl X "isinstance") (hm : X.mg "isinstance" = none) (ha : PA X [e1, e2] (liftA B tA)) (he : starEach [e1, e2] X.env = (false, eval e1 X.env) :: starEach [e2] X.env := by rfl) (hpl : (backTo pos (starEach [e2] X.env)).any (·.1) = false := by rfl) :
    PE X (.Call (.Name "isinstance" p) [e1, e2] [] pos) (lift B (dCB dIsi tA)) :=
  de_cb (by rw [S.hK]; exact sim_isi) (pe_callB call_isi hg hm bt_isi ha (by decide) (by decide) he hpl)
/-- a tuple of classes -/
def tyNs : List D → Option (List String)
  | [] => some []
  | .ty n :: ds => (tyNs ds).map (n :: ·)
  | _ => none
def dIsiT : List D → Ow → DQ → Prop := fun ds O q => match ds with
  | [x, .tup cs] => ∃ a ns, tyN O x = some a ∧ tyNs cs = some ns ∧ (∀ n ∈ ns, n ∈ ["str", "int", "bool", "tuple", "list", "dict"]) ∧ q (.bl (ns.any (kitT a))) O
  | _ => False
def rIsiS (K : Frag) : List V → Hp → VK → Prop := fun xs H Q => ∃ (x : V) (tp : Addr) (cs : List V) (t : Value) (us : List Value) (b : Bool), xs = [x, .ref tp] ∧ SqT K H tp cs ∧ Paired ClsV cs us ∧ TyX K H x t ∧ PySem.W.kitAny K t us = some b ∧ Q (.bl b) H
theorem call_isiS : CallR X (.builtin "isinstance") (rIsiS X.K) := by
  intro pins s σ H xs us Q I r h
  obtain ⟨x, tp, cs, t, ws, b, rfl, hT, k, ty, e, q⟩ := h
  obtain ⟨u1, u2, rfl, r1, r2⟩ := vals2 r
  cases (show u2 = Value.ref tp from r2)
  obtain ⟨P, Z, p, hx⟩ := kit_of I r1 ty
  obtain ⟨its, rv, ⟨o, h1, h2, n, h3⟩, _⟩ := I.tuple hT
  have e3 := ClsV.all k rv
  subst e3
  obtain ⟨oc, od, dt, sl⟩ := o
  simp only at h2 h3
  subst h2 h3
  exact PySem.W.kia_tup Z I.kIn p h1 e hx fun tk => ⟨.bl b, H, I.tok tk, rfl, q⟩
theorem tyNs_ok {K : Frag} {F : Hp} : ∀ {cs : List D} {vs : List V} {ns : List String}, RVs K F cs vs → tyNs cs = some ns → Paired ClsV vs (ns.map Value.type)
  | [], _, _, .nil, h => by cases h; exact .nil
  | .ty n :: ds, _, ns, .cons r rs, h => by
    simp only [tyNs] at h
    cases e : tyNs ds with
    | none => rw [e] at h; cases h
    | some ms =>
      rw [e] at h
      cases h
      cases r
      exact .cons (.ty n) (tyNs_ok rs e)
theorem kitAny_eq {K : Frag} {a : String} (ha : a ∈ tyKnown) : ∀ {ns : List String}, (∀ n ∈ ns, n ∈ ["str", "int", "bool", "tuple", "list", "dict"]) → PySem.W.kitAny K (.type a) (ns.map Value.type) = some (ns.any (kitT a))
  | [], _ => rfl
  | n :: ns, h => by
    have h1 := kit_ty (K := K) (kitB_eq a ha n (h n List.mem_cons_self))
    have h2 := kitAny_eq (K := K) ha fun m hm => h m (List.mem_cons_of_mem _ hm)
    refine kitAny_cons h1 (fun z => ?_) (fun z => ?_)
    · rw [h2, List.any_cons, z]; rfl
    · rw [List.any_cons, z]; rfl
theorem sim_isiT : SimC B (rIsiS B.K) dIsiT := by
  intro env O σ H F vs ds q Q R r h kk
  match ds, r, h with
  | [x, .tup cs], r, ⟨a, ns, e, e2, hn, h⟩ =>
    obtain ⟨v, w, rfl, r1, r2⟩ := r.two
    cases r2 with
    | tup hs hr =>
      exact ⟨v, _, _, _, _, _, rfl, same_tup R.fh hs, tyNs_ok hr e2, tyN_ok R.fh R.ow r1 e, kitAny_eq (tyN_mem e) hn, kk _ _ O H F (.refl R) (.bl _) h⟩
theorem so_isiT {e1 e2 : Expr} {tA : DTA} (S : Site X B k wx) (hg : Gl X "isinstance") (hm : X.mg "isinstance" = none) (ha : PA X [e1, e2] (liftA B tA)) (he : starEach [e1, e2] X.env = (false, eval e1 X.env) :: starEach [e2] X.env := by rfl) (hpl : (backTo pos (starEach [e2] X.env)).any (·.1) = false := by rfl) :
    PE X (.Call (.Name "isinstance" p) [e1, e2] [] pos) (lift B (dCB dIsiT tA)) :=
  de_cb (by rw [S.hK]; exact sim_isiT) (pe_callB call_isiS hg hm bt_isi ha (by decide) (by decide) he hpl)
/-- a built-in type by its name -/
theorem so_ty {x : Str} {n : String} (hg : Gl X x) (hm : X.mg x = none) (hv : bootBuiltins x = some (.type n) := by decide +kernel) (hn : x ≠ "__name__" := by decide) (hd : (x == ("__debug__" : Str)) = false := by decide) : PE X (.Name x pos) (lift B (dC (.ty n))) :=
  de_con (pe_bltn hg hm hv (v := .ty n) rfl hn hd) fun _ => .ty n
theorem i_isi {O : Ow} {q : DQ} {x : D} {n a : String} {b : Bool} (e : tyN O x = some a) (hn : ["str", "int", "bool", "tuple", "list", "dict"].contains n = true) (hb : kitT a n = b) (h : q (.bl b) O) : dIsi [x, .ty n] O q :=
  ⟨a, e, by simpa using hn, hb ▸ h⟩
end
end DL

set_option Elab.async false
set_option linter.all false
set_option maxRecDepth 100000
set_option maxHeartbeats 4000000
/-! # DLD: instances of own classes; the head's facts by places of one's own -/
namespace DL
open PySem PySem.Spec PyProof.Rows L2
/-! ### attributes -/
def putD (f : Str) (v : D) : List (Str × D) → List (Str × D)
  | [] => [(f, v)]
  | (g, x) :: r => if g = f then (g, v) :: r else (g, x) :: putD f v r
theorem RKV.put {K : Frag} {F : Hp} {f : Str} {d : D} {v : V} (r : RV K F d v) : ∀ {l : List (Str × D)} {m : List (Str × V)}, RKV K F l m → RKV K F (putD f d l) (putF f v m)
  | _, _, .nil => .cons ⟨rfl, r⟩ .nil
  | (g, x) :: l, (g', y) :: m, .cons h t => by
    obtain ⟨h1, h2⟩ := h
    simp only at h1
    subst h1
    unfold putD putF
    by_cases hg : g = f
    · rw [if_pos hg, if_pos hg]; exact .cons ⟨rfl, r⟩ t
    · rw [if_neg hg, if_neg hg]; exact .cons ⟨rfl, h2⟩ (RKV.put r t)
theorem RKV.look {K : Frag} {F : Hp} {f : Str} {d : D} : ∀ {l : List (Str × D)} {m : List (Str × V)}, RKV K F l m → l.lookup f = some d → ∃ v, m.lookup f = some v ∧ RV K F d v
  | _, _, .nil, h => by cases h
  | (g, x) :: l, (g', y) :: m, .cons h t, e => by
    obtain ⟨h1, h2⟩ := h
    simp only at h1
    subst h1
    rw [List.lookup_cons] at e ⊢
    cases hg : (f == g) with
    | true => rw [hg] at e; cases e; exact ⟨y, rfl, h2⟩
    | false => rw [hg] at e; exact RKV.look t e
theorem RKV.len {κ : Type} {K : Frag} {F : Hp} : ∀ {l : List (κ × D)} {m : List (κ × V)}, RKV K F l m → l.length = m.length
  | _, _, .nil => rfl
  | _, _, .cons _ t => congrArg (· + 1) (RKV.len t)
section
variable {X : Cx} {B : Bd} {pos : Pos} {k : Nat} {wx : DW} {e o value : Expr} {es : List Expr} {p pos' : Pos} {C : Addr} {f : Str} {ta tv : DTE} {env : Env} {O : Ow} {q : DQ} {E : DEnds}
/-- an instance of C: one's own, or data -/
def InsAt (C : Addr) (O : Ow) : D → List (Str × D) → Prop
  | .ref p, fs => ∃ dx, O p = some (.ins C dx fs)
  | .ins C' ns ds, fs => C' = C ∧ fs = ns.zip ds
  | _, _ => False
theorem rkv_zip {K : Frag} {F : Hp} : ∀ {ns : List Str} {ds : List D} {vs : List V}, RVs K F ds vs → RKV K F (ns.zip ds) (ns.zip vs)
  | [], _, _, _ => by simp only [List.zip_nil_left]; exact .nil
  | _ :: _, _, _, .nil => .nil
  | _ :: ns, _, _, .cons h t => .cons ⟨rfl, h⟩ (rkv_zip (ns := ns) t)
theorem InsAt.ok {K : Frag} {C : Addr} {O : Ow} {H F : Hp} (fh : Same F H) (ow : OwOk K O H F) {d : D} {v : V} {fs : List (Str × D)} (r : RV K F d v) (h : InsAt C O d fs) : ∃ a dx gs, v = .ref a ∧ H a = some (.ins C dx gs) ∧ RKV K F fs gs := by
  cases d <;> try exact h.elim
  · rename_i p
    obtain ⟨dx, e⟩ := h
    cases r
    obtain ⟨_, ho, e3, gs, rfl, rk⟩ := ow _ _ e
    exact ⟨_, dx, gs, rfl, e3, rk⟩
  · obtain ⟨rfl, rfl⟩ := h
    cases r with
    | ins e l hs => exact ⟨_, _, _, rfl, fh _ _ e, rkv_zip hs⟩
def fldK (C : Addr) (f : Str) (q : DQ) : DQ := fun x O1 => ∃ fs d, InsAt C O1 x fs ∧ fs.lookup f = some d ∧ q d O1
def dFld (C : Addr) (f : Str) (ta : DTE) : DTE := fun env O q => ta env O (fldK C f q)
theorem de_fld (S : Site X B k wx) (c : Cls X.K C) (n : NoAttr X.K C f) (he : PE X e (lift B ta)) (hb : attributeBase e f X.env (eval e X.env) = eval e X.env := by rfl) : PE X (.Attribute e f pos) (lift B (dFld C f ta)) :=
  PE.weak (pe_fld he hb) fun σ H Q h => by
    obtain ⟨env, O, F, q, R, h, kk⟩ := h
    refine ⟨env, O, F, _, R, h, fun d v O1 H1 F1 a1 r1 h1 => ?_⟩
    obtain ⟨fs, d, e1, e2, h1⟩ := h1
    obtain ⟨_, dx, gs, rfl, e3, rk⟩ := e1.ok a1.fh a1.ow r1
    obtain ⟨v, e4, rv⟩ := rk.look e2
    exact ⟨_, C, dx, gs, v, rfl, e3, c, n, e4, kk d v O1 H1 F1 a1 rv h1⟩
theorem i_fld (h : ta env O (fldK C f q)) : dFld C f ta env O q := h
theorem i_fldK {p dx : Addr} {fs : List (Str × D)} {d : D} (e1 : O p = some (.ins C dx fs)) (e2 : fs.lookup f = some d) (h : q d O) : fldK C f q (.ref p) O := ⟨fs, d, ⟨dx, e1⟩, e2, h⟩
theorem i_fldI {ns : List Str} {ds : List D} {d : D} (e2 : (ns.zip ds).lookup f = some d) (h : q d O) : fldK C f q (.ins C ns ds) O := ⟨_, d, ⟨rfl, rfl⟩, e2, h⟩
/-- self.f = v -/
def setfK (C : Addr) (f : Str) (y : D) (E : DEnds) (env : Env) : DQ := fun x O2 => match x with
  | .ref p => ∃ dx fs, O2 p = some (.ins C dx fs) ∧ fs.length < 1000 ∧ E.nx env (setO O2 p (.ins C dx (putD f y fs)))
  | _ => False
def dsFld (C : Addr) (f : Str) (ta tv : DTE) : DTS := fun E env O => tv env O fun y O1 => ta env O1 (setfK C f y E env)
theorem ds_fld (S : Site X B k wx) (c : Cls X.K C) (n : NoAttr X.K C f) (ha : PE X o (lift B ta)) (hv : PE X value (lift B tv)) (hs : swapsWith value (some (.Attribute o f pos')) pos.line X.env = pure false := by rfl) : PS X (.Assign [.Attribute o f pos'] value pos) (liftS B (dsFld C f ta tv)) :=
  PS.weak (ps_fld ha hv hs) fun E σ H h => by
    obtain ⟨env, O, F, d, R, h, m⟩ := h
    refine ⟨env, O, F, _, R, h, fun y v O1 H1 F1 a1 r1 h1 => ?_⟩
    refine ⟨env, O1, F1, _, R.call a1, h1, fun x u O2 H2 F2 a2 r2 h2 => ?_⟩
    cases x <;> try exact h2.elim
    cases r2
    obtain ⟨dx, fs, e1, hl, h2⟩ := h2
    obtain ⟨_, ho, e3, gs, rfl, rk⟩ := a2.ow _ _ e1
    have R2 := (R.call a1).call a2
    have a3 := R2.put e1 (o := .ins C dx (putF f v gs)) (u := .ins C dx (putD f y fs)) ⟨_, rfl, rk.put (r1.mono a2.ff)⟩
    exact ⟨_, C, dx, gs, rfl, e3, c, n, rk.len ▸ hl, m.nx env _ σ _ F2 (a1.trans (a2.trans a3)) R2.sl h2⟩
theorem i_sfld (h : tv env O fun y O1 => ta env O1 (setfK C f y E env)) : dsFld C f ta tv E env O := h
theorem i_setfK {y : D} {p dx : Addr} {fs : List (Str × D)} (e1 : O p = some (.ins C dx fs)) (hl : fs.length < 1000) (h : E.nx env (setO O p (.ins C dx (putD f y fs)))) : setfK C f y E env (.ref p) O := ⟨dx, fs, e1, hl, h⟩
/-- self.f += v, lists of one's own -/
def dsFldExt (C : Addr) (f : Str) (ta tv : DTE) : DTS := fun E env O => ta env O fun x O1 => match x with
  | .ref p => ∃ dx fs l, O1 p = some (.ins C dx fs) ∧ fs.lookup f = some (.ref l) ∧ tv env O1 fun y O2 => match y with
    | .ref b => ∃ xs zs dx' fs', O2 l = some (.lst xs) ∧ O2 b = some (.lst zs) ∧ xs.length + zs.length ≤ sizeLine ∧ O2 p = some (.ins C dx' fs') ∧ fs'.length < 1000 ∧ E.nx env (setO (setO O2 l (.lst (xs ++ zs))) p (.ins C dx' (putD f (.ref l) fs')))
    | _ => False
  | _ => False
theorem ds_fldExt (S : Site X B k wx) (c : Cls X.K C) (n : NoAttr X.K C f) (ha : PE X o (lift B ta)) (hv : PE X value (lift B tv)) : PS X (.AugAssign (.Attribute o f pos') .Add value pos) (liftS B (dsFldExt C f ta tv)) :=
  PS.weak (ps_fldaug (rd := rExt2) ha hv (fun pins s σ H x y u v Q I rx ry h => iop_ext pins s σ H x y u v Q I rx ry h)) fun E σ H h => by
    obtain ⟨env, O, F, d, R, h, m⟩ := h
    refine ⟨env, O, F, _, R, h, fun x v O1 H1 F1 a1 r1 h1 => ?_⟩
    cases x <;> try exact h1.elim
    rename_i p
    cases r1
    obtain ⟨dx, fs, l, e1, e2, h1⟩ := h1
    obtain ⟨_, ho, e3, gs, rfl, rk⟩ := a1.ow _ _ e1
    obtain ⟨v, e4, rv⟩ := rk.look e2
    cases rv
    refine ⟨p, C, dx, gs, .ref l, rfl, e3, c, n, e4, env, O1, F1, _, R.call a1, h1, fun y v O2 H2 F2 a2 r2 h2 => ?_⟩
    cases y <;> try exact h2.elim
    cases r2
    obtain ⟨xs, zs, dx', fs', i1, i2, hl, i3, hl2, h2⟩ := h2
    obtain ⟨_, ho1, j1, vs1, rfl, s1⟩ := a2.ow _ _ i1
    obtain ⟨_, ho2, j2, vs2, rfl, s2⟩ := a2.ow _ _ i2
    obtain ⟨_, ho3, j3, gs', rfl, s3⟩ := a2.ow _ _ i3
    have hne : p ≠ l := fun z => by rw [z, i1] at i3; cases i3
    have R2 := (R.call a1).call a2
    have a3 := R2.put i1 (o := .lst (vs1 ++ vs2)) (u := .lst (xs ++ zs)) ⟨_, rfl, s1.append s2⟩
    have R3 := R2.call a3
    have i4 : (setO O2 l (.lst (xs ++ zs))) p = some (.ins C dx' fs') := by rw [setO_ne hne]; exact i3
    have a4 := R3.put i4 (o := .ins C dx' (putF f (.ref l) gs')) (u := .ins C dx' (putD f (.ref l) fs')) ⟨_, rfl, s3.put (.ref l)⟩
    exact ⟨l, _, vs1, vs2, rfl, rfl, j1, j2, by rw [← s1.length, ← s2.length]; exact hl, dx', gs', by rw [upd_ne hne]; exact j3, s3.len ▸ hl2, m.nx env _ σ _ F2 (a1.trans (a2.trans (a3.trans a4))) R3.sl h2⟩
end
/-! ### a new instance -/
section
variable {X : Cx} {B : Bd} {pos : Pos} {C f : Addr} {fd : FuncData} {ps : List Str} {k n : Nat}
theorem run_mkG {pins : List (Addr × Obj)} {σ : St} {H : Hp} {s : Shared} {Q : VK} {us : List Value} {vs dvs : List V} {ds : List Value} {W : WX} {sp : Sp}
    (M : Mk X.K C f) (Fn : FnG X.prog X.w X.K X.mg X.base (L2.CX X.prog X.w) k f fd ps sp) (hgd : X.A.guards = some []) (hr : Room (k + 1) X.A) (hb : Binds X.K fd ps ds) (hd : Vals dvs ds) (tk : Takes X W)
    (I : Inv X pins σ H s) (r : Vals vs us)
    (h : ∀ x dx, H x = none → H dx = none → dx ≠ x → sp (.ref x :: (vs ++ dvs)) (upd (upd H dx (.own x)) x (.ins C dx [])) (fun v H2 => v = .non ∧ Q (.ref x) H2) (fun c d H' => W c d σ H')) :
    wpAny (model X.prog X.w) X.A (call (.ref C) us) (EP X pins σ Q) X.xe s := by
  have z := h (s.heap.objs.size + 1) s.heap.objs.size (I.hok.fresh (Nat.le_succ _)) (I.hok.fresh (Nat.le_refl _)) (Nat.ne_of_lt (Nat.lt_succ_self _))
  have J := Inv.made (C := C) I
  have rr : Vals (V.ref (s.heap.objs.size + 1) :: (vs ++ dvs)) (Value.ref (s.heap.objs.size + 1) :: (us ++ ds)) := .cons rfl (r.append hd)
  have lens : (Value.ref (s.heap.objs.size + 1) :: us ++ ds).length = ps.length := (rr.length.symm.trans (Fn.len _ _ _ _ z))
  refine wpAny_call (make_map (f := f) I.kIn M.makes M.init (beq_iff_eq.mp M.fn) (codeAny_mono (Fn.run _ X.stack _ _ ⟨Value.ref (s.heap.objs.size + 1) :: us, []⟩ (Value.ref (s.heap.objs.size + 1) :: (us ++ ds)) _ _ _ hgd (hr.make C us [])
    (J.env0.make C us []) (hb _ (Value.ref (s.heap.objs.size + 1) :: us) J.kIn lens) rr z) fun r s' y => ?_))
  match r, y with
  | .error e, y => exact tk _ s' (XE.of_call J (fun _ _ _ z => z) y)
  | .ok (.ret u), y =>
    obtain ⟨v, H', J2, rv, ev, q3⟩ := J.after y
    subst ev
    exact ⟨rv, ⟨V.ref (s.heap.objs.size + 1), H', J2, rfl, q3⟩⟩
  | .ok .next, y => exact False.elim y
  | .ok .brk, y => exact False.elim y
  | .ok .cont, y => exact False.elim y
def dMake (C : Addr) (fn : DF) (n : Nat) (w : DW) (dds : List D) (ta : DTA) : DTE := fun env O q => ta env O fun ds O1 => (ds ++ dds).length + 1 = n ∧ ∀ x dx, O1 x = none → O1 dx = none → dx ≠ x →
  fn (.ref x :: (ds ++ dds)) (setO O1 x (.ins C dx [])) (fun d O2 => d = .non ∧ q (.ref x) O2) fun c fs O' => w c fs env O'
/-- the dict of a new instance: nobody's own, it stands -/
theorem Rel.junk {env : Env} {O : Ow} {σ : St} {H F : Hp} (R : Rel B env O σ H F) {p : Addr} (h : H p = none) (o : HO) : After B.K O H F O (upd H p o) F := by
  obtain ⟨hO, hF⟩ := R.free h
  refine ⟨Same.refl _, fun b x e => by rw [upd_ne (ne_of_none e hF)]; exact R.fh b x e, fun b x e _ => by rw [upd_ne (ne_of_none e h)]; exact e, fun _ _ _ e => e, fun q x e => ?_, fun q x e => .inl (by rw [e]; simp)⟩
  have hq : q ≠ p := fun z => by rw [z, hO] at e; cases e
  obtain ⟨h1, ho, h3, h4⟩ := R.ow q x e
  exact ⟨h1, ho, by rw [upd_ne hq]; exact h3, h4⟩
theorem sp_make {env : Env} {O : Ow} {σ : St} {H F : Hp} {ds : List D} {vs : List V} {fn : DF} {w : DW} {q : DQ} {Q : VK} {x dx : Addr} (R : Rel B env O σ H F) (r : RVs B.K F ds vs) (hl : ds.length + 1 = n) (hx : H x = none) (hdx : H dx = none) (hne : dx ≠ x)
    (h : fn (.ref x :: ds) (setO O x (.ins C dx [])) (fun d O2 => d = .non ∧ q (.ref x) O2) fun c fs O' => w c fs env O') (kk : ∀ d v O' H' F', After B.K O H F O' H' F' → RV B.K F' d v → q d O' → Q v H') :
    spD B.K n fn (.ref x :: vs) (upd (upd H dx (.own x)) x (.ins C dx [])) (fun v H2 => v = .non ∧ Q (.ref x) H2) (fun c d H' => liftX B w c d σ H') := by
  have a1 := R.junk hdx (.own x)
  have R1 := R.call a1
  have hx1 : (upd H dx (.own x)) x = none := by rw [upd_ne (Ne.symm hne)]; exact hx
  have a2 := R1.own hx1 (o := .ins C dx []) (u := .ins C dx []) ⟨[], rfl, .nil⟩
  have R2 := R1.call a2
  refine ⟨F, _, .ref x :: ds, _, _, R2.fh, R2.ow, .cons (.ref x) r, hl, h, fun d v O' H' F' a' r' hq => ?_, fun c dx fs O' H' F' a' xr hx => ⟨env, O', F', fs, R2.call a', xr, hx⟩⟩
  obtain ⟨rfl, hq⟩ := hq
  cases r'
  exact ⟨rfl, kk _ _ O' H' F' (a1.trans (a2.trans a')) (.ref x) hq⟩
section
variable {e : Expr} {es : List Expr} {x : Str} {p : Pos} {fn : DF} {w : DW} {ta : DTA}
theorem de_make {dvs : List V} {dds : List D} {ds : List Value} (M : Mk X.K C f) (Fn : FnG X.prog X.w X.K X.mg X.base (L2.CX X.prog X.w) k f fd ps (spD B.K n fn)) (hgd : X.A.guards = some []) (hr : Room (k + 1) X.A) (hg : Gl X x) (hm : X.mg x = some (.ref C))
    (hb : Binds X.K fd ps ds) (hd : Vals dvs ds) (hdd : ∀ F, RVs B.K F dds dvs) (tk : TakesD X B w) (ha : PA X (e :: es) (liftA B ta))
    (hdb : (x == ("__debug__" : Str)) = false := by decide) (he : starEach (e :: es) X.env = (false, eval e X.env) :: starEach es X.env := by rfl) (hpl : (backTo pos (starEach es X.env)).any (·.1) = false := by rfl) :
    PE X (.Call (.Name x p) (e :: es) [] pos) (lift B (dMake C fn n w dds ta)) := by
  refine ⟨fun pins s σ H Q I h => wpAny_Call_Name_kw (ld_glob I hg hm ?_ hdb)⟩
  obtain ⟨env, O, F0, q, R, h, kk⟩ := h
  refine PySem.W.callWith_K (h₀ := X.base) I.ok.mod.kin M.kp (thn (ha.run pos pins s σ H (fun vs H1 => ∀ x dx, H1 x = none → H1 dx = none → dx ≠ x → spD B.K n fn (.ref x :: (vs ++ dvs)) (upd (upd H1 dx (.own x)) x (.ins C dx [])) (fun v H2 => v = .non ∧ Q (.ref x) H2) (fun c d H' => liftX B w c d σ H')) I ⟨env, O, F0, _, R, h, ?_⟩) fun us s1 ⟨vs, H1, I1, rv, z⟩ => ⟨I1.kIn, ?_⟩) he hpl
  · intro ds vs O1 H1 F1 a1 r1 q1 x dx hx hdx hne
    have R1 := R.call a1
    exact sp_make R1 (r1.append (hdd F1)) q1.1 hx hdx hne (q1.2 x dx (R1.free hx).1 (R1.free hdx).1 hne) fun d v O' H' F' a' r' hq => kk d v O' H' F' (a1.trans a') r' hq
  · exact run_mkG M Fn hgd hr hb hd tk I1 rv z
end
theorem i_make {fn : DF} {w : DW} {dds : List D} {ta : DTA} {env : Env} {O : Ow} {q : DQ} (h : ta env O fun ds O1 => (ds ++ dds).length + 1 = n ∧ ∀ x dx, O1 x = none → O1 dx = none → dx ≠ x →
  fn (.ref x :: (ds ++ dds)) (setO O1 x (.ins C dx [])) (fun d O2 => d = .non ∧ q (.ref x) O2) fun c fs O' => w c fs env O') : dMake C fn n w dds ta env O q := h
end
/-- a class and its __init__, as callee -/
structure Mak (P : Program) (w : World) (K : Frag) (mg : Str → Option Value) (base : Heap) (x : Str) (ps : List Str) (n k : Nat) (fn : DF) (C f : Addr) (fd : FuncData) : Prop where
  G : FnG P w K mg base (L2.CX P w) k f fd ps (spD K n fn)
  mg : mg x = some (.ref C)
  cl : Mk K C f
/-! ### a property -/
section
variable {X : Cx} {B : Bd} {pos : Pos} {k : Nat} {wx : DW} {e : Expr} {C g : Addr} {f f' : Str} {ta : DTE}
theorem de_prop {pa : Addr} {fd : FuncData} (S : Site X B (k + 2) wx) (c : Cls X.K C) (hp : PropOf X.K C f pa g) (Fn : FnOk X.prog X.w X.K X.mg X.base CX0 1 g fd ["self"] (getSp C f')) (hb : Binds X.K fd ["self"] [])
    (he : PE X e (lift B ta)) (hab : attributeBase e f X.env (eval e X.env) = eval e X.env := by rfl) : PE X (.Attribute e f pos) (lift B (dFld C f' ta)) :=
  PE.weak (pe_prop (E := fun _ _ _ => False) he c hp Fn (S.rm.mono (by omega)) hb .nil (fun _ _ _ _ _ _ _ z => z) hab) fun σ H Q h => by
    obtain ⟨env, O, F, q, R, h, kk⟩ := h
    refine ⟨env, O, F, _, R, h, fun d v O1 H1 F1 a1 r1 h1 => ?_⟩
    obtain ⟨fs, d, e1, e2, h1⟩ := h1
    obtain ⟨_, dx, gs, rfl, e3, rk⟩ := e1.ok a1.fh a1.ow r1
    obtain ⟨v, e4, rv⟩ := rk.look e2
    exact ⟨_, dx, gs, rfl, e3, _, dx, gs, v, rfl, e3, e4, kk d v O1 H1 F1 a1 rv h1⟩
end
end DL

set_option Elab.async false
set_option linter.all false
set_option maxRecDepth 100000
set_option maxHeartbeats 4000000
/-! # DLE: enumerate over a tuple, a starred target, three targets at once -/
namespace DL
open PySem PySem.Spec PyProof.Rows L2
/-! ### enumerate(v) by what iter(v) makes -/
theorem enum1_new {v : Value} {o : Obj} {Hh : Heap → Prop} (Bg : Begins v o Hh) :
    Meets (Builtin.«enumerate.__new__» ⟨[.type "enumerate", v], []⟩) (fun _ R s => Hh s.heap ∧
      R (.ok (.ret (.ref (s.heap.push o).objs.size))) { s with heap := (s.heap.push o).push { cls := .type "enumerate", data := .fields #[.none, .bool false, .ref s.heap.objs.size, rawInt 0, .none, .none] } }) :=
  .of_wp fun prog w A R s z => by
    obtain ⟨hp, g, d, tk, os⟩ := s
    obtain ⟨z1, z⟩ := z
    have hsub := sub_enumerate
    have q1 : ∀ {A' : Around} {E : Value → Shared → Prop} {Q : Value → Shared → Prop}, Q (.ref hp.objs.size) ⟨hp.push o, g, d, tk, os⟩ → wpAny (model prog w) A' (pyIter v) Q E ⟨hp, g, d, tk, os⟩ :=
      fun y => Bg.iter prog w _ _ ⟨hp, g, d, tk, os⟩ _ z1 y
    wp_walk using q1
    refine wpAny_stack_any fun st => wpAny_pure ?_
    split
    · rename_i c _ _ _ _ _
      cases (c == Value.type "enumerate")
      · wp_walk using q1
        exact ⟨_, rfl, z⟩
      · wp_walk using q1
        exact ⟨_, rfl, z⟩
    · wp_walk using q1
      exact ⟨_, rfl, z⟩
theorem enum1 {prog : Program} {w : World} {A : Around} {E : Value → Shared → Prop} {s : Shared} {v : Value} {o : Obj} {Hh : Heap → Prop} {Q : Value → Shared → Prop} (Bg : Begins v o Hh) (h1 : Hh s.heap)
    (h : ∀ h', IsEnum h' (s.heap.objs.size + 1) s.heap.objs.size 0 .none → h'.get? s.heap.objs.size = some o → (∀ b u, s.heap.get? b = some u → h'.get? b = some u) → Q (.ref (s.heap.objs.size + 1)) { s with heap := h' }) :
    wpAny (model prog w) A (call (.type "enumerate") [v]) Q E s := by
  refine callType_new F.called_enumerate (by decide) (F.typeCall_enumerate_1 _) (F.newCall_enumerate_1 _) (fun obj => F.args_object_init_2 obj _) F.entry_enumerate_new (enum1_new Bg) ⟨h1, ?_⟩
  have sz : (s.heap.push o).objs.size = s.heap.objs.size + 1 := Heap.size_push ..
  show _ ∧ _
  rw [sz]
  have en : IsEnum ((s.heap.push o).push { cls := .type "enumerate", data := .fields #[.none, .bool false, .ref s.heap.objs.size, rawInt 0, .none, .none] }) (s.heap.objs.size + 1) s.heap.objs.size 0 .none := by
    have y := Heap.get?_push_size (s.heap.push o) (o := { cls := .type "enumerate", data := .fields #[.none, .bool false, .ref s.heap.objs.size, rawInt 0, .none, .none] }) rfl
    rw [sz] at y
    exact y
  exact ⟨⟨_, en, rfl⟩, h _ en (Heap.get?_push_of_some _ (Heap.get?_push_size _ Bg.free)) fun b u x => Heap.get?_push_of_some _ (Heap.get?_push_of_some _ x)⟩
/-- the tuple at a, each item in a new pair -/
def IteT (K : Frag) (a : Addr) : It :=
  ⟨fun i H => ∃ (xs : List V) (x : V), SqT K H a xs ∧ xs[i]? = some x, fun i H v H' => ∃ T x, v = .ref T ∧ H T = none ∧ H' = upd H T (.tup [.int (i : Nat), x]) ∧ ∀ xs, SqT K H a xs → xs[i]? = some x, fun i H => ∃ xs : List V, SqT K H a xs ∧ xs.length = i⟩
theorem turn_enumT {P : Program} {w : World} {K : Frag} {elts : List Expr} {kk : Nat} {tpos : Pos} (a e it : Addr) (hai : a ≠ it) (hae : a ≠ e) :
    Turn P w K (.Tuple elts kk tpos) (IteT K a) [e, it] e (fun i h => (∃ old, IsEnum h e it ((i : Nat) : Int) old) ∧ h.IsTupleIter it a i ∧ e ≠ it) where
  mem := by simp
  obj := fun i h st b hb => by
    obtain ⟨⟨old, he⟩, ⟨o, ho, hc, hd⟩, _⟩ := st
    have e' : b = e ∨ b = it := by simpa using hb
    rcases e' with z | z
    · rw [z]; exact ⟨_, he, fun v q => nomatch q⟩
    · rw [z]; exact ⟨o, ho, fun v q => by rw [hd] at q; cases q⟩
  keep := fun i h h' st k => let ⟨⟨old, he⟩, hi, hne⟩ := st; ⟨⟨old, k e (by simp) _ he⟩, hi.at fun o q => k it (by simp) o q, hne⟩
  item := by
    intro X hP hw hK hc i pins s σ H E I hf st hg
    subst hP hw hK
    obtain ⟨⟨old, he⟩, hit, hne⟩ := st
    obtain ⟨xs, x, hq, hx⟩ := hg
    obtain ⟨its, rv, p, hz⟩ := I.tuple hq
    obtain ⟨u, hu, ru⟩ := rv.get hx
    have l1 : e < s.heap.objs.size := Heap.lt_size he
    have l2 : it < s.heap.objs.size := by obtain ⟨_, q, _⟩ := hit; exact Heap.lt_size q
    have hlt : i < its.toArray.size := by
      have := (List.getElem?_eq_some_iff.mp hu).1
      simpa using this
    have hef : e ∉ [it, a] := by simp [hne, Ne.symm hae]
    refine wpAny_pyNext_enum_itemD (Draws.tuple (A := X.A.in1) (I.ok.hd hc) it a hai its.toArray) he ⟨hit, p⟩ hlt hne hef fun y h' tk hy ho st' hT hsz hk => ?_
    have ey : y = u := by
      have : its[i]? = some y := by simpa using hy
      rw [hu] at this
      exact (Option.some.inj this).symm
    subst ey
    refine ⟨_, rfl, wpAny_letOwnedTupleGo_enum (s := { s with heap := h', toks := tk + 1 }) ho fun h'' he' sb => ?_⟩
    have hT2 : h''.get? s.heap.objs.size = some { cls := .type "tuple", data := .seq #[.int i tk, y] } := (sb.2 _ (Nat.ne_of_gt l1)).trans hT
    have new : ObjOk X.prog X.w (upd H s.heap.objs.size (.tup [.int (i : Nat), x])) h'' s.heap.objs.size (.tup [.int (i : Nat), x]) :=
      ⟨by show 2 ≤ sizeLine; decide, [.int i tk, y], .cons ⟨_, rfl⟩ (.cons ru .nil), ⟨_, hT2, rfl, _, rfl⟩⟩
    have I1 : Inv X pins σ (upd H s.heap.objs.size (.tup [.int (i : Nat), x])) { s with heap := h'', toks := tk + 1 } :=
      I.turnedNew (ch := [e, it]) (fun b ob hb q => (sb.2 b (fun z => hb (by simp [z]))).trans (hk b ob (fun z => hb (by simp [z])) (fun z => hb (by simp [z])) q)) hf (Nat.le_refl _) new
    refine ⟨.ref s.heap.objs.size, _, I1, rfl, ⟨_, x, rfl, I.hok.fresh (Nat.le_refl _), rfl, fun ys hy => by rw [I.tuple_inj hy hq]; exact hx⟩, ⟨⟨y, ?_⟩, st'.1.at fun o q => (sb.2 it (Ne.symm hne)).trans q, hne⟩, fun b hb => ?_⟩
    · have e1 : ((i + 1 : Nat) : Int) = (i : Int) + 1 := by omega
      rw [e1]; exact he'
    · have hb' : b < s.heap.objs.size := by
        have e' : b = e ∨ b = it := by simpa using hb
        rcases e' with z | z
        · rw [z]; exact l1
        · rw [z]; exact l2
      rw [upd_ne (Nat.ne_of_lt hb')]
      exact (hf b hb).1
  done := by
    intro X hP hw hK hc i pins s σ H E I hf st hg
    subst hP hw hK
    obtain ⟨⟨old, he⟩, hit, hne⟩ := st
    obtain ⟨xs, hq, hx⟩ := hg
    obtain ⟨its, rv, p, hz⟩ := I.tuple hq
    obtain ⟨f0, f1, f2, f3, f4, f5⟩ := hf it (by simp)
    have hl := rv.length
    have hi : i = its.toArray.size := by rw [List.size_toArray, ← hl, hx]
    subst hi
    exact wpAny_pyNext_enum_endD (Draws.tuple (A := X.A.in1) (I.ok.hd hc) it a hai its.toArray) he ⟨hit, p⟩ fun h' eb => ⟨rfl, I.turned (t' := s.toks) (fun b o hb q => eb b o hb q) f0 f1 f3 f4 f5⟩
  self := fun A i s Q E st h => let ⟨⟨_, he⟩, _⟩ := st; wpAny_pyIter_enum he h
/-- enumerate(x), x a list or a tuple -/
def iEnumS (K : Frag) (ta : TA) : TI := fun σ H R => ta σ H fun vs H1 => ∃ a, vs = [.ref a] ∧ (((∃ xs, SqL K H1 a xs) ∧ R (Ite K a) H1) ∨ ((∃ xs, SqT K H1 a xs) ∧ R (IteT K a) H1))
section
variable {X : Cx} {B : Bd} {k : Nat} {wx : DW}
theorem pi_enumS {e : Expr} {ta : TA} {p pos tpos : Pos} {elts : List Expr} {kk : Nat} (hg : Gl X "enumerate") (hm : X.mg "enumerate" = none) (ha : PA X [e] ta) (hs : starEach [e] X.env = [(false, eval e X.env)] := by rfl) :
    PI X (.Tuple elts kk tpos) (.Call (.Name "enumerate" p) [e] [] pos) (iEnumS X.K ta) := by
  refine ⟨fun pins s σ H R I h => ?_⟩
  refine Call_ (ld_blt I hg hm boot_enumerate (PyProof.Rows.callWith_type1 (thn (ha.run pos pins s σ H _ I h) fun us s1 ⟨vs, H1, I1, r1, q1⟩ => ?_) hs rfl))
  obtain ⟨a, ex, q1⟩ := q1
  subst ex
  cases r1 with
  | cons r rr =>
    cases rr
    cases r
    have fps : ∀ b ∈ [s1.heap.objs.size + 1, s1.heap.objs.size], FpOk X pins H1 b := fun b hb => by
      have e' : b = s1.heap.objs.size + 1 ∨ b = s1.heap.objs.size := by simpa using hb
      have hle : s1.heap.objs.size ≤ b := by
        rcases e' with z | z
        · rw [z]; exact Nat.le_add_right _ _
        · rw [z]; exact Nat.le_refl _
      exact I1.fpOk hle (I1.hok.fresh hle)
    rcases q1 with ⟨⟨xs, hq⟩, q⟩ | ⟨⟨xs, hq⟩, q⟩
    · obtain ⟨its, rv, p', hz⟩ := I1.list hq
      refine call_enumerate_list p'.isList fun h' he hit hsz hk => wpAny_pyIter_enum he ?_
      exact ⟨s1.heap.objs.size + 1, [s1.heap.objs.size + 1, s1.heap.objs.size], _, _, H1, rfl, I1.kept (t' := s1.toks) hk, turn_enum a (s1.heap.objs.size + 1) s1.heap.objs.size, ⟨⟨.none, he⟩, hit, Nat.succ_ne_self _⟩, fps, q⟩
    · obtain ⟨its, rv, p', hz⟩ := I1.tuple hq
      have hal : a < s1.heap.objs.size := by obtain ⟨_, y, _⟩ := p'; exact Heap.lt_size y
      refine enum1 (begins_tuple a its.toArray) p' fun h' he hit hk => wpAny_pyIter_enum he ?_
      exact ⟨s1.heap.objs.size + 1, [s1.heap.objs.size + 1, s1.heap.objs.size], _, _, H1, rfl, I1.kept (t' := s1.toks) hk, turn_enumT a (s1.heap.objs.size + 1) s1.heap.objs.size (Nat.ne_of_lt hal) (Nat.ne_of_lt (Nat.lt_succ_of_lt hal)), ⟨⟨.none, he⟩, ⟨_, hit, rfl, rfl⟩, Nat.succ_ne_self _⟩, fps, q⟩
/-- the pairs -/
def enumD (ds : List D) : List D := (List.range ds.length).zipWith (fun i d => D.tup [.int (i : Nat), d]) ds
theorem enumD_get (ds : List D) (i : Nat) : (enumD ds)[i]? = (ds[i]?).map fun d => D.tup [.int (i : Nat), d] := by
  unfold enumD
  rw [List.getElem?_zipWith]
  by_cases h : i < ds.length
  · rw [List.getElem?_range h]
    cases ds[i]? <;> rfl
  · have h' : ds[i]? = none := List.getElem?_eq_none (Nat.le_of_not_lt h)
    rw [h']
    cases (List.range ds.length)[i]? <;> rfl
theorem enumD_len (ds : List D) : (enumD ds).length = ds.length := by simp [enumD]
def diEnum (ta : DTE) : DTI := fun env O q => ta env O fun d O1 => match d with
  | .tup ds => q (enumD ds) (fun _ => True) O1
  | d => ∃ ds, asL O1 d = some ds ∧ q (enumD ds) (gdL O1 d) O1
theorem di_enum {e : Expr} {te : DTE} {p pos tpos : Pos} {elts : List Expr} {kk : Nat} (S : Site X B k wx) (hg : Gl X "enumerate") (hm : X.mg "enumerate" = none) (h : PE X e (lift B te)) (hs : starEach [e] X.env = [(false, eval e X.env)] := by rfl) :
    PI X (.Tuple elts kk tpos) (.Call (.Name "enumerate" p) [e] [] pos) (liftI B (diEnum te)) := PI.weak (pi_enumS hg hm (da_cons h da_nil hs) hs) fun σ H R hh => by
  have hK := S.hK
  obtain ⟨env, O, F, q, R0, hh, kk⟩ := hh
  refine ⟨env, O, F, fun ds O1 => match ds with
    | [d] => (match d with
      | .tup ds => q (enumD ds) (fun _ => True) O1
      | d => ∃ ds, asL O1 d = some ds ∧ q (enumD ds) (gdL O1 d) O1)
    | _ => False, R0, hh, fun ds vs O1 H1 F1 a1 r1 h1 => ?_⟩
  have laid : ∀ (O2 : Ow) (H2 F2 : Hp) (T : Addr) (i : Nat) (d : D) (x : V), Same F2 H2 → OwOk B.K O2 H2 F2 → H2 T = none → RV B.K F2 d x →
      ∃ F3, After B.K O2 H2 F2 O2 (upd H2 T (.tup [.int (i : Nat), x])) F3 ∧ RV B.K F3 (.tup [.int (i : Nat), d]) (.ref T) := fun O2 H2 F2 T i d x fh ow hT r => by
    have R2 : Rel ⟨B.K, O2, H2, F2⟩ [] O2 [] H2 F2 := ⟨.rfl' fh ow, rfl, fun j d e => by cases e⟩
    have a := R2.froz hT (.tup [.int (i : Nat), x])
    exact ⟨_, a, .tup (SqT.of upd_same) (.cons (.int _) (.cons (r.mono a.ff) .nil))⟩
  match ds, r1, h1 with
  | [d], r1, h1 =>
    obtain ⟨v, rfl, rd⟩ := r1.one
    have hL : (∃ ds, asL O1 d = some ds ∧ q (enumD ds) (gdL O1 d) O1) → ∃ a, [v] = [V.ref a] ∧ (((∃ xs, SqL X.K H1 a xs) ∧ R (Ite X.K a) H1) ∨ ((∃ xs, SqT X.K H1 a xs) ∧ R (IteT X.K a) H1)) := by
      rintro ⟨ds, e, h1⟩
      obtain ⟨a, xs, rfl, hs, hr⟩ := asL_sq a1.fh a1.ow rd e
      refine ⟨a, rfl, .inl ⟨⟨xs, by rw [hK]; exact hs⟩, kk _ _ O1 H1 F1 _ a1 ?_ h1⟩⟩
      intro O2 H2 F2 i s2 fh2 ow2 gd
      obtain ⟨a', ys, e', hs', hr'⟩ := asL_sq fh2 ow2 (rd.mono s2) (asL_gd e gd)
      cases e'
      rw [hK]
      refine ⟨fun x hx => ?_, fun hi => ⟨ys, hs', by rw [hi, enumD_len, hr'.length]; exact Nat.le_refl _⟩⟩
      rw [enumD_get] at hx
      cases hd : ds[i]? with
      | none => rw [hd] at hx; cases hx
      | some d' =>
        rw [hd] at hx
        cases hx
        obtain ⟨v', e1, r'⟩ := hr'.get hd
        refine ⟨⟨ys, v', hs', e1⟩, fun v H3 hy => ?_⟩
        obtain ⟨T, x, rfl, hT, rfl, hy⟩ := hy
        obtain rfl : x = v' := Option.some.inj ((hy ys hs').symm.trans e1)
        exact laid O2 H2 F2 T i d' x fh2 ow2 hT r'
    cases d <;> simp only at h1 <;> try exact hL h1
    rename_i ds0
    cases rd with
    | @tup a xs _ hs hr =>
      refine ⟨a, rfl, .inr ⟨⟨xs, by rw [hK]; exact same_tup a1.fh hs⟩, kk _ _ O1 H1 F1 _ a1 ?_ h1⟩⟩
      intro O2 H2 F2 i s2 fh2 ow2 _
      have hs' : SqT B.K H2 a xs := same_tup (s2.trans fh2) hs
      rw [hK]
      refine ⟨fun x hx => ?_, fun hi => ⟨xs, hs', by rw [hi, enumD_len, hr.length]⟩⟩
      rw [enumD_get] at hx
      cases hd : ds0[i]? with
      | none => rw [hd] at hx; cases hx
      | some d' =>
        rw [hd] at hx
        cases hx
        obtain ⟨v', e1, r'⟩ := hr.get hd
        refine ⟨⟨xs, v', hs', e1⟩, fun v H3 hy => ?_⟩
        obtain ⟨T, x, rfl, hT, rfl, hy⟩ := hy
        obtain rfl : x = v' := Option.some.inj ((hy xs hs').symm.trans e1)
        exact laid O2 H2 F2 T i d' x fh2 ow2 hT (r'.mono s2)
/-! ### a, *b = a tuple -/
theorem unpack_star {prog : Program} {w : World} {A : Around} {E : Value → Shared → Prop} {s : Shared} {l : Addr} {u : Value} {us : List Value} {Q : List Value → Shared → Prop} (hl : IsTup s.heap l (u :: us).toArray) (hh : A.handled = none) (hz : us.length < 16384)
    (h : ∀ (h' : Heap) tk, (∀ b o, s.heap.get? b = some o → h'.get? b = some o) → Q [u, .ref h'.objs.size] { s with heap := h'.push { cls := .type "list", data := .seq us.toArray }, toks := tk }) :
    wpAny (model prog w) A (unpackItems (.ref l) 2 (some 1)) Q E s := by
  have n1 : l ≠ s.heap.objs.size := by obtain ⟨o, ho, _⟩ := hl; exact Nat.ne_of_lt (Heap.lt_size ho)
  unfold unpackItems
  refine wpAny_bind ?_
  unfold notIterableAtAll
  refine wpAny_bind (wpAny_specialOf hl.typeIs slot_tuple_iter.lookup ?_)
  refine wpAny_pure ?_
  simp only [Bool.false_eq_true, if_false]
  refine wpAny_bind (wpAny_holding (iter_tuple hl ?_))
  refine wpAny_bind (wpAny_holding (draw_tuple n1 1 0 _ _ ⟨_, Heap.get?_push_size _ rfl, rfl, rfl⟩ (hl.push _) (by simp) fun h1 t1 b1 => ?_))
  have l1 : IsTup h1 l (u :: us).toArray := (hl.push _).extBut b1.extBut n1
  rw [Nat.zero_add] at t1
  have t1' := t1
  obtain ⟨oi, hoi, _⟩ := t1'
  have l1' := l1
  obtain ⟨ol, hol, _⟩ := l1'
  have e1 : ((u :: us).toArray.toList.drop 0).take 1 = [u] := rfl
  rw [e1]
  rw [if_neg (show ¬ ([u].length < 1) from Nat.lt_irrefl 1)]
  refine wpAny_bind (wpAny_holding (PySem.W.kun_collect (s := { s with heap := h1 }) (T := "tuple_iterator") (.inr (.inr (.inr rfl))) (Walks.tuple (A := A.in1) hh s.heap.objs.size l n1 (u :: us).toArray) (fun j u st => st.1.typeIs) (k := 1) (by simp) ⟨t1, l1⟩ (Heap.lt_size hoi) (Heap.lt_size hol) (fun h2 tk hk => ?_) (by rw [sizeLine_eq]; simp; omega)))
  have e2 : (u :: us).toArray.toList.drop 1 = us := rfl
  rw [e2]
  have e3 : ¬ (us.length < 2 - 1 - 1) := by omega
  simp only [e3, if_false]
  have e4 : us.length - (2 - 1 - 1) = us.length := by omega
  rw [e4, List.take_length, List.drop_length]
  have keep : ∀ b o, s.heap.get? b = some o → h2.get? b = some o := fun b o e => hk b o (Nat.ne_of_lt (Heap.lt_size e)) (b1.extBut b o (Nat.ne_of_lt (Heap.lt_size e)) (Heap.get?_push_of_some _ e))
  refine wpAny_bind (wpAny_newList ?_ (by rw [sizeLine_eq]; omega))
  refine wpAny_pure ?_
  exact h h2 tk keep
/-- a, *b = .. -/
def gStar (K : Frag) (t1 t2 : TG) : TG := fun v σ H Q => ∃ a x xs, v = .ref a ∧ SqT K H a (x :: xs) ∧ xs.length < 16384 ∧ t1 x σ H fun σ1 H1 => ∀ p, H1 p = none → t2 (.ref p) σ1 (upd H1 p (.lst xs)) Q
theorem pg_star {e1 e2 : Expr} {pos p2 : Pos} {kk : Nat} {i j : Nat} (hc : X.calm = true) (h1 : PG X e1 (gName i)) (h2 : PG X e2 (gName j))
    (ha : assignEach [e1, .Starred e2 p2] X.env = [(false, assign e1 X.env), (true, assign e2 X.env)] := by rfl) : PG X (.Tuple [e1, .Starred e2 p2] kk pos)
    (fun v σ H Q => ∃ a x xs, v = .ref a ∧ SqT X.K H a (x :: xs) ∧ xs.length < 16384 ∧ ∀ p, H p = none → Q ((σ.set i (some x)).set j (some (.ref p))) (upd H p (.lst xs))) := by
  refine ⟨fun pins s σ H v u Q I r hw => ?_⟩
  obtain ⟨a, x, xs, rfl, hq, hl, hw⟩ := hw
  cases r
  obtain ⟨its, rv, ht, hz⟩ := I.tuple hq
  cases rv with
  | @cons _ u _ us ru rus =>
    rw [assign_Tuple, ha]
    refine wpAny_bind (wpAny_standAt ?_)
    unfold unpack
    refine wpAny_bind (wpAny_holding (unpack_star ht (I.ok.hd hc) (by rw [← rus.length]; exact hl) fun h' tk keep => ?_))
    have I1 : Inv X pins σ H { s with heap := h', toks := tk } := I.kept (t' := tk) keep
    have hf : H h'.objs.size = none := I1.hok.fresh (Nat.le_refl _)
    have I2 : Inv X pins σ (upd H h'.objs.size (.lst xs)) { s with heap := h'.push { cls := .type "list", data := .seq us.toArray }, toks := tk } :=
      I1.laid (t' := tk) (fun b o e => Heap.get?_push_of_some _ e) (Nat.le_refl _) ⟨by have := hl; rw [sizeLine_eq]; omega, us, 0, rus, Heap.get?_push_size _ rfl⟩
    refine assignInOrder_cons (thn (h1.run pins _ σ _ _ _ (fun σ1 H1 => Q (σ1.set j (some (.ref h'.objs.size))) H1) I2 ru (hw _ hf)) fun _ s1 ⟨σ1, H1, I3, q1⟩ => ?_)
    refine assignInOrder_cons (thn (h2.run pins s1 σ1 H1 (.ref h'.objs.size) (.ref h'.objs.size) Q I3 rfl q1) fun _ s2 z => ?_)
    exact assignInOrder_nil z
/-- the rest is a list of one's own -/
def dgStar (i j : Nat) : DTG := fun d env O q => match d with
  | .tup (x :: xs) => xs.length < 16384 ∧ q ((env.set i (some x)).set j (some (.lst xs))) O
  | _ => False
theorem dg_star {e1 e2 : Expr} {pos p2 : Pos} {kk : Nat} {i j : Nat} (S : Site X B k wx) (hc : X.calm = true) (h1 : PG X e1 (gName i)) (h2 : PG X e2 (gName j))
    (ha : assignEach [e1, .Starred e2 p2] X.env = [(false, assign e1 X.env), (true, assign e2 X.env)] := by rfl) : PG X (.Tuple [e1, .Starred e2 p2] kk pos) (liftG B (dgStar i j)) := PG.weak (pg_star hc h1 h2 ha) fun v σ H Q h => by
  obtain ⟨d, env, O, F, q, R, r, h, kk⟩ := h
  cases d <;> try exact h.elim
  rename_i ds
  cases ds with
  | nil => exact h.elim
  | cons x xs =>
    cases r with
    | tup hs hr =>
      cases hr with
      | cons rx rxs =>
        refine ⟨_, _, _, rfl, by rw [S.hK]; exact same_tup R.fh hs, rxs.length ▸ h.1, fun p hp => ?_⟩
        rename_i vs
        have a1 := R.froz hp (.lst vs)
        exact kk _ O _ _ _ a1 (((R.sl.mono a1.ff).setv (rx.mono a1.ff)).setv (.lst (SqL.of upd_same) (rxs.mono a1.ff))) h.2
/-! ### a, b, c = x, y, z -/
def dPar3 (i j l : Nat) (ta : DTA) : DTS := fun E env O => ta env O fun ds O1 => match ds with | [d, e, f] => E.nx (((env.set i (some d)).set j (some e)).set l (some f)) O1 | _ => False
theorem ds_par3 {st : Stmt} {i j l : Nat} {ta : DTA} (h : PS X st (tPar3 i j l (liftA B ta))) : PS X st (liftS B (dPar3 i j l ta)) := PS.weak h fun E σ H h => by
  obtain ⟨env, O, F, d, R, h, m⟩ := h
  refine ⟨env, O, F, _, R, h, fun ds vs O1 H1 F1 a1 r1 h1 => ?_⟩
  match ds, r1, h1 with
  | [a, b, c], r1, h1 =>
    cases r1 with
    | cons ra rb =>
      obtain ⟨v, w, rfl, r1, r2⟩ := rb.two
      exact ⟨_, v, w, rfl, m.nx _ O1 _ H1 F1 a1 ((((R.sl.mono a1.ff).setv ra).setv r1).setv r2) h1⟩
end
end DL

set_option Elab.async false
set_option linter.all false
set_option maxRecDepth 100000
set_option maxHeartbeats 4000000
/-! # DLF: calls by keywords alone, constants of a class, a small written dict, getters, the head's hook -/
namespace DL
open PySem PySem.Spec PyProof.Rows L2
open ClX (CRead CVal pe_cval tCVal)
section
variable {X : Cx} {B : Bd} {pos : Pos} {k n : Nat} {wx : DW}
/-! ### f(k = v, ..) -/
def dCallK0 (fn : DF) (n l : Nat) (w : DW) (gD : List D → List D) (tb : DTA) : DTE := fun env O q => tb env O fun es O1 => es.length = l ∧ (gD es).length = n ∧ fn (gD es) O1 q fun c fs O' => w c fs env O'
theorem de_callK0 {x : Str} {p : Pos} {f : Addr} {fd : FuncData} {ps : List Str} {fn : DF} {w : DW} {tb : DTA} {ks : List Str} {kws : List Keyword} {g : List Value → List Value → List Value} {gV : List V → List V → List V} {gD : List D → List D}
    (Fn : FnG X.prog X.w X.K X.mg X.base (L2.CX X.prog X.w) k f fd ps (spD B.K n fn)) (hgd : X.A.guards = some []) (hr : Room k X.A) (hg : Gl X x) (hm : X.mg x = some (.ref f)) (hk : PySem.W.keepIn X.K (.ref f) = true)
    (hb : KBn X.K fd ps 0 ks g gV) (hgD : ∀ F es zs, RVs B.K F es zs → RVs B.K F (gD es) (gV [] zs)) (tk : TakesD X B w) (hkw : PK X kws (liftA B tb))
    (hall : (backToKw pos (keywordEach kws X.env)).all (·.1.isSome) = true := by rfl) (hks : (backToKw pos (keywordEach kws X.env)).filterMap (·.1) = ks := by rfl)
    (hdb : (x == ("__debug__" : Str)) = false := by decide) (hpl : ((backTo pos (starEach [] X.env)).any (·.1) || (backToKw pos (keywordEach kws X.env)).any (·.1.isNone)) = false := by rfl) :
    PE X (.Call (.Name x p) [] kws pos) (lift B (dCallK0 fn n ks.length w gD tb)) := by
  refine ⟨fun pins s σ H Q I h => wpAny_Call_Name_kw (ld_glob I hg hm ?_ hdb)⟩
  obtain ⟨env, O, F0, q, R, h, kk⟩ := h
  refine PySem.W.callWith_KW0 (h₀ := X.base) I.ok.mod.kin hk hall (thn (hkw.run pos pins s σ H (fun zs H1 => zs.length = ks.length ∧ spD B.K n fn (gV [] zs) H1 Q (fun c d H' => liftX B w c d σ H')) I ⟨env, O, F0, _, R, h, ?_⟩) fun ws s2 ⟨zs, H2, I2, rz, l2, hz⟩ => ⟨I2.kIn, ?_⟩) hpl
  · intro es zs O1 H1 F1 a1 r1 q1
    exact ⟨r1.length ▸ q1.1, sp_of (R.call a1) (hgD F1 _ _ r1) q1.2.1 q1.2.2 fun d v O' H' F' a' r' hq => kk d v O' H' F' (a1.trans a') r' hq⟩
  · rw [hks]
    exact run_GK Fn hgd hr hb tk I2 .nil rz rfl (rz.length ▸ l2) hz
theorem i_callK0 {fn : DF} {l : Nat} {w : DW} {gD : List D → List D} {tb : DTA} {env : Env} {O : Ow} {q : DQ} (h : tb env O fun es O1 => es.length = l ∧ (gD es).length = n ∧ fn (gD es) O1 q fun c fs O' => w c fs env O') : dCallK0 fn n l w gD tb env O q := h
/-! ### C.f, a constant of the class -/
theorem so_cval {C : Addr} {mc : Value} {f : Str} {v : V} {u : Value} {d : D} {e : Expr} (cr : CRead X.K C mc) (cv : CVal X.K C mc f v u) (he : PE X e (tC (.ref C))) (r : ∀ F, RV B.K F d v) (hb : attributeBase e f X.env (eval e X.env) = eval e X.env := by rfl) : PE X (.Attribute e f pos) (lift B (dC d)) :=
  de_con (PE.weak (pe_cval he hb) fun σ H Q h => ⟨C, mc, v, u, rfl, cr, cv, h⟩) r
/-! ### {'a': i, 'b': j}[e] -/
def dDsp2 (x y : Str) (i j : Int) (te : DTE) : DTE := fun env O q => te env O fun d O1 => match d with
  | .str z => (z = x ∧ x ≠ y ∧ q (.int i) O1) ∨ (z = y ∧ x ≠ y ∧ q (.int j) O1)
  | _ => False
theorem so_dsp2 {x y : Str} {i j : Int} {e : Expr} {te : DTE} {k1 k2 k3 k4 : Nat} {p1 p2 p3 p4 p5 : Pos} (S : Site X B k wx) (he : PE X e (lift B te)) (hs : NoSl e := by intro _ _; rfl) :
    PE X (.Subscript (.Dict [some (.Constant (.str x) k1 p1), some (.Constant (.str y) k2 p2)] [.Constant (.int i) k3 p3, .Constant (.int j) k4 p4] p5) e pos) (lift B (dDsp2 x y i j te)) := by
  have hd : PE X (.Dict [some (.Constant (.str x) k1 p1), some (.Constant (.str y) k2 p2)] [.Constant (.int i) k3 p3, .Constant (.int j) k4 p4] p5) (tDisp [(tC (.str x), tC (.int i)), (tC (.str y), tC (.int j))]) :=
    pe_disp (pps_cons pe_str pe_int (pps_cons pe_str pe_int pps_nil)) rfl rfl (by simp) (show 2 ≤ 15 by decide)
  have hu : X.A.units + 1 < cLine := by have := S.rm.un; omega
  refine PE.weak (pe_dget hu hd he hs) fun σ H Q h => ?_
  obtain ⟨env, O, F, q, R, h, kk⟩ := h
  intro p hp
  refine ⟨upd_same, [(.inr x, .int i), (.inr y, .int j)], rfl, (by decide : (2 : Nat) ≤ 15), ?_⟩
  rw [upd_upd]
  have a1 := R.junk hp (.dK (mergeK [] [(.inr x, .int i), (.inr y, .int j)]))
  refine ⟨env, O, F, _, R.call a1, h, fun d v O1 H1 F1 a2 r2 h2 => ?_⟩
  cases d <;> try exact h2.elim
  rename_i z
  cases r2
  have hp1 : O p = none := (R.free hp).1
  have e1 : H1 p = some (.dK (mergeK [] [(.inr x, .int i), (.inr y, .int j)])) := a2.kp p _ upd_same hp1
  rcases h2 with ⟨rfl, hne, h2⟩ | ⟨rfl, hne, h2⟩
  · refine ⟨p, .int i, rfl, ?_, kk _ _ O1 H1 F1 (a1.trans a2) (.int i) h2⟩
    have g := DGet.k (k := .inr z) e1
    have ev : valV (mergeK [] [((.inr z : Key), V.int i), (.inr y, .int j)]) (.inr z) = some (.int i) := by
      simp [mergeK, putK, valV, hne]
    rw [ev] at g
    exact g
  · refine ⟨p, .int j, rfl, ?_, kk _ _ O1 H1 F1 (a1.trans a2) (.int j) h2⟩
    have g := DGet.k (k := .inr z) e1
    have ev : valV (mergeK [] [((.inr x : Key), V.int i), (.inr z, .int j)]) (.inr z) = some (.int j) := by
      simp [mergeK, putK, valV, hne]
    rw [ev] at g
    exact g
end
/-! ### a getter -/
theorem ok_getter {P : Program} {w : World} {K : Frag} {mg : Str → Option Value} {base : Heap} {C g : Addr} {x qual f : Str} {params : Arguments} {body : List Stmt} {scope : Scope} {fd : FuncData} {p1 p2 p3 : Pos}
    (Fn : FunD K x qual params body scope [] [] g fd) (S : FnScope ["self"] ["self"] scope) (hb : body = [.Return (some (.Attribute (.Name "self" p1) f p2)) p3]) (c : Cls K C) (n : NoAttr K C f) : FnOk P w K mg base CX0 1 g fd ["self"] (getSp C f) := by
  obtain ⟨oc, od, dV, kV, doc, pm, an, cdv, ct, osl, rfl, lk, hcd, _, _⟩ := Fn.ex
  exact fn_getter lk hcd S rfl hb c n
/-! ### the head's hook -/
structure DefX where
  adr : Frag → Addr
  d : He.DefD
def fnX (K : Frag) (a : Addr) : He.FnW := match K.lookup a with
  | some ⟨_, _, .func fd, _⟩ => some (fd.name, fd.qualname, fd.params, fd.body, fd.scope, fd.globals, fd.closure, fd.builtins)
  | _ => none
def DefX.ok (K : Frag) (z : DefX) : Bool := PySem.W.keepIn K (.ref (z.adr K)) && (match K.lookup (z.adr K) with
  | some ⟨_, _, .func fd, _⟩ => PySem.W.codeIn K fd.code z.d.qual && (He.dflB K fd.defaults (z.d.dvs K) && He.kwdB K fd.kwdefaults (z.d.kws K))
  | _ => false)
theorem DefX.funD {K : Frag} {z : DefX} (e : fnX K (z.adr K) = z.d.val) (c : z.ok K = true) : ∃ fd, FunD K z.d.name z.d.qual z.d.params z.d.body z.d.scope (z.d.dvs K) (z.d.kws K) (z.adr K) fd := by
  obtain ⟨kp, c2⟩ := Bool.and_eq_true_iff.mp c
  unfold fnX at e
  cases lk : K.lookup (z.adr K) with
  | none => rw [lk] at c2; cases c2
  | some o =>
    obtain ⟨oc, od, dt, osl⟩ := o
    rw [lk] at c2 e
    cases dt with
    | func fd =>
      obtain ⟨m1, m2, m3, m4, m5, m6, m7, m8, m9, m10, m11, m12, m13, m14, m15⟩ := fd
      have e2 : (some (m1, m2, m3, m4, m5, m6, m7, m15) : He.FnW) = some (z.d.name, z.d.qual, z.d.params, .stmts z.d.body, z.d.scope, mainGlobals, [], builtinsNs) := e
      simp only [Option.some.injEq, Prod.mk.injEq] at e2
      obtain ⟨y1, y2, y3, y4, y5, y6, y7, y8⟩ := e2
      subst y1 y2 y3 y4 y5 y6 y7 y8
      obtain ⟨x1, x2⟩ := Bool.and_eq_true_iff.mp (show (PySem.W.codeIn K m13 z.d.qual && (He.dflB K m8 (z.d.dvs K) && He.kwdB K m9 (z.d.kws K))) = true from c2)
      obtain ⟨x3, x4⟩ := Bool.and_eq_true_iff.mp x2
      exact ⟨_, ⟨oc, od, m8, m9, m10, m11, m12, m13, m14, osl, rfl, lk, x1, He.dflB_ok x3, He.kwdB_ok x4⟩, kp⟩
    | _ => cases c2
abbrev Fac := Frag → Bool
def asX (st : List Addr) (g : Addr → Option Obj) : Nat → List Addr
  | 0 => st
  | n + 1 => He.growD g (asX st g n)
def obsX (fa : List Fac) (fn : List DefX) (K : Frag) : He.AlD := ((fa.all fun f => f K) && fn.all fun z => z.ok K, fn.map fun z => fnX K (z.adr K))
def valX (fn : List DefX) : He.AlD := (true, fn.map fun z => z.d.val)
def SaysX (fa : List Fac) (fn : List DefX) (K : Frag) : Prop := obsX fa fn K = valX fn
def obsXG (st : List Addr) (n : Nat) (fa : List Fac) (fn : List DefX) (g : Addr → Option Obj) : He.AlD := obsX fa fn (He.frG g (asX st g n))
def hookX (st : List Addr) (n : Nat) (fa : List Fac) (fn : List DefX) : PySem.W.Hook where
  α := He.AlD
  obs := fun s => obsXG st n fa fn s.heap.get?
  val := fun _ => valX fn
  says := fun _ h => ∃ K : Frag, K.In h ∧ SaysX fa fn K
  of := fun _ _ e => ⟨_, He.frG_in, e⟩
  keeps := fun _ _ _ ⟨K, hK, c⟩ k => ⟨K, PySem.W.Frag.In.keeps hK k, c⟩
theorem obsXG_eq {st : List Addr} {n : Nat} {fa : List Fac} {fn : List DefX} {g : Addr → Option Obj} {s : Shared} (h : ∀ a, g a = s.heap.get? a) : obsXG st n fa fn g = (hookX st n fa fn).obs s := by
  obtain rfl : g = s.heap.get? := funext h
  rfl
section
variable {fa : List Fac} {fn : List DefX} {K : Frag}
theorem SaysX.both (c : SaysX fa fn K) : (fa.all fun f => f K) = true ∧ (fn.all fun z => z.ok K) = true := Bool.and_eq_true_iff.mp (congrArg (fun z : He.AlD => z.1) c)
theorem SaysX.fact (c : SaysX fa fn K) (i : Nat) {f : Fac} (h : fa[i]? = some f := by rfl) : f K = true := List.all_eq_true.mp c.both.1 f (List.mem_of_getElem? h)
theorem SaysX.def_ (c : SaysX fa fn K) (i : Nat) {z : DefX} (h : fn[i]? = some z := by rfl) : ∃ fd, FunD K z.d.name z.d.qual z.d.params z.d.body z.d.scope (z.d.dvs K) (z.d.kws K) (z.adr K) fd := by
  have e : (fn.map fun z => fnX K (z.adr K)) = fn.map fun z => z.d.val := congrArg (fun z : He.AlD => z.2) c
  have e2 := congrArg (·[i]?) e
  simp only [List.getElem?_map, h, Option.map_some, Option.some.injEq] at e2
  exact DefX.funD e2 (List.all_eq_true.mp c.both.2 z (List.mem_of_getElem? h))
end
/-- the getter of a property -/
def ga2 (K : Frag) (C : Str) (f : Str) : Addr := match PySem.W.recIn K (He.ma K (He.ga K C) f) "property" with
  | some (.ref g :: _) => g
  | _ => 0
def propB (C f : Str) : Fac := fun K => He.eqO (PySem.W.findIn K (.ref (He.ga K C)) f) (some (some (.ref (He.ma K (He.ga K C) f)))) && (He.eqO (PySem.W.specialIn K (.ref (He.ma K (He.ga K C) f)) "__get__") (some (some (.builtin "property.__get__"))) &&
  (decide (PySem.W.takesIn K (.ref (He.ma K (He.ga K C) f)) = some true) && (match PySem.W.recIn K (He.ma K (He.ga K C) f) "property" with
    | some (.ref _ :: _) => true
    | _ => false)))
theorem propB_ok {K : Frag} {C f : Str} (h : propB C f K = true) : PropOf K (He.ga K C) f (He.ma K (He.ga K C) f) (ga2 K C f) := by
  unfold propB at h
  simp only [Bool.and_eq_true, decide_eq_true_eq] at h
  obtain ⟨h1, h2, h3, h4⟩ := h
  refine ⟨He.eqO_ok h1, He.eqO_ok h2, h3, ?_⟩
  unfold ga2
  split at h4
  · rename_i g r e
    exact ⟨r, by rw [e]⟩
  · cases h4
def gloB (x : Str) : Fac := fun K => (He.Fa.glo x).ok K
def freeB (x : Str) : Fac := fun K => (He.Fa.free x).ok K
def strB (x z : Str) : Fac := fun K => (He.Fa.str x z).ok K
def tupX (x : Str) (vs : List He.Dv) : Fac := fun K => He.tupB K x vs
def clsB (x : Str) : Fac := fun K => (He.Fa.cls x).ok K
def noatB (x f : Str) : Fac := fun K => (He.Fa.noat x f).ok K
def mkrB (x : Str) : Fac := fun K => (He.Fa.mkr x).ok K
/-- C.f is the int i -/
def cvalB (C f : Str) (i : Int) : Fac := fun K => PySem.W.readsIn K (He.ga K C) (.type "type") && (He.eqO (PySem.W.specialIn K (.ref (He.ga K C)) "__getattribute__") (some (some (.builtin "type.__getattribute__"))) &&
  (match PySem.W.findCls K (.ref (He.ga K C)) (.type "type") f with
    | some (.val (.int j _)) => decide (j = i)
    | _ => false))
theorem cvalB_ok {K : Frag} {C f : Str} {i : Int} (h : cvalB C f i K = true) : CRead K (He.ga K C) (.type "type") ∧ ∃ u, CVal K (He.ga K C) (.type "type") f (.int i) u := by
  unfold cvalB at h
  simp only [Bool.and_eq_true] at h
  obtain ⟨h1, h2, h3⟩ := h
  refine ⟨⟨h1, He.eqO_ok h2⟩, ?_⟩
  split at h3
  · rename_i j t e
    exact ⟨_, e, ⟨t, by rw [of_decide_eq_true h3]⟩⟩
  · cases h3
end DL

set_option Elab.async false
set_option linter.all false
set_option maxRecDepth 100000
set_option maxHeartbeats 4000000
/-! # DLG: wrappers at a site, steps -/
namespace DL
open PySem PySem.Spec PyProof.Rows L2
section
variable {X : Cx} {B : Bd} {pos p : Pos} {k j n : Nat} {wx : DW} {e : Expr} {es : List Expr} {x : Str} {ps : List Str} {fn : DF} {C f : Addr} {fd : FuncData} {tA : DTA}
theorem so_make (S : Site X B k wx) (M : Mak X.prog X.w X.K X.mg X.base x ps n j fn C f fd) (hj : j + 1 ≤ k) (hb : Binds X.K fd ps []) (hg : Gl X x) (ha : PA X (e :: es) (liftA B tA))
    (hdb : (x == ("__debug__" : Str)) = false := by decide) (he : starEach (e :: es) X.env = (false, eval e X.env) :: starEach es X.env := by rfl) (hpl : (backTo pos (starEach es X.env)).any (·.1) = false := by rfl) :
    PE X (.Call (.Name x p) (e :: es) [] pos) (lift B (dMake C fn n wx [] tA)) :=
  de_make M.cl (S.hK ▸ M.G) S.gd (S.rm.mono hj) hg M.mg hb .nil (fun _ => .nil) S.tk ha hdb he hpl
theorem so_callK0 {ks : List Str} {kws : List Keyword} {g : List Value → List Value → List Value} {gV : List V → List V → List V} {gD : List D → List D} {tB : DTA} (S : Site X B k wx) (Cl : Cal X.prog X.w X.K X.mg X.base x ps n j fn f fd) (hj : j ≤ k)
    (hb : KBn X.K fd ps 0 ks g gV) (hgD : ∀ F es zs, RVs B.K F es zs → RVs B.K F (gD es) (gV [] zs)) (hg : Gl X x) (hkw : PK X kws (liftA B tB))
    (hall : (backToKw pos (keywordEach kws X.env)).all (·.1.isSome) = true := by rfl) (hks : (backToKw pos (keywordEach kws X.env)).filterMap (·.1) = ks := by rfl)
    (hdb : (x == ("__debug__" : Str)) = false := by decide) (hpl : ((backTo pos (starEach [] X.env)).any (·.1) || (backToKw pos (keywordEach kws X.env)).any (·.1.isNone)) = false := by rfl) :
    PE X (.Call (.Name x p) [] kws pos) (lift B (dCallK0 fn n ks.length wx gD tB)) :=
  de_callK0 (S.hK ▸ Cl.G) S.gd (S.rm.mono hj) hg Cl.mg Cl.kp hb hgD S.tk hkw hall hks hdb hpl
/-- a module's constant -/
theorem so_gc {v : V} {d : D} (hg : Gl X x) (h : ∃ u, X.mg x = some u ∧ RelV v u) (r : ∀ F, RV B.K F d v) (hd : (x == ("__debug__" : Str)) = false := by decide) : PE X (.Name x pos) (lift B (dC d)) := by
  obtain ⟨u, hm, ru⟩ := h
  exact de_con (pe_glob hg hm ru hd) r
end
/-! ### steps -/
section
variable {env : Env} {O : Ow} {q : DQ} {E : DEnds} {te : DTE} {ta : DTA}
theorem i_isiT {x : D} {cs : List D} {ns : List String} {a : String} {b : Bool} (e : tyN O x = some a) (e2 : tyNs cs = some ns) (hn : ns.all (["str", "int", "bool", "tuple", "list", "dict"].contains ·) = true) (hb : ns.any (kitT a) = b) (h : q (.bl b) O) : dIsiT [x, .tup cs] O q :=
  ⟨a, ns, e, e2, fun n hm => by simpa using List.all_eq_true.mp hn n hm, hb ▸ h⟩
theorem i_enum {qi : List D → (Ow → Prop) → Ow → Prop} (h : te env O fun d O1 => match d with | .tup ds => qi (enumD ds) (fun _ => True) O1 | d => ∃ ds, asL O1 d = some ds ∧ qi (enumD ds) (gdL O1 d) O1) : diEnum te env O qi := h
theorem i_star {i j : Nat} {x : D} {xs : List D} {qe : Env → Ow → Prop} (hl : xs.length < 16384) (h : qe ((env.set i (some x)).set j (some (.lst xs))) O) : dgStar i j (.tup (x :: xs)) env O qe := ⟨hl, h⟩
theorem i_par3 {i j l : Nat} (h : ta env O fun ds O1 => match ds with | [d, e, f] => E.nx (((env.set i (some d)).set j (some e)).set l (some f)) O1 | _ => False) : dPar3 i j l ta E env O := h
theorem i_dsp2 {x y : Str} {i j : Int} (h : te env O fun d O1 => match d with | .str z => (z = x ∧ x ≠ y ∧ q (.int i) O1) ∨ (z = y ∧ x ≠ y ∧ q (.int j) O1) | _ => False) : dDsp2 x y i j te env O q := h
/-- while: an invariant and a measure -/
theorem wh_inv {c : DTT} {tb : DTS} (P : Nat → Env → Ow → Prop) (m : Nat) (h0 : P m env O)
    (hs : ∀ (m : Nat) (N : Env → Ow → Prop) (env : Env) (O : Ow), P m env O → (∀ e o o2 m', m' < m → SubO o2 o → P m' e o2 → N e o) →
      c env O fun b O1 => if b = true then tb { nx := N, rt := E.rt, bk := E.nx, ct := N } env O1 else E.nx env O1) : dWhile c tb E env O := by
  suffices h : ∀ (l m : Nat) (env : Env) (O : Ow), m < l → P m env O → whGo c tb E l env O from ⟨m + 1, h (m + 1) m env O (Nat.lt_succ_self _) h0⟩
  intro l
  induction l with
  | zero => intro m env O h _; exact absurd h (Nat.not_lt_zero _)
  | succ l ih =>
    intro m env O hm hp
    exact hs m _ env O hp fun e o o2 m' h1 sb h2 => ⟨o2, sb, ih m' e o2 (by omega) h2⟩
end
end DL

set_option Elab.async false
set_option linter.all false
set_option maxRecDepth 100000
set_option maxHeartbeats 4000000
/-! # DLH: more steps; data of rows and places -/
namespace DL
open PySem PySem.Spec PyProof.Rows L2
/-- a comprehension that draws on the way -/
theorem lcGo_inv {g : DTG} {tt : DTT} {te : DTE} {Gd : Ow → Prop} {env : Env} {O : Ow} {xs : List D} {q : List D → Ow → Prop} (P : Nat → List D → Ow → Prop) (h0 : P 0 [] O) (hG : ∀ i ys O, P i ys O → Gd O)
    (hs : ∀ (i : Nat) (x : D) (ys : List D) (O : Ow) (k : DQ) (z : Ow → Prop), xs[i]? = some x → P i ys O → (∀ y o o2, SubO o2 o → P (i + 1) (ys ++ [y]) o2 → k y o) → g x env O fun env2 _ => tt env2 O fun b O3 => if b = true then te env2 O3 k else z O3)
    (hd : ∀ ys O, P xs.length ys O → q ys O) : lcGo g tt te Gd xs env O q := by
  suffices h : ∀ (zs : List D) (i : Nat) (acc : List D) (O : Ow), xs.drop i = zs → i ≤ xs.length → P i acc O → lcGo g tt te Gd zs env O fun ys O => q (acc ++ ys) O from h xs 0 [] O rfl (Nat.zero_le _) h0
  intro zs
  induction zs with
  | nil =>
    intro i acc O e hi hp
    have : i = xs.length := Nat.le_antisymm hi (List.drop_eq_nil_iff.mp e)
    subst this
    exact ⟨hG _ _ _ hp, by show q (acc ++ []) O; rw [List.append_nil]; exact hd _ _ hp⟩
  | cons x zs ih =>
    intro i acc O e hi hp
    have hx : xs[i]? = some x := by
      have := congrArg (·[0]?) e
      simpa using this
    have hi' : i < xs.length := (List.getElem?_eq_some_iff.mp hx).1
    have e2 : xs.drop (i + 1) = zs := by
      have := congrArg List.tail e
      simpa using this
    refine ⟨hG _ _ _ hp, hs i x acc O _ _ hx hp fun y o o2 sb hp2 => ⟨o2, sb, ?_⟩⟩
    have := ih (i + 1) (acc ++ [y]) o2 e2 hi' hp2
    simpa [List.append_assoc] using this
/-- ranges -/
def zs (lo hi : Int) : List Int := (List.range (hi - lo).toNat).map fun (k : Nat) => lo + (k : Int)
theorem rgD_zs (lo hi : Int) : rgD lo hi = (zs lo hi).map D.int := by
  unfold rgD zs
  rw [List.map_map]; rfl
theorem zs_mem {lo hi x : Int} (h : x ∈ zs lo hi) : lo ≤ x ∧ x < hi := by
  unfold zs at h
  simp only [List.mem_map, List.mem_range] at h
  obtain ⟨k, hk, rfl⟩ := h
  omega
theorem zs_len (lo hi : Int) : (zs lo hi).length = (hi - lo).toNat := by simp [zs]
theorem map_get {l : List Int} {i : Nat} {x : D} (hx : (l.map D.int)[i]? = some x) : ∃ b, l[i]? = some b ∧ x = .int b := by
  rw [List.getElem?_map] at hx
  cases e : l[i]? with
  | none => rw [e] at hx; cases hx
  | some b => rw [e] at hx; exact ⟨b, rfl, (Option.some.inj hx).symm⟩
theorem atI_in {ds : List D} {i : Int} (h0 : 0 ≤ i) (h : i < (ds.length : Int)) : ∃ d, ds[i.toNat]? = some d ∧ atI ds i = some d := by
  have hl : i.toNat < ds.length := by omega
  refine ⟨ds[i.toNat], by simp [hl], ?_⟩
  have := atI_nat (xs := ds) (j := i.toNat) (v := ds[i.toNat]) (by simp [hl])
  rw [Int.toNat_of_nonneg h0] at this
  exact this
theorem Bag.ne {O : Ow} {p r : Addr} {m : Int} (h : Bag O p m) (hr : O r = none) : p ≠ r := fun z => by
  obtain ⟨a, b, c, e, h1⟩ := h
  rw [z, hr] at e; cases e
theorem Bag.keep {O : Ow} {p r : Addr} {m : Int} {o : OD} (h : Bag O p m) (hr : p ≠ r) : Bag (setO O r o) p m := by
  obtain ⟨a, b, c, e, h1⟩ := h
  exact ⟨a, b, c, by rw [setO_ne hr]; exact e, h1⟩
theorem Bag.ref {O : Ow} {p r : Addr} {m : Int} {o : OD} (h : Bag O p m) (hr : O r = some o) (ho : ∀ ds, o ≠ .lst ds) : p ≠ r := fun z => by
  obtain ⟨a, b, c, e, h1⟩ := h
  rw [z, hr] at e
  exact ho _ (Option.some.inj e)
/-! ### places, rows -/
def bitB : D → Bool
  | .int i => i == 0 || i == 1
  | _ => false
def plB (n : Int) (ws : List Str) : D → Bool
  | .int i => decide (0 ≤ i) && decide (i < n)
  | .str s => ws.contains s
  | _ => false
def rowB (n : Int) (ws : List Str) : D → Bool
  | .tup [b, p, q] => bitB b && plB n ws p && plB n ws q
  | _ => false
/-- a sound machine -/
def Mach (ws : List Str) (rs : List D) : Prop := ∀ r ∈ rs, rowB rs.length ws r = true
theorem plB_cases {n : Int} {ws : List Str} {d : D} (h : plB n ws d = true) : (∃ i : Int, d = .int i ∧ 0 ≤ i ∧ i < n) ∨ ∃ s, d = .str s ∧ s ∈ ws := by
  cases d <;> simp [plB] at h
  · exact .inl ⟨_, rfl, h.1, h.2⟩
  · exact .inr ⟨_, rfl, h⟩
theorem rowB_cases {n : Int} {ws : List Str} {d : D} (h : rowB n ws d = true) : ∃ (b : Int) (p q : D), d = .tup [.int b, p, q] ∧ (b = 0 ∨ b = 1) ∧ plB n ws p = true ∧ plB n ws q = true := by
  unfold rowB at h
  split at h
  · rename_i b p q
    simp only [Bool.and_eq_true] at h
    cases b <;> simp [bitB] at h
    exact ⟨_, p, q, rfl, h.1.1, h.1.2, h.2⟩
  · cases h
theorem plB_pd {n : Int} {ws : List Str} {d : D} (h : plB n ws d = true) : pd d = true := by
  rcases plB_cases h with ⟨i, rfl, _⟩ | ⟨s, rfl, _⟩ <;> simp [pd]
theorem rowB_pd {n : Int} {ws : List Str} {d : D} (h : rowB n ws d = true) : pd d = true := by
  obtain ⟨b, p, q, rfl, _, h1, h2⟩ := rowB_cases h
  simp [pd, pds, plB_pd h1, plB_pd h2]
theorem pd_ty {O : Ow} {d : D} (h : pd d = true) : ∃ a, tyN O d = some a := by
  cases d <;> simp [pd] at h <;> exact ⟨_, rfl⟩
/-- the ints to which a row leads -/
def nextsB (L : List Int) : D → Bool
  | .tup [_, p, q] => (match p with | .int i => L.contains i | _ => true) && (match q with | .int i => L.contains i | _ => true)
  | _ => true
def noWord (w : Str) : D → Bool
  | .tup [_, p, q] => (match p with | .str s => !(s == w) | _ => true) && (match q with | .str s => !(s == w) | _ => true)
  | _ => true
/-- a closed set of rows that tells no w -/
structure Closed (rs : List D) (first : Int) (w : Str) (L : List Int) : Prop where
  mem : first ∈ L
  next : ∀ i ∈ L, ∀ r, rs[i.toNat]? = some r → nextsB L r = true
  word : ∀ i ∈ L, ∀ r, rs[i.toNat]? = some r → noWord w r = true
end DL
namespace DL
open PySem PySem.Spec PyProof.Rows L2
/-! ### data that may be compared -/
def good (d : D) : Bool := pd d && SeqAt.shaped (py d)
def strGood (s : Str) : Bool := (PyData.str s).canLay0
theorem good_int (i : Int) : good (.int i) = true := by simp [good, pd, py, SeqAt.shaped, PyData.canLay0, PyData.depth]
theorem good_bl (i : Bool) : good (.bl i) = true := by simp [good, pd, py, SeqAt.shaped, PyData.canLay0, PyData.depth]
theorem good_non : good .non = true := by simp [good, pd, py, SeqAt.shaped, PyData.canLay0, PyData.depth]
theorem good_str {s : Str} (h : strGood s = true) : good (.str s) = true := by
  have h' : (PyData.str s).canLay0 = true := h
  simp only [good, pd, py, SeqAt.shaped, PyData.depth, h']
  decide
theorem good_of_str {s : Str} (h : good (.str s) = true) : strGood s = true := by
  simp only [good, SeqAt.shaped, Bool.and_eq_true, py] at h
  exact h.2.1
theorem good_pd {d : D} (h : good d = true) : pd d = true := (Bool.and_eq_true_iff.mp h).1
theorem good_sh {d : D} (h : good d = true) : SeqAt.shaped (py d) = true := (Bool.and_eq_true_iff.mp h).2
theorem good_items : ∀ {ds : List D}, pds ds = true → PyData.canLayAll0 (pys ds) = true → PyData.depthAll (pys ds) ≤ 64 → ∀ d ∈ ds, good d = true
  | [], _, _, _, d, h => by cases h
  | x :: ds, h1, h2, h3, d, h => by
    simp only [pds, Bool.and_eq_true] at h1
    simp only [pys, PyData.canLayAll0, Bool.and_eq_true] at h2
    simp only [pys, PyData.depthAll] at h3
    rcases List.mem_cons.mp h with rfl | h
    · simp only [good, SeqAt.shaped, h1.1, h2.1, Bool.true_and, decide_eq_true_eq]
      omega
    · exact good_items h1.2 h2.2 (by omega) d h
theorem good_tup {ds : List D} (h : good (.tup ds) = true) : ∀ d ∈ ds, good d = true := by
  simp only [good, SeqAt.shaped, Bool.and_eq_true, decide_eq_true_eq, pd, py, PyData.canLay0, PyData.depth] at h
  exact good_items h.1 h.2.1 (by omega)
/-- x in (texts) -/
theorem any_strs {s : Str} : ∀ ws : List Str, ((pys (ws.map D.str)).any fun z => PyData.eqv z (py (.str s))) = ws.contains s
  | [] => rfl
  | w :: ws => by
    have ih := any_strs (s := s) ws
    simp only [py] at ih
    simp only [List.map_cons, pys, py, List.any_cons, List.contains_cons, PyData.eqv]
    rw [Bool.beq_comm, ih]
theorem shaped_strs {ws : List Str} (h : ws.all strGood = true) : SeqAt.shaped (.list (pys (ws.map D.str))) = true := by
  have := strs_shaped (ss := ws) fun s hs => List.all_eq_true.mp h s hs
  simpa [py] using this
theorem i_inStr {O : Ow} {q : DQ} {s : Str} {ws : List Str} (hs : strGood s = true) (hw : ws.all strGood = true) (h : q (.bl (ws.contains s)) O) : dIn (.str s) (.tup (ws.map D.str)) O q := by
  refine ⟨_, _, asP_pd (good_pd (good_str hs)), asPs_T (strs_pds ws), good_sh (good_str hs), shaped_strs hw, ?_⟩
  rw [any_strs]
  exact h
theorem i_inStrL {O : Ow} {q : DQ} {s : Str} {ws : List Str} (hs : strGood s = true) (hw : ws.all strGood = true) (h : q (.bl (ws.contains s)) O) : dIn (.str s) (.lst (ws.map D.str)) O q := by
  refine ⟨_, _, asP_pd (good_pd (good_str hs)), asPs_L (strs_pds ws), good_sh (good_str hs), shaped_strs hw, ?_⟩
  rw [any_strs]
  exact h
end DL
namespace DL
open PySem PySem.Spec PyProof.Rows L2
section
variable {O : Ow} {q : DQ}
theorem i_eqG {x y : D} (hx : good x = true) (hy : good y = true) (h : q (.bl (PyData.eqv (py x) (py y))) O) : dEq x y O q := ⟨_, _, asP_pd (good_pd hx), asP_pd (good_pd hy), good_sh hx, good_sh hy, h⟩
theorem i_neG {x y : D} (hx : good x = true) (hy : good y = true) (h : q (.bl (!PyData.eqv (py x) (py y))) O) : dNe x y O q := ⟨_, _, asP_pd (good_pd hx), asP_pd (good_pd hy), good_sh hx, good_sh hy, h⟩
theorem eqv_int (i j : Int) : PyData.eqv (py (.int i)) (py (.int j)) = decide (i = j) := by
  simp only [py, PyData.eqv]
  by_cases h : i = j
  · simp [h]
  · simp [h]
theorem eqv_str (i j : Str) : PyData.eqv (py (.str i)) (py (.str j)) = decide (i = j) := by
  simp only [py, PyData.eqv]
  by_cases h : i = j
  · simp [h]
  · simp [h]
theorem i_eqI {i j : Int} (h : q (.bl (decide (i = j))) O) : dEq (.int i) (.int j) O q := i_eqG (good_int _) (good_int _) (by rw [eqv_int]; exact h)
theorem i_neI {i j : Int} (h : q (.bl (!decide (i = j))) O) : dNe (.int i) (.int j) O q := i_neG (good_int _) (good_int _) (by rw [eqv_int]; exact h)
theorem i_eqS {i j : Str} (hi : strGood i = true) (hj : strGood j = true) (h : q (.bl (decide (i = j))) O) : dEq (.str i) (.str j) O q := i_eqG (good_str hi) (good_str hj) (by rw [eqv_str]; exact h)
theorem i_truB {b : Bool} {Pk : Bool → Prop} (h : Pk b) : ∃ k, truD O (.bl b) = some k ∧ Pk k := ⟨b, rfl, h⟩
end
end DL
namespace DL
open PySem PySem.Spec PyProof.Rows L2
theorem any_ints {i : Int} : ∀ ws : List Int, ((pys (ws.map D.int)).any fun z => PyData.eqv z (py (.int i))) = ws.contains i
  | [] => rfl
  | w :: ws => by
    have ih := any_ints (i := i) ws
    simp only [py] at ih
    simp only [List.map_cons, pys, py, List.any_cons, List.contains_cons, PyData.eqv]
    rw [Bool.beq_comm, ih]
theorem pds_nums : ∀ ws : List Int, pds (ws.map D.int) = true ∧ PyData.canLayAll0 (pys (ws.map D.int)) = true ∧ PyData.depthAll (pys (ws.map D.int)) = 0
  | [] => ⟨rfl, rfl, rfl⟩
  | w :: ws => by
    obtain ⟨h1, h2, h3⟩ := pds_nums ws
    simp only [List.map_cons, pys, py, pds, pd, PyData.canLayAll0, PyData.canLay0, PyData.depthAll, PyData.depth, h1, h2, h3]
    exact ⟨rfl, rfl, rfl⟩
theorem shaped_nums (ws : List Int) : SeqAt.shaped (.list (pys (ws.map D.int))) = true := by
  obtain ⟨h1, h2, h3⟩ := pds_nums ws
  simp only [SeqAt.shaped, PyData.canLay0, PyData.depth, h2, h3]
  decide
theorem i_notinO {O : Ow} {q : DQ} {i : Int} {ws : List Int} {p : Addr} (e : O p = some (.lst (ws.map D.int))) (h : q (.bl (!ws.contains i)) O) : dNotIn (.int i) (.ref p) O q := by
  refine ⟨_, pys (ws.map D.int), asP_pd rfl, by simp [asPs, asL, e, (pds_nums ws).1], good_sh (good_int i), shaped_nums ws, ?_⟩
  rw [if_pos rfl, any_ints]
  exact h
theorem nodup_len : ∀ (n : Nat) {l : List Int}, l.Nodup → (∀ x ∈ l, 0 ≤ x ∧ x < (n : Int)) → l.length ≤ n
  | 0, l, _, h => by
    cases l with
    | nil => simp
    | cons x l => have := h x List.mem_cons_self; omega
  | n + 1, l, nd, h => by
    by_cases hm : (n : Int) ∈ l
    · have h1 := nodup_len n (l := l.erase n) (nd.erase _) fun x hx => by
        have h2 := h x (List.mem_of_mem_erase hx)
        have h3 : x ≠ (n : Int) := fun z => by
          subst z
          exact (List.Nodup.not_mem_erase nd) hx
        omega
      rw [List.length_erase_of_mem hm] at h1
      omega
    · have h1 := nodup_len n nd fun x hx => by
        have h2 := h x hx
        have h3 : x ≠ (n : Int) := fun z => hm (z ▸ hx)
        omega
      omega
/-- two objects of one's own beside what was there -/
structure Two (O O' : Ow) (p r : Addr) (a b : OD) : Prop where
  ne : p ≠ r
  at1 : O' p = some a
  at2 : O' r = some b
  old : ∀ x, x ≠ p → x ≠ r → O' x = O x
theorem Two.set1 {O O' : Ow} {p r : Addr} {a b a' : OD} (h : Two O O' p r a b) : Two O (setO O' p a') p r a' b :=
  ⟨h.ne, setO_same, by rw [setO_ne h.ne.symm]; exact h.at2, fun x h1 h2 => by rw [setO_ne h1]; exact h.old x h1 h2⟩
theorem Two.set2 {O O' : Ow} {p r : Addr} {a b b' : OD} (h : Two O O' p r a b) : Two O (setO O' r b') p r a b' :=
  ⟨h.ne, by rw [setO_ne h.ne]; exact h.at1, setO_same, fun x h1 h2 => by rw [setO_ne h2]; exact h.old x h1 h2⟩
theorem Two.mk' {O : Ow} {p r : Addr} {a b : OD} (hp : O p = none) (hr : (setO O p a) r = none) : Two O (setO (setO O p a) r b) p r a b := by
  have hne : p ≠ r := fun z => by rw [← z, setO_same] at hr; cases hr
  exact ⟨hne, by rw [setO_ne hne, setO_same], setO_same, fun x h1 h2 => by rw [setO_ne h2, setO_ne h1]⟩
theorem Two.sub {O O' : Ow} {p r : Addr} {a b : OD} (h : Two O O' p r a b) (hp : O p = none) (hr : O r = none) : SubO O O' := fun x o e => by
  have h1 : x ≠ p := fun z => by rw [z, hp] at e; cases e
  have h2 : x ≠ r := fun z => by rw [z, hr] at e; cases e
  rw [h.old x h1 h2]; exact e
theorem SubO.del {O O' : Ow} {p : Addr} (h : SubO O O') (hp : O p = none) : SubO O (delO O' p) := fun x o e => by
  have h1 : x ≠ p := fun z => by rw [z, hp] at e; cases e
  rw [delO_ne h1]; exact h x o e
end DL

set_option linter.all false
set_option maxRecDepth 100000
set_option maxHeartbeats 4000000
/-! # DLI: calls by keywords alone, in reverse order -/
namespace DL
open PySem PySem.Spec PyProof.Rows L2
theorem RVs.reverse {K : Frag} {F : Hp} : ∀ {ds : List D} {vs : List V}, RVs K F ds vs → RVs K F ds.reverse vs.reverse
  | _, _, .nil => .nil
  | _, _, .cons h t => by
    rw [List.reverse_cons, List.reverse_cons]
    exact (RVs.reverse t).append (.cons h .nil)
theorem vals_rev : ∀ {vs : List V} {us : List Value}, Vals vs us → Vals vs.reverse us.reverse
  | _, _, .nil => .nil
  | _, _, .cons h t => by
    rw [List.reverse_cons, List.reverse_cons]
    exact (vals_rev t).append (.cons h .nil)
/-- a call by keywords alone, written from the last parameter to the first -/
theorem kbn_rev {K : Frag} {x qual : Str} {params : Arguments} {body : List Stmt} {scope : Scope} {kws : List (Str × V)} {f : Addr} {fd : FuncData} {ps : List Str} (F : FunD K x qual params body scope [] kws f fd) (ks : List Str)
    (h : ∀ (kV doc pm : Value) (an : Option Addr) (cdv ct : Value) (ws : List Value), ws.length = ks.length → bindArgs (PySem.W.fnOf x qual params body scope .none kV doc pm an cdv ct) ⟨[], ks.zip ws⟩ = pure (ps.zip ws.reverse)) :
    KBn K fd ps 0 ks (fun _ ws => ws.reverse) (fun _ ws => ws.reverse) := by
  obtain ⟨oc, od, dV, kV, doc, pm, an, cdv, ct, osl, rfl, lk, hcd, hD, hK⟩ := F.ex
  rcases hD with ⟨_, rfl⟩ | ⟨e, _⟩
  · exact ⟨fun s us ws _ l1 l2 => by
      obtain rfl := List.length_eq_zero_iff.mp l1
      exact .of_eq (h kV doc pm an cdv ct ws l2), fun _ r2 => vals_rev r2⟩
  · exact absurd rfl e
end DL

set_option Elab.async false
set_option linter.all false
set_option maxRecDepth 100000
set_option maxHeartbeats 4000000
/-! # DLJ: defs as callees in one piece; calls by position and by keywords -/
namespace DL
open PySem PySem.Spec PyProof.Rows L2
/-- a def of the text, as the head tells it: at the address a -/
def HasD (K : Frag) (x qn : Str) (st : Stmt) (dvs : List V) (kws : List (Str × V)) (a : Addr) : Prop := ∃ fd, FunD K x qn (defArgs st) (defBody st) (defScope st) dvs kws a fd
/-- a def of the text as callee -/
structure Fn (P : Program) (w : World) (K : Frag) (mg : Str → Option Value) (base : Heap) (x qn : Str) (st : Stmt) (dvs : List V) (kws : List (Str × V)) (ps : List Str) (n k : Nat) (fn : DF) (a : Addr) : Prop where
  ex : ∃ fd, FnG P w K mg base (L2.CX P w) k a fd ps (spD K n fn) ∧ FunD K x qn (defArgs st) (defBody st) (defScope st) dvs kws a fd
section
variable {P : Program} {w : World} {K : Frag} {mg : Str → Option Value} {base : Heap}
theorem fn_E {x qual : Str} {st : Stmt} {dvs : List V} {kws : List (Str × V)} {f : Addr} {N ps : List Str} {n k : Nat} {fn : DF} (F : HasD K x qual st dvs kws f) (S : FnScope N ps (defScope st)) (hn : ps.length = n)
    (hb : ∀ (cdv : Value) (A : Around) (outer : List PySem.Env) (s : Shared) (H : Hp) (E : XK) (O0 : Ow) (H0 F0 : Hp) (ds : List D) (O : Ow) (q : DQ) (xx : DX), ds.length = n → fn ds O q xx →
      Site (cxOf (L2.CX P w) P w K mg base N qual (defScope st) f cdv A outer s H E) ⟨K, O0, H0, F0⟩ k (fun c fs _ O => xx c fs O) →
      ∃ t : DTS, PSs (cxOf (L2.CX P w) P w K mg base N qual (defScope st) f cdv A outer s H E) (defBody st) (liftS ⟨K, O0, H0, F0⟩ t) ∧ t { nx := fun _ O' => rtK q .non O', rt := rtK q } (envOf N.length ds) O) :
    Fn P w K mg base x qual st dvs kws ps n (k + 1) fn f := by
  obtain ⟨fd, F⟩ := F
  exact ⟨fd, fn_DD F S hn hb, F⟩
end
/-- how all parameters are bound by position -/
def Bd0 (x qn : Str) (st : Stmt) (ps : List Str) : Prop := ∀ (kV doc pm : Value) (an : Option Addr) (cdv ct : Value) (us : List Value), us.length = ps.length → bindArgs (PySem.W.fnOf x qn (defArgs st) (defBody st) (defScope st) .none kV doc pm an cdv ct) ⟨us, []⟩ = pure (ps.zip us)
/-- picked by places -/
def pick {α : Type} (ix : List Nat) (l : List α) : List α := ix.filterMap fun i => l[i]?
theorem pick_rv {K : Frag} {F : Hp} {ds : List D} {vs : List V} (r : RVs K F ds vs) : ∀ ix : List Nat, RVs K F (pick ix ds) (pick ix vs)
  | [] => .nil
  | i :: ix => by
    unfold pick
    rw [List.filterMap_cons, List.filterMap_cons]
    cases e : ds[i]? with
    | none =>
      have : vs[i]? = none := by
        have h2 := List.getElem?_eq_none_iff.mp e
        exact List.getElem?_eq_none_iff.mpr (by rw [← r.length]; exact h2)
      rw [this]
      exact pick_rv r ix
    | some d =>
      obtain ⟨v, e1, r1⟩ := r.get e
      rw [e1]
      exact .cons r1 (pick_rv r ix)
theorem pick_vals {vs : List V} {us : List Value} (r : Vals vs us) : ∀ ix : List Nat, Vals (pick ix vs) (pick ix us)
  | [] => .nil
  | i :: ix => by
    unfold pick
    rw [List.filterMap_cons, List.filterMap_cons]
    cases e : vs[i]? with
    | none =>
      have : us[i]? = none := by
        have h2 := List.getElem?_eq_none_iff.mp e
        exact List.getElem?_eq_none_iff.mpr (by rw [← r.length]; exact h2)
      rw [this]
      exact pick_vals r ix
    | some d =>
      obtain ⟨v, e1, r1⟩ := r.get e
      rw [e1]
      exact .cons r1 (pick_vals r ix)
/-- how n values by position and keywords ks are bound: by the places ix in both together -/
def BdK (x qn : Str) (st : Stmt) (ps : List Str) (n : Nat) (ks : List Str) (ix : List Nat) : Prop := ∀ (kV doc pm : Value) (an : Option Addr) (cdv ct : Value) (us ws : List Value), us.length = n → ws.length = ks.length →
  bindArgs (PySem.W.fnOf x qn (defArgs st) (defBody st) (defScope st) .none kV doc pm an cdv ct) ⟨us, ks.zip ws⟩ = pure (ps.zip (pick ix (us ++ ws)))
section
variable {K : Frag} {x qn : Str} {st : Stmt} {ps ks : List Str} {kws : List (Str × V)} {f : Addr} {fd : FuncData} {n : Nat} {ix : List Nat}
theorem FunD.b0 (F : FunD K x qn (defArgs st) (defBody st) (defScope st) [] kws f fd) (h : Bd0 x qn st ps) : Binds K fd ps [] := FunD.bindsN F h
theorem FunD.bk (F : FunD K x qn (defArgs st) (defBody st) (defScope st) [] kws f fd) (h : BdK x qn st ps n ks ix) : KBn K fd ps n ks (fun us ws => pick ix (us ++ ws)) (fun us ws => pick ix (us ++ ws)) := by
  obtain ⟨oc, od, dV, kV, doc, pm, an, cdv, ct, osl, rfl, lk, hcd, hD, hK⟩ := F.ex
  rcases hD with ⟨_, rfl⟩ | ⟨e, _⟩
  · exact ⟨fun s us ws _ l1 l2 => .of_eq (h kV doc pm an cdv ct us ws l1 l2), fun r1 r2 => pick_vals (r1.append r2) ix⟩
  · exact absurd rfl e
/-- with keyword-only defaults: ms those that lack -/
def BdM (x qn : Str) (st : Stmt) (ps : List Str) (n : Nat) (ks : List Str) (ms : List (Str × V)) (ix : List Nat) : Prop := ∀ (Dd : Addr) (doc pm : Value) (an : Option Addr) (cdv ct : Value) (us mv ws : List Value), us.length = n → mv.length = ms.length → ws.length = ks.length →
  KwChain Dd ((ms.map (·.1)).zip mv) (bindArgs (PySem.W.fnOf x qn (defArgs st) (defBody st) (defScope st) .none (.ref Dd) doc pm an cdv ct) ⟨us, ks.zip ws⟩) (ps.zip (pick ix (us ++ ws ++ mv)))
end
section
variable {X : Cx} {B : Bd} {pos p : Pos} {k j n : Nat} {wx : DW} {e : Expr} {es : List Expr} {x qn : Str} {st : Stmt} {kws : List (Str × V)} {ps : List Str} {fn : DF} {f : Addr} {tA tB : DTA}
theorem so_callF (S : Site X B k wx) (C : Fn X.prog X.w X.K X.mg X.base x qn st [] kws ps n j fn f) (hj : j ≤ k) (hm : X.mg x = some (.ref f)) (hb : Bd0 x qn st ps) (hg : Gl X x) (ha : PA X (e :: es) (liftA B tA))
    (hdb : (x == ("__debug__" : Str)) = false := by decide) (he : starEach (e :: es) X.env = (false, eval e X.env) :: starEach es X.env := by rfl) (hpl : (backTo pos (starEach es X.env)).any (·.1) = false := by rfl) :
    PE X (.Call (.Name x p) (e :: es) [] pos) (lift B (dCall fn n wx [] tA)) := by
  obtain ⟨fd, G, F⟩ := C.ex
  exact de_call (S.hK ▸ G) S.gd (S.rm.mono hj) hg hm F.kp (FunD.b0 F hb) .nil (fun _ => .nil) S.tk ha hdb he hpl
theorem so_callF0 (S : Site X B k wx) (C : Fn X.prog X.w X.K X.mg X.base x qn st [] kws ps n j fn f) (hj : j ≤ k) (hm : X.mg x = some (.ref f)) (hb : Bd0 x qn st ps) (hg : Gl X x) (hdb : (x == ("__debug__" : Str)) = false := by decide) :
    PE X (.Call (.Name x p) [] [] pos) (lift B (dCall fn n wx [] fun _ O q => q [] O)) := by
  obtain ⟨fd, G, F⟩ := C.ex
  exact de_call0 (S.hK ▸ G) S.gd (S.rm.mono hj) hg hm F.kp (FunD.b0 F hb) .nil (fun _ => .nil) S.tk hdb
theorem so_callFK {m : Nat} {ks : List Str} {ix : List Nat} {kwl : List Keyword} (S : Site X B k wx) (C : Fn X.prog X.w X.K X.mg X.base x qn st [] kws ps n j fn f) (hj : j ≤ k) (hm : X.mg x = some (.ref f)) (hb : BdK x qn st ps m ks ix) (hg : Gl X x) (ha : PA X (e :: es) (liftA B tA)) (hkw : PK X kwl (liftA B tB))
    (hall : (backToKw pos (keywordEach kwl X.env)).all (·.1.isSome) = true := by rfl) (hks : (backToKw pos (keywordEach kwl X.env)).filterMap (·.1) = ks := by rfl)
    (hdb : (x == ("__debug__" : Str)) = false := by decide) (he : starEach (e :: es) X.env = (false, eval e X.env) :: starEach es X.env := by rfl)
    (hpl : ((backTo pos (starEach (e :: es) X.env)).any (·.1) || (backToKw pos (keywordEach kwl X.env)).any (·.1.isNone)) = false := by rfl) :
    PE X (.Call (.Name x p) (e :: es) kwl pos) (lift B (dCallK fn n m ks.length wx (fun a b => pick ix (a ++ b)) tA tB)) := by
  obtain ⟨fd, G, F⟩ := C.ex
  exact de_callK (S.hK ▸ G) S.gd (S.rm.mono hj) hg hm F.kp (FunD.bk F hb) (fun F ds vs es zs r1 r2 => pick_rv (r1.append r2) ix) S.tk ha hkw hall hks hdb he hpl
theorem so_callFK0 {ks : List Str} {ix : List Nat} {kwl : List Keyword} (S : Site X B k wx) (C : Fn X.prog X.w X.K X.mg X.base x qn st [] kws ps n j fn f) (hj : j ≤ k) (hm : X.mg x = some (.ref f)) (hb : BdK x qn st ps 0 ks ix) (hg : Gl X x) (hkw : PK X kwl (liftA B tB))
    (hall : (backToKw pos (keywordEach kwl X.env)).all (·.1.isSome) = true := by rfl) (hks : (backToKw pos (keywordEach kwl X.env)).filterMap (·.1) = ks := by rfl)
    (hdb : (x == ("__debug__" : Str)) = false := by decide) (hpl : ((backTo pos (starEach [] X.env)).any (·.1) || (backToKw pos (keywordEach kwl X.env)).any (·.1.isNone)) = false := by rfl) :
    PE X (.Call (.Name x p) [] kwl pos) (lift B (dCallK0 fn n ks.length wx (pick ix) tB)) := by
  obtain ⟨fd, G, F⟩ := C.ex
  exact de_callK0 (S.hK ▸ G) S.gd (S.rm.mono hj) hg hm F.kp (FunD.bk F hb) (fun F es zs r => by simpa using pick_rv r ix) S.tk hkw hall hks hdb hpl
end
end DL

set_option Elab.async false
set_option linter.all false
set_option maxRecDepth 100000
set_option maxHeartbeats 4000000
/-! # DLK: own __contains__, __eq__, __len__, __str__, __repr__; methods; isinstance of an own class -/
namespace DL
open PySem PySem.Spec PyProof.Rows L2
section
variable {X : Cx} {B : Bd} {k n : Nat} {C f : Addr} {fd : FuncData} {ps : List Str} {sp : Sp}
/-- a special method runs; it lets no exception out -/
theorem run_G0 {A : Around} {pins : List (Addr × Obj)} {σ : St} {H : Hp} {s : Shared} {Q : VK} {us : List Value} {vs : List V} {E : Value → Shared → Prop}
    (Fn : FnG X.prog X.w X.K X.mg X.base (L2.CX X.prog X.w) k f fd ps sp) (hgd : A.guards = some []) (hr : Room k A) (hb : Binds X.K fd ps []) (e0 : Env0 X.prog X.w X.K X.mg X.base A X.stack s H)
    (I : Inv X pins σ H s) (r : Vals vs us) (h : sp vs H Q (fun _ _ _ => False)) : wpAny (model X.prog X.w) A (call (.ref f) us) (EP X pins σ Q) E s := by
  have hl : (us ++ []).length = ps.length := by
    rw [List.append_nil]
    exact r.length.symm.trans (Fn.len _ _ _ _ h)
  have hbb := hb s us I.kIn hl
  rw [List.append_nil] at hbb
  refine wpAny_call (codeAny_mono (Fn.run A X.stack s H ⟨us, []⟩ _ _ Q _ hgd hr e0 hbb r h) fun r s' hq => ?_)
  match r, hq with
  | .error e, hq =>
    obtain ⟨_, _, _, _, _, _, _, _, _, _, _, _, z⟩ := hq
    exact z.elim
  | .ok (.ret u), hq => exact I.after hq
  | .ok .next, hq => exact False.elim hq
  | .ok .brk, hq => exact False.elim hq
  | .ok .cont, hq => exact False.elim hq
/-! ### in -/
def rOwnIn (C : Addr) (neg : Bool) (sp : Sp) : R2 := fun x y H Q => ∃ a dx fs, y = .ref a ∧ H a = some (.ins C dx fs) ∧ sp [.ref a, x] H (fun v H' => ∃ b, v = .bl b ∧ Q (.bl (if neg then !b else b)) H') (fun _ _ _ => False)
theorem op_ownIn (sc : Meth X.K C "__contains__" f) (Fn : FnG X.prog X.w X.K X.mg X.base (L2.CX X.prog X.w) k f fd ps sp) (hgd : X.A.guards = some []) (hr : Room k X.A) (hb : Binds X.K fd ps []) : OpR X (compareOp .In) (rOwnIn C false sp) := by
  intro pins s σ H x y v u Q I rx ry h
  obtain ⟨a, dx, fs, rfl, ea, h⟩ := h
  obtain rfl : u = Value.ref a := ry
  obtain ⟨mA, Oo, _⟩ := ins_get I.hok ea
  obtain ⟨od, J, _⟩ := Oo.look
  obtain ⟨m, fr⟩ := I.fr
  refine PySem.W.in_K fr I.ok.mod.kin J sc.at_ sc.fn (thn (run_G0 (vs := [.ref a, x]) (us := [.ref a, v]) Fn hgd hr hb I.env0 I (.cons rfl (.cons rx .nil)) h) fun r s' z => ?_)
  obtain ⟨w, H', I', rw', b, rfl, q⟩ := z
  obtain rfl : r = Value.bool b := rw'
  exact wpAny_truthy_bool ⟨.bl b, H', I', rfl, by simpa using q⟩
theorem op_ownNotIn (sc : Meth X.K C "__contains__" f) (Fn : FnG X.prog X.w X.K X.mg X.base (L2.CX X.prog X.w) k f fd ps sp) (hgd : X.A.guards = some []) (hr : Room k X.A) (hb : Binds X.K fd ps []) : OpR X (compareOp .NotIn) (rOwnIn C true sp) := by
  intro pins s σ H x y v u Q I rx ry h
  obtain ⟨a, dx, fs, rfl, ea, h⟩ := h
  obtain rfl : u = Value.ref a := ry
  obtain ⟨mA, Oo, _⟩ := ins_get I.hok ea
  obtain ⟨od, J, _⟩ := Oo.look
  obtain ⟨m, fr⟩ := I.fr
  refine PySem.W.notIn_K fr I.ok.mod.kin J sc.at_ sc.fn (thn (run_G0 (vs := [.ref a, x]) (us := [.ref a, v]) Fn hgd hr hb I.env0 I (.cons rfl (.cons rx .nil)) h) fun r s' z => ?_)
  obtain ⟨w, H', I', rw', b, rfl, q⟩ := z
  obtain rfl : r = Value.bool b := rw'
  exact wpAny_truthy_bool ⟨.bl (!b), H', I', rfl, by simpa using q⟩
/-- the reading: y is an instance of C -/
def dOwnIn (C : Addr) (neg : Bool) (fn : DF) : DR2 := fun x y O q => ∃ fs, InsAt C O y fs ∧ fn [y, x] O (fun d O' => ∃ b, d = .bl b ∧ q (.bl (if neg then !b else b)) O') (fun _ _ _ => False)
theorem sim_ownIn {fn : DF} (neg : Bool) : Sim2 B (rOwnIn C neg (spD B.K 2 fn)) (dOwnIn C neg fn) := by
  intro env O σ H F x y dx dy q Q R rx ry h kk
  obtain ⟨fs, hi, h⟩ := h
  obtain ⟨a, d0, gs, rfl, e1, _⟩ := hi.ok R.fh R.ow ry
  refine ⟨a, d0, gs, rfl, e1, F, O, [dy, dx], _, _, R.fh, R.ow, .cons ry (.cons rx .nil), rfl, h, fun d v O' H' F' a r hq => ?_, fun _ _ _ _ _ _ _ _ z => z⟩
  obtain ⟨b, rfl, hq⟩ := hq
  cases r
  exact ⟨b, rfl, kk _ _ O' H' F' a (.bl _) hq⟩
/-! ### == -/
def rOwnEq (C : Addr) (sp : Sp) : R2 := fun x y H Q => ∃ a b dx dy fs gs, x = .ref a ∧ y = .ref b ∧ H a = some (.ins C dx fs) ∧ H b = some (.ins C dy gs) ∧ sp [.ref a, .ref b] H (fun v H' => ∃ c, v = .bl c ∧ Q (.bl c) H') (fun _ _ _ => False)
theorem op_ownEq (sc : Meth X.K C "__eq__" f) (Fn : FnG X.prog X.w X.K X.mg X.base (L2.CX X.prog X.w) k f fd ps sp) (hgd : X.A.guards = some []) (hr : Room k X.A) (hb : Binds X.K fd ps []) : OpR X (compareOp .Eq) (rOwnEq C sp) := by
  intro pins s σ H x y v u Q I rx ry h
  obtain ⟨a, b, dx, dy, fs, gs, rfl, rfl, ea, eb, h⟩ := h
  obtain rfl : v = Value.ref a := rx
  obtain rfl : u = Value.ref b := ry
  obtain ⟨mA, Oo, _⟩ := ins_get I.hok ea
  obtain ⟨od, J, _⟩ := Oo.look
  obtain ⟨mB, O2, _⟩ := ins_get I.hok eb
  obtain ⟨od2, J2, _⟩ := O2.look
  obtain ⟨m, fr⟩ := I.fr
  refine PySem.W.cmp_K (op := .Eq) (tb := .ref C) (by have := hr.un; omega) fr I.ok.mod.kin J J2.type (by simp [PySem.W.notFirst]) sc.at_ sc.fn (thn (run_G0 (vs := [.ref a, .ref b]) (us := [.ref a, .ref b]) Fn hgd hr hb I.env0 I (.cons rfl (.cons rfl .nil)) h) fun r s' z => ?_)
  obtain ⟨w, H', I', rw', c, rfl, q⟩ := z
  obtain rfl : r = Value.bool c := rw'
  exact ⟨.bl c, H', I', rfl, q⟩
def dOwnEq (C : Addr) (fn : DF) : DR2 := fun x y O q => ∃ fs gs, InsAt C O x fs ∧ InsAt C O y gs ∧ fn [x, y] O (fun d O' => ∃ c, d = .bl c ∧ q (.bl c) O') (fun _ _ _ => False)
theorem sim_ownEq {fn : DF} : Sim2 B (rOwnEq C (spD B.K 2 fn)) (dOwnEq C fn) := by
  intro env O σ H F x y dx dy q Q R rx ry h kk
  obtain ⟨fs, gs, i1, i2, h⟩ := h
  obtain ⟨a, d1, fs', rfl, e1, _⟩ := i1.ok R.fh R.ow rx
  obtain ⟨b, d2, gs', rfl, e2, _⟩ := i2.ok R.fh R.ow ry
  refine ⟨a, b, d1, d2, fs', gs', rfl, rfl, e1, e2, F, O, [dx, dy], _, _, R.fh, R.ow, .cons rx (.cons ry .nil), rfl, h, fun d v O' H' F' a rr hq => ?_, fun _ _ _ _ _ _ _ _ z => z⟩
  obtain ⟨b, rfl, hq⟩ := hq
  cases rr
  exact ⟨b, rfl, kk _ _ O' H' F' a (.bl _) hq⟩
/-! ### len, str, repr -/
def rOwn1 (C : Addr) (sp : Sp) (R : V → VK → Hp → Prop) : List V → Hp → VK → Prop := fun xs H Q => ∃ a dx fs, xs = [.ref a] ∧ H a = some (.ins C dx fs) ∧ sp [.ref a] H (fun v H' => R v Q H') (fun _ _ _ => False)
def okLen (v : V) (Q : VK) (H : Hp) : Prop := ∃ n : Int, v = .int n ∧ (0 ≤ n ∧ n < 2 ^ 63) ∧ Q (.int n) H
def okStr (v : V) (Q : VK) (H : Hp) : Prop := ∃ x : Str, v = .str x ∧ Q (.str x) H
theorem cr_ownLen (sc : Meth X.K C "__len__" f) (Fn : FnG X.prog X.w X.K X.mg X.base (L2.CX X.prog X.w) k f fd ps sp) (hgd : X.A.guards = some []) (hr : Room (k + 1) X.A) (hb : Binds X.K fd ps []) : CallR X (.builtin "len") (rOwn1 C sp okLen) := by
  intro pins s σ H xs us Q I r h
  obtain ⟨a, dx, fs, rfl, ea, h⟩ := h
  obtain ⟨u, rfl, ru⟩ := vals1 r
  obtain rfl : u = Value.ref a := ru
  obtain ⟨mA, Oo, _⟩ := ins_get I.hok ea
  obtain ⟨od, J, _⟩ := Oo.look
  obtain ⟨m, fr⟩ := I.fr
  refine PySem.W.len_K fr I.ok.mod.kin J sc.at_ sc.fn (thn (run_G0 (vs := [.ref a]) (us := [.ref a]) Fn hgd hr.in1 hb I.env0.in1 I (.cons rfl .nil) h) fun r s' z => ?_)
  obtain ⟨w, H', I', rw', n, rfl, hn, q⟩ := z
  obtain ⟨t, rfl⟩ := rw'
  exact ⟨hn, .int n, H', I'.tok _, ⟨_, rfl⟩, q⟩
theorem cr_ownStr (sc : Meth X.K C "__str__" f) (Fn : FnG X.prog X.w X.K X.mg X.base (L2.CX X.prog X.w) k f fd ps sp) (hgd : X.A.guards = some []) (hr : Room (k + 2) X.A) (hb : Binds X.K fd ps []) : CallR X (.type "str") (rOwn1 C sp okStr) := by
  intro pins s σ H xs us Q I r h
  obtain ⟨a, dx, fs, rfl, ea, h⟩ := h
  obtain ⟨u, rfl, ru⟩ := vals1 r
  obtain rfl : u = Value.ref a := ru
  obtain ⟨mA, Oo, _⟩ := ins_get I.hok ea
  obtain ⟨od, J, _⟩ := Oo.look
  obtain ⟨m, fr⟩ := I.fr
  have hr2 : Room k X.A.in1.in1 := (Room.in1 hr).in1
  refine PySem.W.kso_call (by have := hr2.un; omega) I.kIn J sc.at_ sc.fn (thn (run_G0 (vs := [.ref a]) (us := [.ref a]) Fn hgd hr2 hb I.env0.in1.in1 I (.cons rfl .nil) h) fun r s' z => ?_)
  obtain ⟨w, H', I', rw', x, rfl, q⟩ := z
  obtain ⟨t, rfl⟩ := rw'
  exact ⟨.str x, H', I', ⟨_, rfl⟩, q⟩
theorem cr_ownRepr (sc : Meth X.K C "__repr__" f) (Fn : FnG X.prog X.w X.K X.mg X.base (L2.CX X.prog X.w) k f fd ps sp) (hgd : X.A.guards = some []) (hr : Room (k + 1) X.A) (hb : Binds X.K fd ps []) : CallR X (.builtin "repr") (rOwn1 C sp okStr) := by
  intro pins s σ H xs us Q I r h
  obtain ⟨a, dx, fs, rfl, ea, h⟩ := h
  obtain ⟨u, rfl, ru⟩ := vals1 r
  obtain rfl : u = Value.ref a := ru
  obtain ⟨mA, Oo, _⟩ := ins_get I.hok ea
  obtain ⟨od, J, _⟩ := Oo.look
  obtain ⟨m, fr⟩ := I.fr
  have hr2 : Room k X.A.in1 := Room.in1 hr
  refine PySem.W.repr_K (by have := hr2.un; omega) fr I.ok.mod.kin J sc.at_ sc.fn (thn (run_G0 (vs := [.ref a]) (us := [.ref a]) Fn hgd hr2 hb I.env0.in1 I (.cons rfl .nil) h) fun r s' z => ?_)
  obtain ⟨w, H', I', rw', x, rfl, q⟩ := z
  obtain ⟨t, rfl⟩ := rw'
  exact ⟨.str x, H', I', ⟨_, rfl⟩, q⟩
def dOwnLen (C : Addr) (fn : DF) : List D → Ow → DQ → Prop := fun ds O q => match ds with | [y] => ∃ fs, InsAt C O y fs ∧ fn [y] O (fun d O' => ∃ n : Int, d = .int n ∧ (0 ≤ n ∧ n < 2 ^ 63) ∧ q (.int n) O') (fun _ _ _ => False) | _ => False
def dOwnStr (C : Addr) (fn : DF) : List D → Ow → DQ → Prop := fun ds O q => match ds with | [y] => ∃ fs, InsAt C O y fs ∧ fn [y] O (fun d O' => ∃ x : Str, d = .str x ∧ q (.str x) O') (fun _ _ _ => False) | _ => False
theorem sim_ownLen {fn : DF} : SimC B (rOwn1 C (spD B.K 1 fn) okLen) (dOwnLen C fn) := by
  intro env O σ H F vs ds q Q R r h kk
  match ds, r, h with
  | [y], r, ⟨fs, hi, h⟩ =>
    obtain ⟨v, rfl, ry⟩ := r.one
    obtain ⟨a, d0, gs, rfl, e1, _⟩ := hi.ok R.fh R.ow ry
    refine ⟨a, d0, gs, rfl, e1, F, O, [y], _, _, R.fh, R.ow, .cons ry .nil, rfl, h, fun d v O' H' F' a r hq => ?_, fun _ _ _ _ _ _ _ _ z => z⟩
    obtain ⟨b, rfl, hb, hq⟩ := hq
    cases r
    exact ⟨b, rfl, hb, kk _ _ O' H' F' a (.int _) hq⟩
theorem sim_ownStr {fn : DF} : SimC B (rOwn1 C (spD B.K 1 fn) okStr) (dOwnStr C fn) := by
  intro env O σ H F vs ds q Q R r h kk
  match ds, r, h with
  | [y], r, ⟨fs, hi, h⟩ =>
    obtain ⟨v, rfl, ry⟩ := r.one
    obtain ⟨a, d0, gs, rfl, e1, _⟩ := hi.ok R.fh R.ow ry
    refine ⟨a, d0, gs, rfl, e1, F, O, [y], _, _, R.fh, R.ow, .cons ry .nil, rfl, h, fun d v O' H' F' a r hq => ?_, fun _ _ _ _ _ _ _ _ z => z⟩
    obtain ⟨b, rfl, hq⟩ := hq
    cases r
    exact ⟨b, rfl, kk _ _ O' H' F' a (.str _) hq⟩
/-! ### isinstance(x, C) -/
structure IsC (K : Frag) (C : Addr) : Prop where
  cl : Cls K C
  ha : PySem.W.findIn K (.ref C) "__class__" = some (some (.builtin "object.__class__"))
  hn : PySem.W.specialIn K (.builtin "object.__class__") "__get__" = some (some (.builtin "getset_descriptor.__get__"))
  htk : PySem.W.takesIn K (.builtin "object.__class__") = some true
  hm : PySem.W.mroIn K C (.type "object") = some true
  off : ∀ a ∈ tyKnown, PySem.W.kitOne K (.type a) (.ref C) = some false
def dIsiC (C : Addr) : List D → Ow → DQ → Prop := fun ds O q => match ds with
  | [x, .ref c] => c = C ∧ ((∃ fs, InsAt C O x fs ∧ q (.bl true) O) ∨ ∃ a, tyN O x = some a ∧ q (.bl false) O)
  | _ => False
theorem sim_isiC (h : IsC B.K C) : SimC B (rIsi B.K) (dIsiC C) := by
  intro env O σ H F vs ds q Q R r hh kk
  match ds, r, hh with
  | [x, .ref c], r, ⟨hc, hh⟩ =>
    subst hc
    obtain ⟨v, w, rfl, r1, r2⟩ := r.two
    cases r2
    rcases hh with ⟨fs, hi, hh⟩ | ⟨a, e, hh⟩
    · obtain ⟨p, dx, gs, rfl, i1, _⟩ := hi.ok R.fh R.ow r1
      exact ⟨.ref p, .ref c, .ref c, .ref c, true, rfl, .own c, .base (.ins i1 h.cl h.ha h.hn h.htk h.hm), by simp [PySem.W.kitOne], kk _ _ O H F (.refl R) (.bl _) hh⟩
    · exact ⟨v, .ref c, .type a, .ref c, false, rfl, .own c, tyN_ok R.fh R.ow r1 e, h.off a (tyN_mem e), kk _ _ O H F (.refl R) (.bl _) hh⟩
theorem so_isiC {e1 e2 : Expr} {tA : DTA} {wx : DW} {p pos : Pos} {j : Nat} (S : Site X B j wx) (h : IsC X.K C) (hg : Gl X "isinstance") (hm : X.mg "isinstance" = none) (ha : PA X [e1, e2] (liftA B tA)) (he : starEach [e1, e2] X.env = (false, eval e1 X.env) :: starEach [e2] X.env := by rfl) (hpl : (backTo pos (starEach [e2] X.env)).any (·.1) = false := by rfl) :
    PE X (.Call (.Name "isinstance" p) [e1, e2] [] pos) (lift B (dCB (dIsiC C) tA)) :=
  de_cb (by rw [S.hK]; exact sim_isiC (S.hK ▸ h)) (pe_callB call_isi hg hm bt_isi ha (by decide) (by decide) he hpl)
end
/-! ### at a site -/
section
variable {X : Cx} {B : Bd} {k j n : Nat} {wx : DW} {a b e : Expr} {ta tb : DTE} {tA : DTA} {pos p : Pos} {x qn : Str} {st : Stmt} {kws : List (Str × V)} {ps : List Str} {fn : DF} {C f : Addr}
theorem so_ownIn (S : Site X B j wx) (sc : Meth X.K C "__contains__" f) (Cl : Fn X.prog X.w X.K X.mg X.base x qn st [] kws ps 2 k fn f) (hj : k ≤ j) (hb : Bd0 x qn st ps) (ha : PE X a (lift B ta)) (hb2 : PE X b (lift B tb)) (hm : behindInMarks .In b = false := by rfl) : PE X (.Compare a [.In] [b] pos) (lift B (dOp (dOwnIn C false fn) ta tb)) := by
  obtain ⟨fd, G, F⟩ := Cl.ex
  exact de_cmp (op_ownIn sc G S.gd (S.rm.mono hj) (FunD.b0 F hb)) (by rw [S.hK]; exact sim_ownIn false) ha hb2 hm
theorem so_ownNotin (S : Site X B j wx) (sc : Meth X.K C "__contains__" f) (Cl : Fn X.prog X.w X.K X.mg X.base x qn st [] kws ps 2 k fn f) (hj : k ≤ j) (hb : Bd0 x qn st ps) (ha : PE X a (lift B ta)) (hb2 : PE X b (lift B tb)) (hm : behindInMarks .NotIn b = false := by rfl) : PE X (.Compare a [.NotIn] [b] pos) (lift B (dOp (dOwnIn C true fn) ta tb)) := by
  obtain ⟨fd, G, F⟩ := Cl.ex
  exact de_cmp (op_ownNotIn sc G S.gd (S.rm.mono hj) (FunD.b0 F hb)) (by rw [S.hK]; exact sim_ownIn true) ha hb2 hm
theorem st_ownIn (S : Site X B j wx) (sc : Meth X.K C "__contains__" f) (Cl : Fn X.prog X.w X.K X.mg X.base x qn st [] kws ps 2 k fn f) (hj : k ≤ j) (hb : Bd0 x qn st ps) (ha : PE X a (lift B ta)) (hb2 : PE X b (lift B tb)) (hm : behindInMarks .In b = false := by rfl) : PT X (.Compare a [.In] [b] pos) (liftT B (dTest (dOp (dOwnIn C false fn) ta tb))) := by
  obtain ⟨fd, G, F⟩ := Cl.ex
  exact dt_cmp (op_ownIn sc G S.gd (S.rm.mono hj) (FunD.b0 F hb)) (by rw [S.hK]; exact sim_ownIn false) ha hb2 hm
theorem st_ownNotin (S : Site X B j wx) (sc : Meth X.K C "__contains__" f) (Cl : Fn X.prog X.w X.K X.mg X.base x qn st [] kws ps 2 k fn f) (hj : k ≤ j) (hb : Bd0 x qn st ps) (ha : PE X a (lift B ta)) (hb2 : PE X b (lift B tb)) (hm : behindInMarks .NotIn b = false := by rfl) : PT X (.Compare a [.NotIn] [b] pos) (liftT B (dTest (dOp (dOwnIn C true fn) ta tb))) := by
  obtain ⟨fd, G, F⟩ := Cl.ex
  exact dt_cmp (op_ownNotIn sc G S.gd (S.rm.mono hj) (FunD.b0 F hb)) (by rw [S.hK]; exact sim_ownIn true) ha hb2 hm
theorem so_ownEq (S : Site X B j wx) (sc : Meth X.K C "__eq__" f) (Cl : Fn X.prog X.w X.K X.mg X.base x qn st [] kws ps 2 k fn f) (hj : k ≤ j) (hb : Bd0 x qn st ps) (ha : PE X a (lift B ta)) (hb2 : PE X b (lift B tb)) : PE X (.Compare a [.Eq] [b] pos) (lift B (dOp (dOwnEq C fn) ta tb)) := by
  obtain ⟨fd, G, F⟩ := Cl.ex
  exact de_cmp (op_ownEq sc G S.gd (S.rm.mono hj) (FunD.b0 F hb)) (by rw [S.hK]; exact sim_ownEq) ha hb2 (nomark _)
theorem st_ownEq (S : Site X B j wx) (sc : Meth X.K C "__eq__" f) (Cl : Fn X.prog X.w X.K X.mg X.base x qn st [] kws ps 2 k fn f) (hj : k ≤ j) (hb : Bd0 x qn st ps) (ha : PE X a (lift B ta)) (hb2 : PE X b (lift B tb)) : PT X (.Compare a [.Eq] [b] pos) (liftT B (dTest (dOp (dOwnEq C fn) ta tb))) := by
  obtain ⟨fd, G, F⟩ := Cl.ex
  exact dt_cmp (op_ownEq sc G S.gd (S.rm.mono hj) (FunD.b0 F hb)) (by rw [S.hK]; exact sim_ownEq) ha hb2 (nomark _)
theorem so_ownLen (S : Site X B j wx) (sc : Meth X.K C "__len__" f) (Cl : Fn X.prog X.w X.K X.mg X.base x qn st [] kws ps 1 k fn f) (hj : k + 1 ≤ j) (hb : Bd0 x qn st ps) (hg : Gl X "len") (hm : X.mg "len" = none) (ha : PA X [e] (liftA B tA)) (he : starEach [e] X.env = (false, eval e X.env) :: starEach [] X.env := by rfl) (hpl : (backTo pos (starEach [] X.env)).any (·.1) = false := by rfl) :
    PE X (.Call (.Name "len" p) [e] [] pos) (lift B (dCB (dOwnLen C fn) tA)) := by
  obtain ⟨fd, G, F⟩ := Cl.ex
  exact de_cb (by rw [S.hK]; exact sim_ownLen) (pe_callB (cr_ownLen sc G S.gd (S.rm.mono hj) (FunD.b0 F hb)) hg hm PySem.boot_len ha (by decide) (by decide) he hpl)
theorem so_ownRepr (S : Site X B j wx) (sc : Meth X.K C "__repr__" f) (Cl : Fn X.prog X.w X.K X.mg X.base x qn st [] kws ps 1 k fn f) (hj : k + 1 ≤ j) (hb : Bd0 x qn st ps) (hg : Gl X "repr") (hm : X.mg "repr" = none) (ha : PA X [e] (liftA B tA)) (he : starEach [e] X.env = (false, eval e X.env) :: starEach [] X.env := by rfl) (hpl : (backTo pos (starEach [] X.env)).any (·.1) = false := by rfl) :
    PE X (.Call (.Name "repr" p) [e] [] pos) (lift B (dCB (dOwnStr C fn) tA)) := by
  obtain ⟨fd, G, F⟩ := Cl.ex
  exact de_cb (by rw [S.hK]; exact sim_ownStr) (pe_callB (cr_ownRepr sc G S.gd (S.rm.mono hj) (FunD.b0 F hb)) hg hm bt_repr ha (by decide) (by decide) he hpl)
theorem so_ownStr (S : Site X B j wx) (sc : Meth X.K C "__str__" f) (Cl : Fn X.prog X.w X.K X.mg X.base x qn st [] kws ps 1 k fn f) (hj : k + 2 ≤ j) (hb : Bd0 x qn st ps) (hg : Gl X "str") (hm : X.mg "str" = none) (ha : PA X [e] (liftA B tA)) (he : starEach [e] X.env = (false, eval e X.env) :: starEach [] X.env := by rfl) (hpl : (backTo pos (starEach [] X.env)).any (·.1) = false := by rfl) :
    PE X (.Call (.Name "str" p) [e] [] pos) (lift B (dCB (dOwnStr C fn) tA)) := by
  obtain ⟨fd, G, F⟩ := Cl.ex
  exact de_cb (by rw [S.hK]; exact sim_ownStr) (pe_callTy (cr_ownStr sc G S.gd (S.rm.mono hj) (FunD.b0 F hb)) hg hm (by decide +kernel) ha (by decide) (by decide) he hpl)
end
/-! ### steps -/
section
variable {O : Ow} {q : DQ} {C : Addr} {fn : DF} {ns : List Str} {ds : List D}
theorem i_ownIn {x : D} {neg : Bool} (h : fn [.ins C ns ds, x] O (fun d O' => ∃ b, d = .bl b ∧ q (.bl (if neg then !b else b)) O') (fun _ _ _ => False)) : dOwnIn C neg fn x (.ins C ns ds) O q := ⟨_, ⟨rfl, rfl⟩, h⟩
theorem i_ownEq {ms : List Str} {es : List D} (h : fn [.ins C ns ds, .ins C ms es] O (fun d O' => ∃ c, d = .bl c ∧ q (.bl c) O') (fun _ _ _ => False)) : dOwnEq C fn (.ins C ns ds) (.ins C ms es) O q := ⟨_, _, ⟨rfl, rfl⟩, ⟨rfl, rfl⟩, h⟩
theorem i_ownLen (h : fn [.ins C ns ds] O (fun d O' => ∃ n : Int, d = .int n ∧ (0 ≤ n ∧ n < 2 ^ 63) ∧ q (.int n) O') (fun _ _ _ => False)) : dOwnLen C fn [.ins C ns ds] O q := ⟨_, ⟨rfl, rfl⟩, h⟩
theorem i_ownStr (h : fn [.ins C ns ds] O (fun d O' => ∃ x : Str, d = .str x ∧ q (.str x) O') (fun _ _ _ => False)) : dOwnStr C fn [.ins C ns ds] O q := ⟨_, ⟨rfl, rfl⟩, h⟩
theorem i_isiI (h : q (.bl true) O) : dIsiC C [.ins C ns ds, .ref C] O q := ⟨rfl, .inl ⟨_, ⟨rfl, rfl⟩, h⟩⟩
theorem i_isiN {x : D} {a : String} (e : tyN O x = some a) (h : q (.bl false) O) : dIsiC C [x, .ref C] O q := ⟨rfl, .inr ⟨a, e, h⟩⟩
end
end DL

set_option Elab.async false
set_option linter.all false
set_option maxRecDepth 100000
set_option maxHeartbeats 4000000
/-! # DLL: str of ints and texts, join, str of an own instance -/
namespace DL
open PySem PySem.Spec PyProof.Rows L2
section
variable {X : Cx} {B : Bd} {k : Nat} {wx : DW} {e o : Expr} {p pos apos : Pos} {tA : DTA} {ta tb : DTE}
def rStr1 : List V → Hp → VK → Prop := fun xs H Q => (∃ i, xs = [.int i] ∧ i.natAbs.log2 < 1920 ∧ Q (.str (toString i)) H) ∨ ∃ a, xs = [.str a] ∧ Q (.str a) H
theorem cr_str1 : CallR X (.type "str") rStr1 := by
  intro pins s σ H xs us Q I r h
  rcases h with h | h
  · exact call_str_int pins s σ H xs us Q I r h
  · exact SkE.call_str_str pins s σ H xs us Q I r h
def strD : D → Str
  | .int i => toString i
  | .str s => s
  | _ => ""
def dStr1 : List D → Ow → DQ → Prop := fun ds O q => match ds with
  | [.int i] => i.natAbs.log2 < 1920 ∧ q (.str (toString i)) O
  | [.str s] => q (.str s) O
  | _ => False
theorem sim_str1 : SimC B rStr1 dStr1 := by
  intro env O σ H F vs ds q Q R r h kk
  match ds, r, h with
  | [.int i], r, h =>
    obtain ⟨v, rfl, r1⟩ := r.one
    cases r1
    exact .inl ⟨i, rfl, h.1, kk _ _ O H F (.refl R) (.str _) h.2⟩
  | [.str s], r, h =>
    obtain ⟨v, rfl, r1⟩ := r.one
    cases r1
    exact .inr ⟨s, rfl, kk _ _ O H F (.refl R) (.str _) h⟩
theorem so_str (S : Site X B k wx) (hg : Gl X "str") (hm : X.mg "str" = none) (ha : PA X [e] (liftA B tA)) (he : starEach [e] X.env = (false, eval e X.env) :: starEach [] X.env := by rfl) (hpl : (backTo pos (starEach [] X.env)).any (·.1) = false := by rfl) :
    PE X (.Call (.Name "str" p) [e] [] pos) (lift B (dCB dStr1 tA)) :=
  de_cb sim_str1 (pe_callTy cr_str1 hg hm (by decide +kernel) ha (by decide) (by decide) he hpl)
/-- sep.join(texts) -/
def strsOf : List D → Option (List Str)
  | [] => some []
  | .str s :: ds => (strsOf ds).map (s :: ·)
  | _ => none
theorem strsOf_map : ∀ ss : List Str, strsOf (ss.map D.str) = some ss
  | [] => rfl
  | s :: ss => by simp [strsOf, strsOf_map ss]
theorem strsOf_ok {K : Frag} {F : Hp} : ∀ {ds : List D} {vs : List V} {ss : List Str}, RVs K F ds vs → strsOf ds = some ss → vs = ss.map V.str
  | [], _, _, .nil, h => by cases h; rfl
  | .str s :: ds, _, ss, .cons r rs, h => by
    simp only [strsOf] at h
    cases e : strsOf ds with
    | none => rw [e] at h; cases h
    | some ms =>
      rw [e] at h
      cases h
      cases r
      rw [strsOf_ok rs e]
      rfl
def joinK (a : Str) (q : DQ) : DQ := fun y O2 => ∃ ds ss, asS O2 y = some ds ∧ strsOf ds = some ss ∧ (ss.map (·.length)).sum + ss.length * a.length ≤ 16777216 ∧ q (.str (Txt.join a ss)) O2
def dJoin (ta tb : DTE) : DTE := fun env O q => ta env O fun x O1 => match x with
  | .str a => tb env O1 (joinK a q)
  | _ => False
theorem so_join (S : Site X B k wx) (ho : PE X o (lift B ta)) (he : PE X e (lift B tb)) (hs : starEach [e] X.env = [(false, eval e X.env)] := by rfl) (hbase : attributeBase o "join" X.env (eval o X.env) = eval o X.env := by rfl) (hline : (apos.endLine == pos.line) = true := by rfl) :
    PE X (.Call (.Attribute o "join" apos) [e] [] pos) (lift B (dJoin ta tb)) := PE.weak (pe_join ho he hs hbase hline) fun σ H Q h => by
  obtain ⟨env, O, F, q, R, h, kk⟩ := h
  refine ⟨env, O, F, _, R, h, fun x v O1 H1 F1 a1 r1 h1 => ?_⟩
  cases x <;> try exact h1.elim
  cases r1
  refine ⟨⟨_, rfl⟩, env, O1, F1, _, R.call a1, h1, fun y u O2 H2 F2 a2 r2 h2 => ?_⟩
  obtain ⟨ds, ss, e1, e2, hl, h2⟩ := h2
  obtain ⟨a, xs, rfl, hs, hr⟩ := asS_sq a2.fh a2.ow r2 e1
  obtain rfl := strsOf_ok hr e2
  exact ⟨_, a, ss, rfl, rfl, by rw [S.hK]; exact hs, hl, kk _ _ O2 H2 F2 (a1.trans a2) (.str _) h2⟩
theorem i_join {env : Env} {O : Ow} {q : DQ} (h : ta env O fun x O1 => match x with | .str a => tb env O1 (joinK a q) | _ => False) : dJoin ta tb env O q := h
theorem i_joinL {O : Ow} {q : DQ} {a : Str} {ss : List Str} (hl : (ss.map (·.length)).sum + ss.length * a.length ≤ 16777216) (h : q (.str (Txt.join a ss)) O) : joinK a q (.lst (ss.map D.str)) O := ⟨_, ss, rfl, strsOf_map ss, hl, h⟩
end
end DL

set_option Elab.async false
set_option linter.all false
set_option maxRecDepth 100000
set_option maxHeartbeats 4000000
/-! # DLM: a new instance that never changes is data -/
namespace DL
open PySem PySem.Spec PyProof.Rows L2
/-- what an own list is as data -/
def frzD (O : Ow) : D → D
  | .ref p => match O p with | some (.lst ds) => .lst ds | _ => .ref p
  | d => d
/-- the own lists among some data -/
def frzP (O : Ow) : List (Str × D) → Addr → Bool
  | [], _ => false
  | (_, .ref p) :: r, a => (match O p with | some (.lst _) => a == p | _ => false) || frzP O r a
  | _ :: r, a => frzP O r a
/-- without x and the own lists among its attributes -/
def cutO (O : Ow) (x : Addr) (fs : List (Str × D)) : Ow := fun a => if a = x ∨ frzP O fs a = true then none else O a
theorem frzP_own {O : Ow} : ∀ {fs : List (Str × D)} {a : Addr}, frzP O fs a = true → ∃ ds, O a = some (.lst ds)
  | [], a, h => by cases h
  | (n, d) :: r, a, h => by
    cases d <;> simp only [frzP, Bool.or_eq_true] at h <;> try exact frzP_own h
    rename_i p
    rcases h with h | h
    · split at h
      · rename_i ds e
        rw [beq_iff_eq.mp h]
        exact ⟨ds, e⟩
      · cases h
    · exact frzP_own h
theorem frzP_mem {O : Ow} {n : Str} {p : Addr} {ds : List D} (e : O p = some (.lst ds)) : ∀ {fs : List (Str × D)}, (n, D.ref p) ∈ fs → frzP O fs p = true
  | (m, d) :: r, h => by
    rcases List.mem_cons.mp h with h | h
    · cases h
      simp only [frzP, e, beq_self_eq_true, Bool.true_or]
    · have ih := frzP_mem e h
      cases d <;> simp only [frzP] <;> try exact ih
      rw [ih, Bool.or_true]
section
variable {B : Bd} {env : Env} {O : Ow} {σ : St} {H F : Hp}
theorem Rel.iceIns (R : Rel B env O σ H F) {x C dx : Addr} {fs : List (Str × D)} (h : O x = some (.ins C dx fs)) :
    ∃ F', RV B.K F' (.ins C (fs.map (·.1)) (fs.map fun z => frzD O z.2)) (.ref x) ∧ After B.K O H F (cutO O x fs) H F' := by
  obtain ⟨hF, ho, e1, gs, rfl, rk⟩ := R.ow x _ h
  let F' : Hp := fun a => if a = x ∨ frzP O fs a = true then H a else F a
  have hin : ∀ a, (a = x ∨ frzP O fs a = true) → O a ≠ none ∧ F a = none := fun a ha => by
    rcases ha with rfl | ha
    · exact ⟨by rw [h]; simp, hF⟩
    · obtain ⟨ds, e⟩ := frzP_own ha
      exact ⟨by rw [e]; simp, (R.ow a _ e).1⟩
  have s1 : Same F F' := fun b u e => by
    show (if b = x ∨ frzP O fs b = true then H b else F b) = some u
    by_cases hb : b = x ∨ frzP O fs b = true
    · rw [(hin b hb).2] at e; cases e
    · rw [if_neg hb]; exact e
  have s2 : Same F' H := fun b u e => by
    have e' : (if b = x ∨ frzP O fs b = true then H b else F b) = some u := e
    by_cases hb : b = x ∨ frzP O fs b = true
    · rw [if_pos hb] at e'; exact e'
    · rw [if_neg hb] at e'; exact R.fh b u e'
  have key : ∀ (l : List (Str × D)) (g : List (Str × V)), RKV B.K F l g → (∀ z ∈ l, z ∈ fs) → RVs B.K F' (l.map fun z => frzD O z.2) (g.map (·.2)) ∧ g.map (·.1) = l.map (·.1) := by
    intro l g hr
    induction hr with
    | nil => exact fun _ => ⟨.nil, rfl⟩
    | cons hh t ih =>
      rename_i p q l' g'
      intro hm
      obtain ⟨i1, i2⟩ := ih fun z hz => hm z (List.mem_cons_of_mem _ hz)
      refine ⟨?_, by simp only [List.map_cons, i2, hh.1]⟩
      simp only [List.map_cons]
      refine .cons ?_ i1
      obtain ⟨pn, pdd⟩ := p
      obtain ⟨qn, qv⟩ := q
      have hr2 : RV B.K F pdd qv := hh.2
      show RV B.K F' (frzD O pdd) qv
      cases pdd <;> simp only [frzD] <;> try exact hr2.mono s1
      rename_i pp
      cases hr2 with
      | ref =>
        cases e : O pp with
        | none => exact RV.ref pp
        | some od =>
          cases od with
          | lst ds =>
            obtain ⟨_, ho, e2, vs, rfl, rr⟩ := R.ow pp _ e
            refine .lst (SqL.of ?_) (rr.mono s1)
            show (if pp = x ∨ frzP O fs pp = true then H pp else F pp) = some (.lst vs)
            rw [if_pos (.inr (frzP_mem e (hm _ List.mem_cons_self)))]
            exact e2
          | _ => exact RV.ref pp
  obtain ⟨k1, k2⟩ := key fs gs rk fun _ hz => hz
  refine ⟨F', .ins (dx := dx) (xs := gs.map (·.2)) ?_ (by simp) k1, ⟨s1, s2, fun _ _ e _ => e, fun a ha ho h0 => ?_, fun q u e => ?_, fun q u e => ?_⟩⟩
  · show (if x = x ∨ frzP O fs x = true then H x else F x) = _
    rw [if_pos (.inl rfl), e1, ← k2]
    congr 2
    clear k1 k2 key rk e1
    induction gs with
    | nil => rfl
    | cons g gs ih => simp only [List.map_cons, List.zip_cons_cons]; rw [← ih]
  · show (if a = x ∨ frzP O fs a = true then H a else F a) = none
    by_cases hb : a = x ∨ frzP O fs a = true
    · exact absurd ho (hin a hb).1
    · rw [if_neg hb]; exact h0
  · unfold cutO at e
    by_cases hb : q = x ∨ frzP O fs q = true
    · rw [if_pos hb] at e; cases e
    · rw [if_neg hb] at e
      obtain ⟨h1, ho, h3, h4⟩ := R.ow q u e
      refine ⟨?_, ho, h3, h4.mono s1⟩
      show (if q = x ∨ frzP O fs q = true then H q else F q) = none
      rw [if_neg hb]; exact h1
  · unfold cutO at e
    by_cases hb : q = x ∨ frzP O fs q = true
    · rw [if_pos hb] at e; cases e
    · rw [if_neg hb] at e; exact .inl (by rw [e]; simp)
end
section
variable {X : Cx} {B : Bd} {pos p : Pos} {k j n : Nat} {wx : DW} {e : Expr} {es : List Expr} {x qn : Str} {st : Stmt} {kws : List (Str × V)} {ps : List Str} {fn : DF} {C f : Addr} {tA tB : DTA} {t : DTE} {env : Env} {O : Ow} {q : DQ}
/-- an own instance becomes data -/
def iceI (C : Addr) (q : DQ) : DQ := fun d O1 => match d with
  | .ref x => ∃ dx fs, O1 x = some (.ins C dx fs) ∧ ∃ o2, SubO o2 (cutO O1 x fs) ∧ q (.ins C (fs.map (·.1)) (fs.map fun z => frzD O1 z.2)) o2
  | _ => False
def dIceI (C : Addr) (t : DTE) : DTE := fun env O q => t env O (iceI C q)
theorem de_iceI {t : DTE} (h : PE X e (lift B t)) : PE X e (lift B (dIceI C t)) := PE.weak h fun σ H Q hh => by
  obtain ⟨env, O, F, q, R, hh, kk⟩ := hh
  refine ⟨env, O, F, _, R, hh, fun d v O1 H1 F1 a1 r1 h1 => ?_⟩
  cases d <;> try exact h1.elim
  rename_i p
  obtain ⟨dx, fs, e, o2, sb, h1⟩ := h1
  cases r1
  obtain ⟨F2, r2, a2⟩ := (R.call a1).iceIns e
  exact kk _ _ _ _ F2 (a1.trans (a2.weak sb)) r2 h1
theorem i_iceI (h : t env O (iceI C q)) : dIceI C t env O q := h
/-- C(..) -/
theorem so_makeF (S : Site X B k wx) (Cl : Fn X.prog X.w X.K X.mg X.base "__init__" qn st [] kws ps n j fn f) (hj : j + 1 ≤ k) (hm : X.mg x = some (.ref C)) (M : Mk X.K C f) (hb : Bd0 "__init__" qn st ps) (hg : Gl X x) (ha : PA X (e :: es) (liftA B tA))
    (hdb : (x == ("__debug__" : Str)) = false := by decide) (he : starEach (e :: es) X.env = (false, eval e X.env) :: starEach es X.env := by rfl) (hpl : (backTo pos (starEach es X.env)).any (·.1) = false := by rfl) :
    PE X (.Call (.Name x p) (e :: es) [] pos) (lift B (dMake C fn n wx [] tA)) := by
  obtain ⟨fd, G, F⟩ := Cl.ex
  exact de_make M (S.hK ▸ G) S.gd (S.rm.mono hj) hg hm (FunD.b0 F hb) .nil (fun _ => .nil) S.tk ha hdb he hpl
/-- a constant of a class -/
theorem so_cvalE {mc : Value} {f : Str} {v : V} {d : D} {e : Expr} (cr : ClX.CRead X.K C mc) (cv : ∃ u, ClX.CVal X.K C mc f v u) (he : PE X e (tC (.ref C))) (r : ∀ F, RV B.K F d v) (hb : attributeBase e f X.env (eval e X.env) = eval e X.env := by rfl) : PE X (.Attribute e f pos) (lift B (dC d)) := by
  obtain ⟨u, cv⟩ := cv
  exact so_cval cr cv he r hb
end
section
variable {P : Program} {w : World} {K : Frag} {mg : Str → Option Value} {base : Heap} {X : Cx} {B : Bd} {pos : Pos} {k : Nat} {wx : DW} {e : Expr} {C g : Addr} {x qn f f' : Str} {st : Stmt} {ta : DTE}
/-- a getter of the text -/
structure Get (P : Program) (w : World) (K : Frag) (mg : Str → Option Value) (base : Heap) (C : Addr) (f' : Str) (g : Addr) : Prop where
  ex : ∃ fd, FnOk P w K mg base CX0 1 g fd ["self"] (getSp C f') ∧ Binds K fd ["self"] []
theorem get_E {p1 p2 p3 : Pos} (F : HasD K x qn st [] [] g) (S : FnScope ["self"] ["self"] (defScope st)) (hb : defBody st = [.Return (some (.Attribute (.Name "self" p1) f' p2)) p3]) (c : Cls K C) (n : NoAttr K C f') (b : Bd0 x qn st ["self"]) : Get P w K mg base C f' g := by
  obtain ⟨fd, F⟩ := F
  exact ⟨fd, ok_getter F S hb c n, FunD.b0 F b⟩
/-- a getter with a remark of its own ahead -/
theorem so_propE {pa : Addr} (S : Site X B k wx) (hk : 2 ≤ k) (c : Cls X.K C) (hp : PropOf X.K C f pa g) (G : Get X.prog X.w X.K X.mg X.base C f' g) (he : PE X e (lift B ta)) (hab : attributeBase e f X.env (eval e X.env) = eval e X.env := by rfl) : PE X (.Attribute e f pos) (lift B (dFld C f' ta)) := by
  obtain ⟨fd, Fn, hb⟩ := G.ex
  obtain ⟨k2, rfl⟩ : ∃ k2, k = k2 + 2 := ⟨k - 2, by omega⟩
  exact de_prop S c hp Fn hb he hab
end
end DL

set_option Elab.async false
set_option linter.all false
set_option maxRecDepth 100000
set_option maxHeartbeats 4000000
/-! # DLN: facts of the head; small displays -/
namespace DL
open PySem PySem.Spec PyProof.Rows L2
def intX (x : Str) (i : Int) : Fac := fun K => (He.Fa.int x i).ok K
def methB (x m : Str) : Fac := fun K => (He.Fa.meth x m).ok K
def iscB (x : Str) : Fac := fun K => He.eqO (PySem.W.findIn K (.ref (He.ga K x)) "__class__") (some (some (.builtin "object.__class__"))) && (He.eqO (PySem.W.specialIn K (.builtin "object.__class__") "__get__") (some (some (.builtin "getset_descriptor.__get__"))) &&
  (decide (PySem.W.takesIn K (.builtin "object.__class__") = some true) && (decide (PySem.W.mroIn K (He.ga K x) (.type "object") = some true) && tyKnown.all fun a => decide (PySem.W.kitOne K (.type a) (.ref (He.ga K x)) = some false))))
theorem iscB_ok {K : Frag} {x : Str} (c : Cls K (He.ga K x)) (h : iscB x K = true) : IsC K (He.ga K x) := by
  unfold iscB at h
  simp only [Bool.and_eq_true, decide_eq_true_eq, List.all_eq_true] at h
  obtain ⟨h1, h2, h3, h4, h5⟩ := h
  exact ⟨c, He.eqO_ok h1, He.eqO_ok h2, h3, h4, h5⟩
section
variable {X : Cx} {B : Bd} {pos : Pos} {env : Env} {O : Ow} {q : DQ}
/-- {} of one's own -/
def dDict0 : DTE := fun _ O q => ∀ p, O p = none → q (.ref p) (setO O p (.dK []))
theorem so_dict0 : PE X (.Dict [] [] pos) (lift B dDict0) := PE.weak pe_dnewK fun σ H Q h => by
  obtain ⟨env, O, F, q, R, h, k⟩ := h
  intro p hp
  exact k _ _ _ _ F (R.own hp (u := .dK []) ⟨[], rfl, .nil⟩) (.ref p) (h p (R.free hp).1)
theorem i_sz {ds : List D} {Pr : Prop} (h1 : ds.length ≤ 100000) (h : Pr) : ds.length ≤ sizeLine ∧ Pr := ⟨len_ok h1, h⟩
theorem i_strS {s : Str} (h : q (.str s) O) : dStr1 [.str s] O q := h
theorem i_strI {i : Int} (hl : i.natAbs < 2 ^ 1000) (h : q (.str (toString i)) O) : dStr1 [.int i] O q := ⟨Nat.lt_of_lt_of_le (PySem.Flt.log2_lt_of (k := 1000) (by decide) hl) (by decide), h⟩
theorem i_eqT {x y : D} (hx : good x = true) (hy : good y = true) (he : PyData.eqv (py x) (py y) = true) (h : q (.bl true) O) : dEq x y O q := i_eqG hx hy (by rw [he]; exact h)
theorem i_eqF {x y : D} (hx : good x = true) (hy : good y = true) (he : PyData.eqv (py x) (py y) = false) (h : q (.bl false) O) : dEq x y O q := i_eqG hx hy (by rw [he]; exact h)
theorem i_neT {x y : D} (hx : good x = true) (hy : good y = true) (he : PyData.eqv (py x) (py y) = true) (h : q (.bl false) O) : dNe x y O q := i_neG hx hy (by rw [he]; exact h)
theorem i_neF {x y : D} (hx : good x = true) (hy : good y = true) (he : PyData.eqv (py x) (py y) = false) (h : q (.bl true) O) : dNe x y O q := i_neG hx hy (by rw [he]; exact h)
theorem i_dict0 (h : ∀ p, O p = none → q (.ref p) (setO O p (.dK []))) : dDict0 env O q := h
end
end DL

set_option Elab.async false
set_option linter.all false
set_option maxRecDepth 100000
set_option maxHeartbeats 4000000
/-! # DLO: comparable data by its parts; equality of data; texts as lists of signs -/
namespace DL
open PySem PySem.Spec PyProof.Rows L2
theorem pys_map : ∀ ds : List D, pys ds = ds.map py
  | [] => rfl
  | d :: ds => by rw [pys, pys_map ds]; rfl
theorem seq_parts {m : Nat} : ∀ {ds : List D}, (∀ d ∈ ds, good d = true ∧ (py d).depth ≤ m) → pds ds = true ∧ PyData.canLayAll0 (pys ds) = true ∧ PyData.depthAll (pys ds) ≤ m
  | [], _ => ⟨rfl, rfl, Nat.zero_le _⟩
  | d :: ds, h => by
    obtain ⟨h1, h2, h3⟩ := seq_parts fun e he => h e (List.mem_cons_of_mem _ he)
    obtain ⟨g, gd⟩ := h d List.mem_cons_self
    simp only [good, SeqAt.shaped, Bool.and_eq_true, decide_eq_true_eq] at g
    refine ⟨by simp [pds, g.1, h1], by simp [pys, PyData.canLayAll0, g.2.1, h2], ?_⟩
    simp only [pys, PyData.depthAll]
    omega
theorem good_tupI {ds : List D} (h : ∀ d ∈ ds, good d = true ∧ (py d).depth ≤ 60) : good (.tup ds) = true := by
  obtain ⟨h1, h2, h3⟩ := seq_parts h
  simp only [good, SeqAt.shaped, pd, py, PyData.canLay0, PyData.depth, h1, h2, Bool.true_and, decide_eq_true_eq]
  omega
theorem good_lstI {ds : List D} (h : ∀ d ∈ ds, good d = true ∧ (py d).depth ≤ 60) : good (.lst ds) = true := by
  obtain ⟨h1, h2, h3⟩ := seq_parts h
  simp only [good, SeqAt.shaped, pd, py, PyData.canLay0, PyData.depth, h1, h2, Bool.true_and, decide_eq_true_eq]
  omega
theorem depth_tup {ds : List D} {m : Nat} (h : ∀ d ∈ ds, (py d).depth ≤ m) : (py (.tup ds)).depth ≤ m + 1 := by
  simp only [py, PyData.depth]
  have : ∀ l : List D, (∀ d ∈ l, (py d).depth ≤ m) → PyData.depthAll (pys l) ≤ m := by
    intro l
    induction l with
    | nil => intro _; exact Nat.zero_le _
    | cons d l ih =>
      intro hl
      have h1 := hl d List.mem_cons_self
      have h2 := ih fun e he => hl e (List.mem_cons_of_mem _ he)
      simp only [pys, PyData.depthAll]
      omega
  have := this ds h
  omega
theorem depth_lst {ds : List D} {m : Nat} (h : ∀ d ∈ ds, (py d).depth ≤ m) : (py (.lst ds)).depth ≤ m + 1 := by
  have := depth_tup h
  simpa only [py, PyData.depth] using this
/-- x in a tuple, in a list -/
theorem i_inT {O : Ow} {q : DQ} {x : D} {ds : List D} (hx : good x = true) (h : ∀ d ∈ ds, good d = true ∧ (py d).depth ≤ 60) (hq : q (.bl (ds.any fun r => PyData.eqv (py r) (py x))) O) : dIn x (.tup ds) O q := by
  obtain ⟨h1, h2, h3⟩ := seq_parts h
  refine ⟨_, _, asP_pd (good_pd hx), asPs_T h1, good_sh hx, ?_, ?_⟩
  · have := good_sh (good_lstI h)
    simpa only [py] using this
  · rw [if_neg (by decide), pys_map, List.any_map]
    exact hq
theorem i_inL {O : Ow} {q : DQ} {x : D} {ds : List D} (hx : good x = true) (h : ∀ d ∈ ds, good d = true ∧ (py d).depth ≤ 60) (hq : q (.bl (ds.any fun r => PyData.eqv (py r) (py x))) O) : dIn x (.lst ds) O q := by
  obtain ⟨h1, h2, h3⟩ := seq_parts h
  refine ⟨_, _, asP_pd (good_pd hx), asPs_L h1, good_sh hx, ?_, ?_⟩
  · have := good_sh (good_lstI h)
    simpa only [py] using this
  · rw [if_neg (by decide), pys_map, List.any_map]
    exact hq
/-! ### equality -/
mutual
theorem eqv_refl : ∀ {d : D}, pd d = true → PyData.eqv (py d) (py d) = true
  | .non, _ => by simp [py, PyData.eqv]
  | .bl b, _ => by simp [py, PyData.eqv]
  | .int i, _ => by simp [py, PyData.eqv]
  | .str x, _ => by simp [py, PyData.eqv]
  | .ref a, h => by simp [pd] at h
  | .ty n, h => by simp [pd] at h
  | .ins _ _ _, h => by simp [pd] at h
  | .lst ds, h => by rw [py, PyData.eqv]; exact eqvs_refl (by simpa [pd] using h)
  | .tup ds, h => by rw [py, PyData.eqv]; exact eqvs_refl (by simpa [pd] using h)
theorem eqvs_refl : ∀ {ds : List D}, pds ds = true → PyData.eqvAll (pys ds) (pys ds) = true
  | [], _ => by simp [pys, PyData.eqvAll]
  | d :: ds, h => by
    simp only [pds, Bool.and_eq_true] at h
    simp only [pys, PyData.eqvAll, Bool.and_eq_true]
    exact ⟨eqv_refl h.1, eqvs_refl h.2⟩
end
mutual
/-- data without truths -/
def nb : D → Bool
  | .non => true | .int _ => true | .str _ => true | .lst ds => nbs ds | .tup ds => nbs ds | _ => false
def nbs : List D → Bool
  | [] => true | d :: ds => nb d && nbs ds
end
mutual
theorem nb_pd : ∀ {d : D}, nb d = true → pd d = true
  | .non, _ => by simp [pd]
  | .bl b, h => by simp [nb] at h
  | .int i, _ => by simp [pd]
  | .str x, _ => by simp [pd]
  | .ref a, h => by simp [nb] at h
  | .ty n, h => by simp [nb] at h
  | .ins _ _ _, h => by simp [nb] at h
  | .lst ds, h => by rw [pd]; exact nbs_pds (by simpa [nb] using h)
  | .tup ds, h => by rw [pd]; exact nbs_pds (by simpa [nb] using h)
theorem nbs_pds : ∀ {ds : List D}, nbs ds = true → pds ds = true
  | [], _ => rfl
  | d :: ds, h => by
    simp only [nbs, Bool.and_eq_true] at h
    simp only [pds, Bool.and_eq_true]
    exact ⟨nb_pd h.1, nbs_pds h.2⟩
end
mutual
theorem eqv_eq : ∀ {a b : D}, nb a = true → nb b = true → PyData.eqv (py a) (py b) = true → a = b
  | a, b, ha, hb, h => by
    cases a <;> simp only [nb, Bool.false_eq_true] at ha <;> cases b <;> simp only [nb, Bool.false_eq_true] at hb <;> simp only [py, PyData.eqv, Bool.false_eq_true] at h
    · rfl
    · rw [beq_iff_eq.mp h]
    · rw [beq_iff_eq.mp h]
    · rw [eqvs_eq ha hb h]
    · rw [eqvs_eq ha hb h]
theorem eqvs_eq : ∀ {as bs : List D}, nbs as = true → nbs bs = true → PyData.eqvAll (pys as) (pys bs) = true → as = bs
  | [], [], _, _, _ => rfl
  | [], _ :: _, _, _, h => by simp [pys, PyData.eqvAll] at h
  | _ :: _, [], _, _, h => by simp [pys, PyData.eqvAll] at h
  | a :: as, b :: bs, ha, hb, h => by
    simp only [nbs, Bool.and_eq_true] at ha hb
    simp only [pys, PyData.eqvAll, Bool.and_eq_true] at h
    rw [eqv_eq ha.1 hb.1 h.1, eqvs_eq ha.2 hb.2 h.2]
end
theorem eqv_iff {a b : D} (ha : nb a = true) (hb : nb b = true) : PyData.eqv (py a) (py b) = true ↔ a = b := ⟨eqv_eq ha hb, fun e => by rw [e]; exact eqv_refl (nb_pd hb)⟩
/-! ### texts -/
open TL (tl tl_append tl_join joinL tl_mk)
theorem tl_inj {a b : Str} (h : tl a = tl b) : a = b := by
  cases a; cases b
  simp only [Str.mk.injEq]
  exact Array.toList_inj.mp h
theorem tl_len (a : Str) : a.length = (tl a).length := by simp [Str.length, tl]
/-- lists with a mark: parted at its first place -/
theorem cut_mark {c : Nat} : ∀ {a b x y : List Nat}, c ∉ a → c ∉ b → a ++ c :: x = b ++ c :: y → a = b ∧ x = y
  | [], [], _, _, _, _, h => ⟨rfl, (List.cons.inj h).2⟩
  | [], d :: b, _, _, _, hb, h => absurd (List.cons.inj h).1 fun e => hb (e ▸ List.mem_cons_self)
  | d :: a, [], _, _, ha, _, h => absurd (List.cons.inj h).1 fun e => ha (e ▸ List.mem_cons_self)
  | d :: a, e :: b, x, y, ha, hb, h => by
    obtain ⟨h1, h2⟩ := List.cons.inj h
    obtain ⟨h3, h4⟩ := cut_mark (a := a) (b := b) (fun z => ha (List.mem_cons_of_mem _ z)) (fun z => hb (List.mem_cons_of_mem _ z)) h2
    exact ⟨by rw [h1, h3], h4⟩
def sgn (d : D) : List Nat := tl (shw d)
theorem tl_str (s : String) (l : List Nat) (h : (Str.ofString s).cps.toList = l) : tl (Str.ofString s) = l := h
theorem sgn_tup {ds : List D} (h : ds.length ≠ 1) : sgn (.tup ds) = 40 :: (joinL [44, 32] (ds.map sgn) ++ [41]) := by
  unfold sgn shw
  rw [py, PyData.shown]
  have e : ∀ l : List D, (PyData.shownAll (pys l)).map tl = l.map sgn := by
    intro l
    induction l with
    | nil => rfl
    | cons d l ih => simp only [pys, PyData.shownAll, List.map_cons, ih]; rfl
  have el : (PyData.shownAll (pys ds)).length = ds.length := by
    have := congrArg List.length (e ds)
    simpa using this
  unfold tupleText
  rw [tl_append, tl_append, tl_join, e]
  have h1 : ((PyData.shownAll (pys ds)).length == 1) = false := by rw [el]; simpa using h
  rw [h1]
  rfl
theorem sgn_tup1 {d : D} : sgn (.tup [d]) = 40 :: (sgn d ++ [44, 41]) := by
  unfold sgn shw
  rw [py, PyData.shown]
  simp only [pys, PyData.shownAll]
  unfold tupleText
  rw [tl_append, tl_append, tl_join]
  rfl
theorem shw_inj {a b : D} (h : shw a = shw b) : sgn a = sgn b := congrArg tl h
theorem joinL_mem {S : List Nat} {x : Nat} : ∀ {ps : List (List Nat)}, x ∈ joinL S ps → x ∈ S ∨ ∃ p ∈ ps, x ∈ p
  | [], h => by simp [joinL] at h
  | [p], h => .inr ⟨p, List.mem_cons_self, h⟩
  | p :: q :: r, h => by
    rcases List.mem_append.mp h with h | h
    · exact .inr ⟨p, List.mem_cons_self, h⟩
    · rcases List.mem_append.mp h with h | h
      · exact .inl h
      · rcases joinL_mem h with h | ⟨z, hz, h⟩
        · exact .inl h
        · exact .inr ⟨z, List.mem_cons_of_mem _ hz, h⟩
theorem joinL_len {S : List Nat} {m : Nat} : ∀ {ps : List (List Nat)}, (∀ p ∈ ps, p.length ≤ m) → (joinL S ps).length ≤ ps.length * (m + S.length)
  | [], _ => by simp [joinL]
  | [p], h => by
    have := h p List.mem_cons_self
    simp only [joinL, List.length_cons, List.length_nil]
    omega
  | p :: q :: r, h => by
    have h1 := h p List.mem_cons_self
    have h2 := joinL_len (S := S) (ps := q :: r) fun z hz => h z (List.mem_cons_of_mem _ hz)
    have e : (p :: q :: r).length * (m + S.length) = (q :: r).length * (m + S.length) + (m + S.length) := by
      rw [List.length_cons, Nat.add_mul, Nat.one_mul]
    rw [e]
    simp only [joinL, List.length_append]
    omega
/-- data that can be shown, with few and common signs -/
structure Shows (d : D) (m : Nat) : Prop where
  gd : good d = true
  sh : (py d).showable = true
  ln : (sgn d).length ≤ m
  sg : ∀ x ∈ sgn d, x < 128
theorem Shows.ok {d : D} {m : Nat} (h : Shows d m) (hm : m ≤ 1000000) : shwOk d = true := by
  have hd := good_sh h.gd
  simp only [SeqAt.shaped, Bool.and_eq_true, decide_eq_true_eq] at hd
  simp only [shwOk, Bool.and_eq_true, decide_eq_true_eq]
  have hl : (py d).shown.length = (sgn d).length := tl_len _
  have h1 := h.ln
  refine ⟨⟨⟨⟨good_pd h.gd, h.sh⟩, hd.2⟩, by omega⟩, ?_⟩
  simp only [PyData.canLay0, PyData.strOk, Array.all_eq_true_iff_forall_mem, decide_eq_true_eq]
  intro x hx
  have := h.sg x (by simpa [sgn, tl] using hx)
  omega
theorem shows_all {m : Nat} : ∀ {ds : List D}, (∀ d ∈ ds, Shows d m) → PyData.showableAll (pys ds) = true
  | [], _ => rfl
  | d :: ds, h => by
    simp only [pys, PyData.showableAll, Bool.and_eq_true]
    exact ⟨(h d List.mem_cons_self).sh, shows_all fun e he => h e (List.mem_cons_of_mem _ he)⟩
theorem Shows.tup {ds : List D} {m : Nat} (h : ∀ d ∈ ds, Shows d m ∧ (py d).depth ≤ 60) : Shows (.tup ds) ((m + 2) * ds.length + 4) := by
  have hl : ∀ p ∈ ds.map sgn, p.length ≤ m := fun p hp => by
    obtain ⟨d, hd, rfl⟩ := List.mem_map.mp hp
    exact (h d hd).1.ln
  have hs : ∀ p ∈ ds.map sgn, ∀ x ∈ p, x < 128 := fun p hp => by
    obtain ⟨d, hd, rfl⟩ := List.mem_map.mp hp
    exact (h d hd).1.sg
  refine ⟨good_tupI fun d hd => ⟨(h d hd).1.gd, (h d hd).2⟩, by rw [py, PyData.showable]; exact shows_all fun d hd => (h d hd).1, ?_, fun x hx => ?_⟩
  · by_cases h1 : ds.length = 1
    · match ds, h1 with
      | [d], _ =>
        rw [sgn_tup1]
        have := (h d List.mem_cons_self).1.ln
        simp only [List.length_cons, List.length_append, List.length_nil]
        omega
    · rw [sgn_tup h1]
      have := joinL_len (S := [44, 32]) hl
      rw [List.length_map] at this
      simp only [List.length_cons, List.length_append, List.length_nil, Nat.zero_add] at this ⊢
      rw [Nat.mul_comm]
      have e2 : m + (1 + 1) = m + 2 := rfl
      rw [e2] at this
      omega
  · by_cases h1 : ds.length = 1
    · match ds, h1 with
      | [d], _ =>
        rw [sgn_tup1] at hx
        simp only [List.mem_cons, List.mem_append, List.mem_nil_iff, or_false] at hx
        rcases hx with rfl | hx | rfl | rfl
        · decide
        · exact (h d List.mem_cons_self).1.sg x hx
        · decide
        · decide
    · rw [sgn_tup h1] at hx
      simp only [List.mem_cons, List.mem_append, List.mem_nil_iff, or_false] at hx
      rcases hx with rfl | hx | rfl
      · decide
      · rcases joinL_mem hx with h2 | ⟨p, hp, h2⟩
        · simp only [List.mem_cons, List.mem_nil_iff, or_false] at h2
          rcases h2 with rfl | rfl <;> decide
        · exact hs p hp x h2
      · decide
end DL

set_option Elab.async false
set_option linter.all false
set_option maxRecDepth 100000
set_option maxHeartbeats 4000000
/-! # DLP: a walk over an own instance whose __iter__ is iter(self.f); f-strings; constructors by keywords; == with any data -/
namespace DL
open PySem PySem.Spec PyProof.Rows L2 ItX
/-! ### for x in o -/
structure ItFn (P : Program) (w : World) (K : Frag) (mg : Str → Option Value) (base : Heap) (C : Addr) (f : Str) (fa : Addr) : Prop where
  run : ∀ (A : Around) (outer : List PySem.Env) (s : Shared) (H : Hp) (a dx : Addr) (gs : List (Str × V)) (l : Addr) (zs : List V), Room 1 A → Env0 P w K mg base A outer s H → H a = some (.ins C dx gs) → gs.lookup f = some (.ref l) → SqL K H l zs →
    codeAny (model P w) A (.call (.ref fa) ⟨[.ref a], []⟩) (fun r s' => match r with
      | .ok (.ret u) => ∃ it, u = .ref it ∧ s.heap.objs.size ≤ it ∧ H it = none ∧ CE outer P w H s (fun v H' => v = .ref it ∧ H' = upd H it (ItO l it 0)) (.ref it) s'
      | .ok _ => False
      | .error e => CX0 outer H s (fun _ _ _ => False) e s') s
theorem itfn_E {P : Program} {w : World} {K : Frag} {mg : Str → Option Value} {base : Heap} {x qual : Str} {st : Stmt} {C fa : Addr} {f : Str} {p1 p2 p3 p4 p5 : Pos} (F : HasD K x qual st [] [] fa) (S : FnScope ["self"] ["self"] (defScope st))
    (hb : defBody st = [.Return (some (.Call (.Name "iter" p1) [.Attribute (.Name "self" p2) f p3] [] p4)) p5]) (b : Bd0 x qual st ["self"]) (c : Cls K C) (n : NoAttr K C f) (hm : mg "iter" = none)
    (hg : ∀ (s : Shared) (H : Hp) (cdv : Value) (A : Around) (outer : List PySem.Env) (E : XK), Gl (cxOf CX0 P w K mg base ["self"] qual (defScope st) fa cdv A outer s H E) "iter") : ItFn P w K mg base C f fa := by
  obtain ⟨fd, F⟩ := F
  have bnd := FunD.b0 F b
  obtain ⟨oc, od, dV, kV, doc, pm, an, cdv, ct, osl, rfl, lk, hcd, hD, hK2⟩ := F.ex
  refine ⟨fun A outer s H a dx gs l zs room e0 ha hf hs => ?_⟩
  have hK : K.In s.heap := e0.mod.kin.keeps fun b o z => (e0.bs b o z).1
  have hkind : ∀ y ∈ (["self"] : List Str).zip [Value.ref a], (defScope st).names.lookup y.1 = some .local ∨ ((defScope st).names.lookup y.1 = some .cell ∧ ((cellsFrom (s.heap.objs.size + 1) (defScope st).names []).lookup y.1).isSome = true) := by
    rintro ⟨nm, v⟩ hy
    have := S.par nm (List.of_mem_zip hy).1
    exact this.imp id fun q => ⟨q, PySem.W.cellsFrom_some _ _ _ (.inl q)⟩
  have hlim : s.heap.NoLimit := e0.mod.nolimit.keeps fun b o z => (e0.bs b o z).1
  have hbb := bnd s [.ref a] hK rfl
  refine codeAny_call_function room.depth (hK _ _ lk) rfl S.co S.gen rfl (PySem.W.codeRec_of hK hcd) (hbb _ _ _ _ (wpAny_newFunctionEnv_cells S.kind hkind ?_))
  rintro env rfl s1 inn
  refine ⟨hlim.keeps inn.toInCall.keep, codeAny_func ?_⟩
  have J := inv_start (CX := CX0) (E := fun _ _ _ => False) (vs := [.ref a]) S room.hd e0 rfl (.cons rfl .nil) inn
  obtain ⟨t, ht, hq⟩ : ∃ t, PSs (cxOf CX0 P w K mg base ["self"] qual (defScope st) fa cdv A outer s H (fun _ _ _ => False)) (defBody st) t ∧
      t { nx := fun _ _ => False, rt := fun v H' => ∃ it, v = .ref it ∧ s.heap.objs.size ≤ it ∧ H it = none ∧ H' = upd H it (ItO l it 0) } (start ["self"] [.ref a]) H := by
    rw [hb]
    refine ⟨_, pss_one (ps_ret (pe_callB call_iterN (hg _ _ _ _ _ _) hm (by decide +kernel) (pa_cons (pe_fld (pe_var (i := 0) rfl ((S.par "self" (List.Mem.head _)).elim (fun z => .inl z) (fun z => .inr (.inl z)))) rfl) pa_nil) (by decide) (by decide) rfl rfl)), ?_⟩
    refine ⟨.ref a, rfl, a, C, dx, gs, .ref l, rfl, ha, c, n, hf, ?_⟩
    exact ⟨l, zs, rfl, hs, fun it h1 h2 => ⟨it, rfl, h2, h1, rfl⟩⟩
  refine wpAny_mono (ht.run [] s1 _ H _ J hq) (fun fl s' z => ?_) fun _ _ z => ?_
  · rcases fl with _ | _ | _ | u
    · obtain ⟨_, _, _, q⟩ := z
      exact q.elim
    · obtain ⟨_, _, _, q⟩ := z
      exact q.elim
    · obtain ⟨_, _, _, q⟩ := z
      exact q.elim
    · obtain ⟨v, σ', H', J', rv, it, rfl, q1, q2, rfl⟩ := z
      obtain rfl : u = Value.ref it := rv
      exact ⟨it, rfl, q1, q2, .ref it, _, J'.os, J'.bare, J'.base, J'.hok, rfl, rfl, rfl⟩
  · exact z
section
variable {X : Cx} {B : Bd} {k : Nat} {wx : DW} {tg e : Expr} {C fa : Addr} {f : Str} {te : DTE} {pos : Pos}
theorem pi_own {te : TE} (M : Meth X.K C "__iter__" fa) (F : ItFn X.prog X.w X.K X.mg X.base C f fa) (hr : Room 1 X.A) (he : PE X e te) :
    PI X tg e (fun σ H R => te σ H fun x H1 => ∃ a dx gs l zs, x = .ref a ∧ H1 a = some (.ins C dx gs) ∧ gs.lookup f = some (.ref l) ∧ SqL X.K H1 l zs ∧ R (Itl X.K l) H1) := by
  refine ⟨fun pins s σ H R I h => thn (he.run pins s σ H _ I h) fun v s1 hh => ?_⟩
  obtain ⟨x, H1, I1, r1, a, dx, gs, l, zs, rfl, ea, el, hs, q⟩ := hh
  obtain rfl : v = Value.ref a := r1
  obtain ⟨mA, Oo, _⟩ := ins_get I1.hok ea
  obtain ⟨od, J, _⟩ := Oo.look
  obtain ⟨m, fr⟩ := I1.fr
  refine PySem.W.owit_iter fr I1.ok.mod.kin J M.at_ M.fn (wpAny_call (codeAny_mono (F.run X.A X.stack s1 H1 a dx gs l zs hr I1.env0 ea el hs) fun r s' hq => ?_))
  match r, hq with
  | .error e, hq => exact hq.elim
  | .ok (.ret u), hq =>
    obtain ⟨it, rfl, hsz, hn, ce⟩ := hq
    obtain ⟨v2, H2, I2, rv2, rfl, rfl⟩ := I1.after ce
    have hi : (upd H1 it (ItO l it 0)) it = some (ItO l it 0) := upd_same
    have eo := itO_get I2 hi
    have st : s'.heap.IsListIter it l 0 := ⟨_, eo, rfl, rfl⟩
    have hT : s'.TypeIs (.ref it) "list_iterator" := ⟨_, eo, rfl⟩
    unfold PySem.W.OwitIt
    refine wpAny_specialOf (name := Str.ofString "__next__") hT slot_listiter_next.lookup ?_
    have hi' := hi
    unfold ItO at hi'
    have I3 := inv_drop I2 hi'
    have hfp := inv_fp I2 hi (Nat.le_trans I1.sz hsz)
    have eD : dropH (upd H1 it (HO.ext fun h => h.get? it = some (GNX.itObj l 0))) it = H1 := dropH_upd hn
    have eD2 : dropH (upd H1 it (ItO l it 0)) it = H1 := dropH_upd hn
    rw [eD2] at I3 hfp
    refine ⟨it, [it], _, _, H1, rfl, I3, turn_list l it, st, fun b hb => ?_, q⟩
    have e : b = it := by simpa using hb
    rw [e]
    exact hfp
  | .ok .next, hq => exact False.elim hq
  | .ok .brk, hq => exact False.elim hq
  | .ok .cont, hq => exact False.elim hq
/-- the walk over an end's table -/
def diOwn (C : Addr) (f : Str) (te : DTE) : DTI := fun env O q => te env O fun d O1 => ∃ fs z ds, InsAt C O1 d fs ∧ fs.lookup f = some z ∧ asL O1 z = some ds ∧ q ds (gdL O1 z) O1
theorem di_own (S : Site X B k wx) (hk : 1 ≤ k) (M : Meth X.K C "__iter__" fa) (F : ItFn X.prog X.w X.K X.mg X.base C f fa) (h : PE X e (lift B te)) : PI X tg e (liftI B (diOwn C f te)) := PI.weak (pi_own M F (S.rm.mono hk) h) fun σ H R hh => by
  have hK := S.hK
  obtain ⟨env, O, F, q, R0, hh, kk⟩ := hh
  refine ⟨env, O, F, _, R0, hh, fun d v O1 H1 F1 a1 r1 h1 => ?_⟩
  obtain ⟨fs, z, ds, hi, hz, e, h1⟩ := h1
  obtain ⟨a, dx, gs, rfl, ea, rk⟩ := hi.ok a1.fh a1.ow r1
  obtain ⟨vz, el, rz⟩ := rk.look hz
  obtain ⟨l, xs, rfl, hs, hr⟩ := asL_sq a1.fh a1.ow rz e
  refine ⟨a, dx, gs, l, xs, rfl, ea, el, by rw [hK]; exact hs, kk ds _ O1 H1 F1 _ a1 ?_ h1⟩
  intro O2 H2 F2 i s2 fh2 ow2 gd
  obtain ⟨a', ys, e', hs', hr'⟩ := asL_sq fh2 ow2 (rz.mono s2) (asL_gd e gd)
  cases e'
  rw [hK]
  refine ⟨fun x hx => ?_, fun hi => ⟨ys, hs', by rw [hi, hr'.length]; exact Nat.le_refl _⟩⟩
  obtain ⟨v', e1, r'⟩ := hr'.get hx
  refine ⟨⟨ys, v', hs', e1⟩, fun v H3 hy => ?_⟩
  obtain ⟨rfl, hy⟩ := hy
  have : v = v' := Option.some.inj ((hy ys hs').symm.trans e1)
  subst this
  exact ⟨F2, .rfl' fh2 ow2, r'⟩
theorem i_own {env : Env} {O : Ow} {q : List D → (Ow → Prop) → Ow → Prop} (h : te env O fun d O1 => ∃ fs z ds, InsAt C O1 d fs ∧ fs.lookup f = some z ∧ asL O1 z = some ds ∧ q ds (gdL O1 z) O1) : diOwn C f te env O q := h
end
/-! ### f-strings -/
section
variable {X : Cx} {B : Bd} {k : Nat} {wx : DW} {e : Expr} {te : DTE} {pos : Pos}
def fmtK (q : DQ) : DQ := fun x O1 => match x with
  | .str y => y.length ≤ sizeLine ∧ q (.str y) O1
  | .int i => i.natAbs.log2 < 1920 ∧ q (.str (toString i)) O1
  | _ => False
def dFmt (te : DTE) : DTE := fun env O q => te env O (fmtK q)
theorem de_fmt (he : PE X e (lift B te)) : PE X (.FormattedValue e (-1) none pos) (lift B (dFmt te)) := PE.weak (pe_fmt he) fun σ H Q h => by
  obtain ⟨env, O, F, q, R, h, kk⟩ := h
  refine ⟨env, O, F, _, R, h, fun x v O1 H1 F1 a1 r1 h1 => ?_⟩
  cases x <;> try exact h1.elim
  · cases r1
    exact .inr ⟨_, rfl, h1.1, kk _ _ O1 H1 F1 a1 (.str _) h1.2⟩
  · cases r1
    exact .inl ⟨_, rfl, h1.1, kk _ _ O1 H1 F1 a1 (.str _) h1.2⟩
/-- the parts -/
inductive DJ (X : Cx) (B : Bd) : List Expr → List DTE → Prop where
  | nil : DJ X B [] []
  | cons {e : Expr} {t : DTE} {es : List Expr} {ts : List DTE} (h : PE X e (lift B t)) (r : DJ X B es ts) : DJ X B (e :: es) (t :: ts)
theorem DJ.pj : ∀ {es : List Expr} {ts : List DTE}, DJ X B es ts → PJ X es (ts.map (lift B))
  | _, _, .nil => .nil
  | _, _, .cons h r => .cons h r.pj
def jsK (rest : Str → Env → Ow → DQ → Prop) (acc : Str) (env : Env) (q : DQ) : DQ := fun x O1 => match x with
  | .str y => (acc ++ y).length ≤ sizeLine ∧ rest (acc ++ y) env O1 q
  | _ => False
def dJs : List DTE → Str → Env → Ow → DQ → Prop
  | [], acc, _, O, q => q (.str acc) O
  | t :: ts, acc, env, O, q => t env O (jsK (dJs ts) acc env q)
theorem js_sim : ∀ {ts : List DTE} {acc : Str} {env : Env} {O : Ow} {σ : St} {H F : Hp} {q : DQ} {Q : VK}, Rel B env O σ H F → dJs ts acc env O q → (∀ d v O' H' F', After B.K O H F O' H' F' → RV B.K F' d v → q d O' → Q v H') →
    tJs (ts.map (lift B)) acc σ H fun out H1 => Q (.str out) H1
  | [], acc, env, O, σ, H, F, q, Q, R, h, kk => kk _ _ O H F (.refl R) (.str _) h
  | t :: ts, acc, env, O, σ, H, F, q, Q, R, h, kk => by
    refine ⟨env, O, F, _, R, h, fun x v O1 H1 F1 a1 r1 h1 => ?_⟩
    cases x <;> try exact h1.elim
    cases r1
    exact ⟨_, rfl, h1.1, js_sim (R.call a1) h1.2 fun d v O' H' F' a => kk d v O' H' F' (a1.trans a)⟩
theorem de_fstr {v1 v2 : Expr} {rest : List Expr} {ts : List DTE} (h : DJ X B (v1 :: v2 :: rest) ts) : PE X (.JoinedStr (v1 :: v2 :: rest) pos) (lift B (dJs ts Str.empty)) := PE.weak (pe_joined h.pj) fun σ H Q h => by
  obtain ⟨env, O, F, q, R, h, kk⟩ := h
  exact js_sim R h kk
end
section
variable {env : Env} {O : Ow} {q : DQ} {te : DTE} {ts : List DTE} {acc : Str}
theorem i_fmt (h : te env O (fmtK q)) : dFmt te env O q := h
theorem i_fmtS {y : Str} (hl : y.length ≤ 16777216) (h : q (.str y) O) : fmtK q (.str y) O := ⟨by rw [sizeLine_eq]; exact hl, h⟩
theorem i_fmtI {i : Int} (hl : i.natAbs < 2 ^ 1000) (h : q (.str (toString i)) O) : fmtK q (.int i) O := ⟨Nat.lt_of_lt_of_le (PySem.Flt.log2_lt_of (k := 1000) (by decide) hl) (by decide), h⟩
theorem i_js {t : DTE} (h : t env O (jsK (dJs ts) acc env q)) : dJs (t :: ts) acc env O q := h
theorem i_js0 (h : q (.str acc) O) : dJs [] acc env O q := h
theorem i_jsK {y : Str} (hl : (acc ++ y).length ≤ 16777216) (h : dJs ts (acc ++ y) env O q) : jsK (dJs ts) acc env q (.str y) O := ⟨by rw [sizeLine_eq]; exact hl, h⟩
end
/-! ### C(k = v, ..) -/
section
variable {X : Cx} {B : Bd} {pos p : Pos} {k j n : Nat} {wx : DW} {x qn : Str} {st : Stmt} {kws : List (Str × V)} {ps : List Str} {fn : DF} {C f : Addr} {tB : DTA}
theorem run_mkGK {pins : List (Addr × Obj)} {σ : St} {H : Hp} {s : Shared} {Q : VK} {ws : List Value} {zs : List V} {W : WX} {sp : Sp} {fd : FuncData} {ks : List Str} {g : List Value → List Value → List Value} {gV : List V → List V → List V}
    (M : Mk X.K C f) (Fn : FnG X.prog X.w X.K X.mg X.base (L2.CX X.prog X.w) k f fd ps sp) (hgd : X.A.guards = some []) (hr : Room (k + 1) X.A) (hb : KBn X.K fd ps 1 ks g gV) (tk : Takes X W)
    (I : Inv X pins σ H s) (r : Vals zs ws) (l2 : zs.length = ks.length)
    (h : ∀ x dx, H x = none → H dx = none → dx ≠ x → sp (gV [.ref x] zs) (upd (upd H dx (.own x)) x (.ins C dx [])) (fun v H2 => v = .non ∧ Q (.ref x) H2) (fun c d H' => W c d σ H')) :
    wpAny (model X.prog X.w) X.A (call (.ref C) [] (ks.zip ws)) (EP X pins σ Q) X.xe s := by
  have z := h (s.heap.objs.size + 1) s.heap.objs.size (I.hok.fresh (Nat.le_succ _)) (I.hok.fresh (Nat.le_refl _)) (Nat.ne_of_lt (Nat.lt_succ_self _))
  have J := Inv.made (C := C) I
  have rr := hb.rel (vs := [V.ref (s.heap.objs.size + 1)]) (us := [Value.ref (s.heap.objs.size + 1)]) (.cons rfl .nil) r
  refine wpAny_call (make_map (f := f) I.kIn M.makes M.init (beq_iff_eq.mp M.fn) (codeAny_mono (Fn.run _ X.stack _ _ ⟨[Value.ref (s.heap.objs.size + 1)], ks.zip ws⟩ _ _ _ _ hgd (hr.make C [] (ks.zip ws))
    (J.env0.make C [] (ks.zip ws)) (hb.to _ [Value.ref (s.heap.objs.size + 1)] ws J.kIn rfl (r.length.symm.trans l2)) rr z) fun r s' y => ?_))
  match r, y with
  | .error e, y => exact tk _ s' (XE.of_call J (fun _ _ _ z => z) y)
  | .ok (.ret u), y =>
    obtain ⟨v, H', J2, rv, ev, q3⟩ := J.after y
    subst ev
    exact ⟨rv, ⟨V.ref (s.heap.objs.size + 1), H', J2, rfl, q3⟩⟩
  | .ok .next, y => exact False.elim y
  | .ok .brk, y => exact False.elim y
  | .ok .cont, y => exact False.elim y
def dMakeK0 (C : Addr) (fn : DF) (n l : Nat) (w : DW) (ix : List Nat) (tb : DTA) : DTE := fun env O q => tb env O fun es O1 => es.length = l ∧ (∀ x, (pick ix (x :: es)).length = n) ∧ ∀ x dx, O1 x = none → O1 dx = none → dx ≠ x →
  fn (pick ix (.ref x :: es)) (setO O1 x (.ins C dx [])) (fun d O2 => d = .non ∧ q (.ref x) O2) fun c fs O' => w c fs env O'
theorem so_makeFK0 {ks : List Str} {ix : List Nat} {kwl : List Keyword} (S : Site X B k wx) (Cl : Fn X.prog X.w X.K X.mg X.base "__init__" qn st [] kws ps n j fn f) (hj : j + 1 ≤ k) (hm : X.mg x = some (.ref C)) (M : Mk X.K C f) (hb : BdK "__init__" qn st ps 1 ks ix) (hg : Gl X x) (hkw : PK X kwl (liftA B tB))
    (hall : (backToKw pos (keywordEach kwl X.env)).all (·.1.isSome) = true := by rfl) (hks : (backToKw pos (keywordEach kwl X.env)).filterMap (·.1) = ks := by rfl)
    (hdb : (x == ("__debug__" : Str)) = false := by decide) (hpl : ((backTo pos (starEach [] X.env)).any (·.1) || (backToKw pos (keywordEach kwl X.env)).any (·.1.isNone)) = false := by rfl) :
    PE X (.Call (.Name x p) [] kwl pos) (lift B (dMakeK0 C fn n ks.length wx ix tB)) := by
  obtain ⟨fd, G, F⟩ := Cl.ex
  refine ⟨fun pins s σ H Q I h => wpAny_Call_Name_kw (ld_glob I hg hm ?_ hdb)⟩
  obtain ⟨env, O, F0, q, R, h, kk⟩ := h
  refine PySem.W.callWith_KW0 (h₀ := X.base) I.ok.mod.kin M.kp hall (thn (hkw.run pos pins s σ H (fun zs H1 => zs.length = ks.length ∧ ∀ x dx, H1 x = none → H1 dx = none → dx ≠ x → spD B.K n fn (pick ix ([.ref x] ++ zs)) (upd (upd H1 dx (.own x)) x (.ins C dx [])) (fun v H2 => v = .non ∧ Q (.ref x) H2) (fun c d H' => liftX B wx c d σ H')) I ⟨env, O, F0, _, R, h, ?_⟩) fun ws s2 ⟨zs, H2, I2, rz, l2, hz⟩ => ⟨I2.kIn, ?_⟩) hpl
  · intro es zs O1 H1 F1 a1 r1 q1
    refine ⟨r1.length ▸ q1.1, fun x dx hx hdx hne => ?_⟩
    have R1 := R.call a1
    have h1 := q1.2.2 x dx (R1.free hx).1 (R1.free hdx).1 hne
    have b1 := R1.junk hdx (.own x)
    have R2 := R1.call b1
    have hx1 : (upd H1 dx (.own x)) x = none := by rw [upd_ne (Ne.symm hne)]; exact hx
    have b2 := R2.own hx1 (o := .ins C dx []) (u := .ins C dx []) ⟨[], rfl, .nil⟩
    have R3 := R2.call b2
    refine ⟨F1, _, pick ix (.ref x :: es), _, _, R3.fh, R3.ow, pick_rv (.cons (.ref x) r1) ix, q1.2.1 _, h1, fun d v O' H' F' a' r' hq => ?_, fun c dx fs O' H' F' a' xr hx => ⟨env, O', F', fs, R3.call a', xr, hx⟩⟩
    obtain ⟨rfl, hq⟩ := hq
    cases r'
    exact ⟨rfl, kk _ _ O' H' F' (a1.trans (b1.trans (b2.trans a'))) (.ref x) hq⟩
  · rw [hks]
    exact run_mkGK M (S.hK ▸ G) S.gd (S.rm.mono hj) (FunD.bk F hb) S.tk I2 rz l2 hz
theorem i_makeK0 {w : DW} {ix : List Nat} {l : Nat} {env : Env} {O : Ow} {q : DQ} (h : tB env O fun es O1 => es.length = l ∧ (∀ x, (pick ix (x :: es)).length = n) ∧ ∀ x dx, O1 x = none → O1 dx = none → dx ≠ x →
  fn (pick ix (.ref x :: es)) (setO O1 x (.ins C dx [])) (fun d O2 => d = .non ∧ q (.ref x) O2) fun c fs O' => w c fs env O') : dMakeK0 C fn n l w ix tB env O q := h
end
/-! ### == of an own instance and anything -/
def nfB (x : Str) : Fac := fun K => tyKnown.all fun a => PySem.W.notFirst K (He.ga K x) (.type a)
theorem nfB_ok {K : Frag} {x : Str} (h : nfB x K = true) : ∀ a ∈ tyKnown, PySem.W.notFirst K (He.ga K x) (.type a) = true := fun a ha => List.all_eq_true.mp h a ha
section
variable {X : Cx} {B : Bd} {k j : Nat} {wx : DW} {C f : Addr} {fd : FuncData} {ps : List Str} {sp : Sp} {a b : Expr} {ta tb : DTE} {pos : Pos} {x qn : Str} {st : Stmt} {kws : List (Str × V)} {fn : DF}
def rOwnEqA (K : Frag) (C : Addr) (sp : Sp) : R2 := fun x y H Q => ∃ a dx fs, x = .ref a ∧ H a = some (.ins C dx fs) ∧ ((∃ b dy gs, y = .ref b ∧ H b = some (.ins C dy gs)) ∨ ∃ t, t ∈ tyKnown ∧ TyX K H y (.type t)) ∧ sp [.ref a, y] H (fun v H' => ∃ c, v = .bl c ∧ Q (.bl c) H') (fun _ _ _ => False)
theorem op_ownEqA (nf : ∀ a ∈ tyKnown, PySem.W.notFirst X.K C (.type a) = true) (sc : Meth X.K C "__eq__" f) (Fn : FnG X.prog X.w X.K X.mg X.base (L2.CX X.prog X.w) k f fd ps sp) (hgd : X.A.guards = some []) (hr : Room k X.A) (hb : Binds X.K fd ps []) : OpR X (compareOp .Eq) (rOwnEqA X.K C sp) := by
  intro pins s σ H x y v u Q I rx ry h
  obtain ⟨a, dx, fs, rfl, ea, hy, h⟩ := h
  obtain rfl : v = Value.ref a := rx
  obtain ⟨mA, Oo, _⟩ := ins_get I.hok ea
  obtain ⟨od, J, _⟩ := Oo.look
  obtain ⟨m, fr⟩ := I.fr
  have fin := run_G0 (vs := [.ref a, y]) (us := [.ref a, u]) (E := X.xe) Fn hgd hr hb I.env0 I (.cons rfl (.cons ry .nil)) h
  have fin2 : wpAny (model X.prog X.w) X.A (call (.ref f) [.ref a, u]) (PySem.W.CmpBack (EP X pins σ Q)) X.xe s := thn fin fun r s' z => by
    obtain ⟨w, H', I', rw', c, rfl, q⟩ := z
    obtain rfl : r = Value.bool c := rw'
    exact ⟨.bl c, H', I', rfl, q⟩
  rcases hy with ⟨b, dy, gs, rfl, eb⟩ | ⟨t, ht, ty⟩
  · obtain rfl : u = Value.ref b := ry
    obtain ⟨mB, O2, _⟩ := ins_get I.hok eb
    obtain ⟨od2, J2, _⟩ := O2.look
    exact PySem.W.cmp_K (op := .Eq) (tb := .ref C) (by have := hr.un; omega) fr I.ok.mod.kin J J2.type (by simp [PySem.W.notFirst]) sc.at_ sc.fn fin2
  · obtain ⟨P, Z, p, _⟩ := kit_of I ry ty
    exact PySem.W.cmp_K (op := .Eq) (tb := .type t) (by have := hr.un; omega) fr I.ok.mod.kin J (Z.ty _ _ I.kIn p) (nf t ht) sc.at_ sc.fn fin2
/-- what may stand on the other side -/
def AnyI (C : Addr) (O : Ow) (y : D) : Prop := (∃ gs, InsAt C O y gs) ∨ ∃ t, tyN O y = some t
def dOwnEqA (C : Addr) (fn : DF) : DR2 := fun x y O q => ∃ fs, InsAt C O x fs ∧ AnyI C O y ∧ fn [x, y] O (fun d O' => ∃ c, d = .bl c ∧ q (.bl c) O') (fun _ _ _ => False)
theorem sim_ownEqA : Sim2 B (rOwnEqA B.K C (spD B.K 2 fn)) (dOwnEqA C fn) := by
  intro env O σ H F x y dx dy q Q R rx ry h kk
  obtain ⟨fs, i1, i2, h⟩ := h
  obtain ⟨a, d1, fs', rfl, e1, _⟩ := i1.ok R.fh R.ow rx
  refine ⟨a, d1, fs', rfl, e1, ?_, F, O, [dx, dy], _, _, R.fh, R.ow, .cons rx (.cons ry .nil), rfl, h, fun d v O' H' F' a rr hq => ?_, fun _ _ _ _ _ _ _ _ z => z⟩
  · rcases i2 with ⟨gs, i2⟩ | ⟨t, e⟩
    · obtain ⟨b, d2, gs', rfl, e2, _⟩ := i2.ok R.fh R.ow ry
      exact .inl ⟨b, d2, gs', rfl, e2⟩
    · exact .inr ⟨t, tyN_mem e, tyN_ok R.fh R.ow ry e⟩
  · obtain ⟨b, rfl, hq⟩ := hq
    cases rr
    exact ⟨b, rfl, kk _ _ O' H' F' a (.bl _) hq⟩
theorem so_ownEqA (S : Site X B j wx) (nf : ∀ a ∈ tyKnown, PySem.W.notFirst X.K C (.type a) = true) (sc : Meth X.K C "__eq__" f) (Cl : Fn X.prog X.w X.K X.mg X.base x qn st [] kws ps 2 k fn f) (hj : k ≤ j) (hb : Bd0 x qn st ps) (ha : PE X a (lift B ta)) (hb2 : PE X b (lift B tb)) : PE X (.Compare a [.Eq] [b] pos) (lift B (dOp (dOwnEqA C fn) ta tb)) := by
  obtain ⟨fd, G, F⟩ := Cl.ex
  exact de_cmp (op_ownEqA nf sc G S.gd (S.rm.mono hj) (FunD.b0 F hb)) (by rw [S.hK]; exact sim_ownEqA) ha hb2 (nomark _)
theorem st_ownEqA (S : Site X B j wx) (nf : ∀ a ∈ tyKnown, PySem.W.notFirst X.K C (.type a) = true) (sc : Meth X.K C "__eq__" f) (Cl : Fn X.prog X.w X.K X.mg X.base x qn st [] kws ps 2 k fn f) (hj : k ≤ j) (hb : Bd0 x qn st ps) (ha : PE X a (lift B ta)) (hb2 : PE X b (lift B tb)) : PT X (.Compare a [.Eq] [b] pos) (liftT B (dTest (dOp (dOwnEqA C fn) ta tb))) := by
  obtain ⟨fd, G, F⟩ := Cl.ex
  exact dt_cmp (op_ownEqA nf sc G S.gd (S.rm.mono hj) (FunD.b0 F hb)) (by rw [S.hK]; exact sim_ownEqA) ha hb2 (nomark _)
theorem i_ownEqA {O : Ow} {q : DQ} {ns : List Str} {ds : List D} {y : D} (hy : AnyI C O y) (h : fn [.ins C ns ds, y] O (fun d O' => ∃ c, d = .bl c ∧ q (.bl c) O') (fun _ _ _ => False)) : dOwnEqA C fn (.ins C ns ds) y O q := ⟨_, ⟨rfl, rfl⟩, hy, h⟩
/-! ### o.clear() -/
variable {e : Expr} {apos : Pos} {to : DTE}
def clearK (q : DQ) : DQ := fun x O1 => match x with
  | .ref p => ∃ es, O1 p = some (.lst es) ∧ q .non (setO O1 p (.lst []))
  | _ => False
def dClear (to : DTE) : DTE := fun env O q => to env O (clearK q)
theorem so_clear (S : Site X B j wx) (ho : PE X e (lift B to)) (hbase : attributeBase e "clear" X.env (eval e X.env) = eval e X.env := by rfl) (hline : (apos.endLine == pos.line) = true := by rfl) : PE X (.Call (.Attribute e "clear" apos) [] [] pos) (lift B (dClear to)) :=
  PE.weak (pe_bm0 PySem.F.plainAttrs_list PySem.F.slot_list_clear (by first | exact PySem.F.type_list_clear | decide +kernel) mt_clear ho hbase hline) fun σ H Q h => by
    obtain ⟨env, O, F, q, R, h, k⟩ := h
    refine ⟨env, O, F, _, R, h, fun x v O1 H1 F1 a1 r1 h1 => ?_⟩
    cases x <;> try exact h1.elim
    rename_i p
    cases r1
    obtain ⟨es, e1, h1⟩ := h1
    obtain ⟨_, ho, e2, vs, rfl, rr⟩ := a1.ow p _ e1
    have R1 := R.call a1
    exact ⟨.inl ⟨rfl, vs, SqL.of e2⟩, p, vs, rfl, rfl, e2, k _ _ _ _ F1 (a1.trans (R1.put e1 (u := .lst []) ⟨[], rfl, .nil⟩)) .non h1⟩
theorem i_clear {env : Env} {O : Ow} {q : DQ} (h : to env O (clearK q)) : dClear to env O q := h
theorem i_clearK {O : Ow} {q : DQ} {p : Addr} {es : List D} (e1 : O p = some (.lst es)) (h : q .non (setO O p (.lst []))) : clearK q (.ref p) O := ⟨es, e1, h⟩
end
end DL

set_option Elab.async false
set_option linter.all false
set_option maxRecDepth 100000
set_option maxHeartbeats 4000000
/-! # DLQ: raise C(..) of an own class over ValueError; try .. except C as e; e.f -/
namespace DL
open PySem PySem.Spec PyProof.Rows L2
/-! ### an exception's __init__ that stores its parameters -/
def exSp1 (C : Addr) (f : Str) : Sp := fun vs H Q _ => ∃ a v, vs = [.ref a, v] ∧ H a = some (exo a C none) ∧ ∀ dx, H dx = none → dx ≠ a → Q .non (upd (upd H dx (exd dx [(f, v)])) a (exo a C (some dx)))
def exSp2 (C : Addr) (f g : Str) : Sp := fun vs H Q _ => ∃ a v w, vs = [.ref a, v, w] ∧ H a = some (exo a C none) ∧ ∀ dx, H dx = none → dx ≠ a → Q .non (upd (upd (upd H dx (exd dx [(f, v)])) a (exo a C (some dx))) dx (exd dx [(g, w), (f, v)]))
/-- an own exception class with such an __init__ of two parameters -/
structure Ex2 (P : Program) (w : World) (K : Frag) (mg : Str → Option Value) (base : Heap) (C : Addr) (f g : Str) (fI : Addr) : Prop where
  ex : ∃ fd ps, FnOk P w K mg base CX0 1 fI fd ps (exSp2 C f g) ∧ Binds K fd ps []
structure Ex1 (P : Program) (w : World) (K : Frag) (mg : Str → Option Value) (base : Heap) (C : Addr) (f : Str) (fI : Addr) : Prop where
  ex : ∃ fd ps, FnOk P w K mg base CX0 1 fI fd ps (exSp1 C f) ∧ Binds K fd ps []
section
variable {P : Program} {w : World} {K : Frag} {mg : Str → Option Value} {base : Heap} {qn f g y z : Str} {st : Stmt} {C fI : Addr} {p1 p2 p3 p4 p5 p6 p7 p8 : Pos}
theorem ex2_E (F : HasD K "__init__" qn st [] [] fI) (S : FnScope ["self", y, z] ["self", y, z] (defScope st)) (b : Bd0 "__init__" qn st ["self", y, z]) (T : OexC K C) (n1 : PySem.W.findIn K (.ref C) f = some none) (n2 : PySem.W.findIn K (.ref C) g = some none)
    (hb : defBody st = [.Assign [.Attribute (.Name "self" p1) f p2] (.Name y p3) p4, .Assign [.Attribute (.Name "self" p5) g p6] (.Name z p7) p8])
    (hs1 : ∀ env : PySem.Env, swapsWith (.Name y p3) (some (.Attribute (.Name "self" p1) f p2)) p4.line env = pure false) (hs2 : ∀ env : PySem.Env, swapsWith (.Name z p7) (some (.Attribute (.Name "self" p5) g p6)) p8.line env = pure false)
    (dy : (y == ("__debug__" : Str)) = false := by decide) (dz : (z == ("__debug__" : Str)) = false := by decide) (cy : (y == ("__classdict__" : Str)) = false := by decide) (cz : (z == ("__classdict__" : Str)) = false := by decide) : Ex2 P w K mg base C f g fI := by
  obtain ⟨fd, F⟩ := F
  refine ⟨fd, ["self", y, z], FunD.ok F S (fun vs H Q E h => ?_) (fun cdv A outer s H vs Q E hr h => ?_), FunD.b0 F b⟩
  · obtain ⟨a, v, w, e, _⟩ := h
    rw [e]; rfl
  · obtain ⟨a, v, w', rfl, ea, q⟩ := h
    rw [hb]
    have vs0 := (S.par "self" (List.Mem.head _)).elim (fun z => (.inl z : Vis _ _)) (fun z => .inr (.inl z))
    have vs1 := (S.par y (by simp)).elim (fun z => (.inl z : Vis _ _)) (fun z => .inr (.inl z))
    have vs2 := (S.par z (by simp)).elim (fun z => (.inl z : Vis _ _)) (fun z => .inr (.inl z))
    refine ⟨_, pss_cons (ps_ost (pe_var (i := 0) rfl vs0) (pe_var (i := 1) rfl vs1 dy cy) (hs1 _)) (pss_one (ps_ost (pe_var (i := 0) rfl vs0) (pe_var (i := 2) rfl vs2 dz cz) (hs2 _))), ?_⟩
    refine ⟨v, rfl, .ref a, rfl, a, C, rfl, T, n1, .inl ⟨ea, fun dx h1 h2 => ?_⟩⟩
    refine ⟨w', rfl, .ref a, rfl, a, C, rfl, T, n2, .inr ⟨dx, [(f, v)], upd_same, ?_, by simp, q dx h1 h2⟩⟩
    rw [upd_ne h2, upd_same]
theorem ex1_E (F : HasD K "__init__" qn st [] [] fI) (S : FnScope ["self", y] ["self", y] (defScope st)) (b : Bd0 "__init__" qn st ["self", y]) (T : OexC K C) (n1 : PySem.W.findIn K (.ref C) f = some none)
    (hb : defBody st = [.Assign [.Attribute (.Name "self" p1) f p2] (.Name y p3) p4])
    (hs1 : ∀ env : PySem.Env, swapsWith (.Name y p3) (some (.Attribute (.Name "self" p1) f p2)) p4.line env = pure false)
    (dy : (y == ("__debug__" : Str)) = false := by decide) (cy : (y == ("__classdict__" : Str)) = false := by decide) : Ex1 P w K mg base C f fI := by
  obtain ⟨fd, F⟩ := F
  refine ⟨fd, ["self", y], FunD.ok F S (fun vs H Q E h => ?_) (fun cdv A outer s H vs Q E hr h => ?_), FunD.b0 F b⟩
  · obtain ⟨a, v, e, _⟩ := h
    rw [e]; rfl
  · obtain ⟨a, v, rfl, ea, q⟩ := h
    rw [hb]
    have vs0 := (S.par "self" (List.Mem.head _)).elim (fun z => (.inl z : Vis _ _)) (fun z => .inr (.inl z))
    have vs1 := (S.par y (by simp)).elim (fun z => (.inl z : Vis _ _)) (fun z => .inr (.inl z))
    refine ⟨_, pss_one (ps_ost (pe_var (i := 0) rfl vs0) (pe_var (i := 1) rfl vs1 dy cy) (hs1 _)), ?_⟩
    exact ⟨v, rfl, .ref a, rfl, a, C, rfl, T, n1, .inl ⟨ea, fun dx h1 h2 => q dx h1 h2⟩⟩
end
/-! ### raise C(..) -/
structure ExC (K : Frag) (C fI : Addr) : Prop where
  T : OexC K C
  iC : PySem.W.findIn K (.ref C) "__init__" = some (some (.ref fI))
  tI : PySem.W.typeIn K (.ref fI) = some (.type "function")
section
variable {X : Cx} {B : Bd} {k : Nat} {wx : DW} {x f g : Str} {C fI : Addr} {e1 e2 : Expr} {p p2 pos : Pos} {tA : DTA}
def dRaise (C : Addr) (fs : List Str) (wx : DW) (tA : DTA) : DTS := fun _ env O => tA env O fun ds O1 => ds.length = fs.length ∧ wx (.ref C) (fs.zip ds).reverse env O1
theorem upd_end {H1 : Hp} {a dx : Addr} {o1 o2 o3 o4 : HO} (ha : H1 a = none) (hne : dx ≠ a) : upd (del (upd (upd (upd H1 a o1) dx o2) a o3) a) dx o4 = upd H1 dx o4 := by
  funext b
  by_cases hb : b = dx
  · subst hb; rw [upd_same, upd_same]
  · rw [upd_ne hb, upd_ne hb]
    by_cases hba : b = a
    · subst hba; rw [del_same, ha]
    · rw [del_ne hba, upd_ne hba, upd_ne hb, upd_ne hba]
theorem upd_end2 {H1 : Hp} {a dx : Addr} {o1 o2 o3 o4 o5 : HO} (ha : H1 a = none) (hne : dx ≠ a) : upd (del (upd (upd (upd (upd H1 a o1) dx o2) a o3) dx o5) a) dx o4 = upd H1 dx o4 := by
  funext b
  by_cases hb : b = dx
  · subst hb; rw [upd_same, upd_same]
  · rw [upd_ne hb, upd_ne hb]
    by_cases hba : b = a
    · subst hba; rw [del_same, ha]
    · rw [del_ne hba, upd_ne hb, upd_ne hba, upd_ne hb, upd_ne hba]
theorem ds_raise2 (S : Site X B k wx) (hk : 2 ≤ k) (hcalm : X.calm = true) (E : ExC X.K C fI) (Ei : Ex2 X.prog X.w X.K X.mg X.base C f g fI) (hm : X.mg x = some (.ref C)) (hg : Gl X x) (ha : PA X [e1, e2] (liftA B tA))
    (hdb : (x == ("__debug__" : Str)) = false := by decide) (he : starEach [e1, e2] X.env = (false, eval e1 X.env) :: starEach [e2] X.env := by rfl) (hpl : (backTo p2 (starEach [e2] X.env)).any (·.1) = false := by rfl) :
    PS X (.Raise (some (.Call (.Name x p) [e1, e2] [] p2)) none pos) (liftS B (dRaise C [f, g] wx tA)) := by
  obtain ⟨fd, ps, F1, hb⟩ := Ei.ex
  refine PS.weak (ps_raise hcalm S.tk (pmk_oex E.T E.iC E.tI F1 (S.rm.mono hk) hb .nil pass0 hg hm ha hdb he hpl)) fun D σ H h => ?_
  obtain ⟨env, O, F, d, R, h, m⟩ := h
  refine ⟨env, O, F, _, R, h, fun ds vs O1 H1 F1 a1 r1 h1 => ?_⟩
  match ds, r1, h1 with
  | [u1, u2], r1, h1 =>
    obtain ⟨v, w, rfl, rv, rw'⟩ := r1.two
    refine ⟨by simp, fun a hA => ⟨a, v, w, rfl, upd_same, fun dx h2 h3 => ⟨rfl, dx, [(g, w), (f, v)], ?_, upd_same, ?_, ?_⟩⟩⟩
    · rw [upd_ne (Ne.symm h3), upd_same]
    · rw [upd_ne h3] at h2; exact h2
    · rw [upd_ne h3] at h2
      rw [upd_end2 hA h3]
      have R1 := R.call a1
      exact ⟨env, O1, F1, _, R1.call (R1.junk h2 _), .inr ⟨dx, _, rfl, upd_same, .cons ⟨rfl, rw'⟩ (.cons ⟨rfl, rv⟩ .nil)⟩, h1.2⟩
theorem ds_raise1 (S : Site X B k wx) (hk : 2 ≤ k) (hcalm : X.calm = true) (E : ExC X.K C fI) (Ei : Ex1 X.prog X.w X.K X.mg X.base C f fI) (hm : X.mg x = some (.ref C)) (hg : Gl X x) (ha : PA X [e1] (liftA B tA))
    (hdb : (x == ("__debug__" : Str)) = false := by decide) (he : starEach [e1] X.env = (false, eval e1 X.env) :: starEach [] X.env := by rfl) (hpl : (backTo p2 (starEach [] X.env)).any (·.1) = false := by rfl) :
    PS X (.Raise (some (.Call (.Name x p) [e1] [] p2)) none pos) (liftS B (dRaise C [f] wx tA)) := by
  obtain ⟨fd, ps, F1, hb⟩ := Ei.ex
  refine PS.weak (ps_raise hcalm S.tk (pmk_oex E.T E.iC E.tI F1 (S.rm.mono hk) hb .nil pass0 hg hm ha hdb he hpl)) fun D σ H h => ?_
  obtain ⟨env, O, F, d, R, h, m⟩ := h
  refine ⟨env, O, F, _, R, h, fun ds vs O1 H1 F1 a1 r1 h1 => ?_⟩
  match ds, r1, h1 with
  | [u1], r1, h1 =>
    obtain ⟨v, rfl, rv⟩ := r1.one
    refine ⟨by simp, fun a hA => ⟨a, v, rfl, upd_same, fun dx h2 h3 => ⟨rfl, dx, [(f, v)], upd_same, ?_, ?_, ?_⟩⟩⟩
    · rw [upd_ne h3, upd_same]
    · rw [upd_ne h3] at h2; exact h2
    · rw [upd_ne h3] at h2
      rw [upd_end hA h3]
      have R1 := R.call a1
      exact ⟨env, O1, F1, _, R1.call (R1.junk h2 _), .inr ⟨dx, _, rfl, upd_same, .cons ⟨rfl, rv⟩ .nil⟩, h1.2⟩
theorem i_raise {fs : List Str} {E : DEnds} {env : Env} {O : Ow} (h : tA env O fun ds O1 => ds.length = fs.length ∧ wx (.ref C) (fs.zip ds).reverse env O1) : dRaise C fs wx tA E env O := h
end
/-! ### try .. except C as e -/
section
variable {X : Cx} {B : Bd} {k i : Nat} {wx : DW} {x n : Str} {c : Value} {body suite : List Stmt} {b₀ : Stmt} {np pos pos' : Pos} {tb : DW → DTS} {ts : Addr → Value → List (Str × D) → DTS}
theorem Site.tr (S : Site X B k wx) {pn : List (Addr × Obj)} {xe : Value → Shared → Prop} {O1 : Ow} {H1 F1 : Hp} {w : DW} (tk : TakesD (X.tr pn xe) ⟨B.K, O1, H1, F1⟩ w) (po : PassesOwn (model X.prog X.w) X.A X.env xe) : Site (X.tr pn xe) ⟨B.K, O1, H1, F1⟩ k w :=
  ⟨S.hK, S.gd, S.rm, tk, po⟩
/-- within an except suite: the exception's own dict stands -/
structure InSu (B' : Bd) (d : Option Addr) (fs : List (Str × D)) : Prop where
  xr : XRel B'.K B'.F B'.H d fs
  ow : OwOk B'.K B'.O B'.H B'.F
def dTryAs (K : Frag) (c : Value) (i : Nat) (tb : DW → DTS) (ts : Addr → Value → List (Str × D) → DTS) (wx : DW) : DTS := fun E env O => tb (fun cls fs env' O' => ∃ b, PySem.W.exmOne K cls c = some b ∧
  (b = true → ∀ a, O' a = none → ts a cls fs { nx := fun e o => E.nx (e.set i none) o, rt := E.rt, bk := fun e o => E.bk (e.set i none) o, ct := fun e o => E.ct (e.set i none) o } (env'.set i (some (.ref a))) O') ∧ (b = false → wx cls fs env' O')) E env O
theorem ds_try_as (S : Site X B k wx) (hs : X.stack = X.env :: X.outer) (hf : X.env.frame = some X.env.locals) (hN : X.N.Nodup) (hi : X.N[i]? = some n) (hln : X.env.kindOf n = some .local) (hc : Names X x c)
    (hb : ∀ (O1 : Ow) (H1 F1 : Hp) (w : DW) (pn : List (Addr × Obj)) (xe : Value → Shared → Prop), Site (X.tr pn xe) ⟨B.K, O1, H1, F1⟩ k w → PSs (X.tr pn xe) body (liftS ⟨B.K, O1, H1, F1⟩ (tb w)))
    (hsu : ∀ (a : Addr) (oe : Obj) (cls : Value) (d : Option Addr) (pn : List (Addr × Obj)) (O1 : Ow) (H1 F1 : Hp) (fs : List (Str × D)), Zc cls d oe → (∃ vs, oe.data = .fields vs) → InSu ⟨B.K, O1, H1, F1⟩ d fs →
      PSs (X.suite a ((a, oe) :: pn)) (b₀ :: suite) (liftS ⟨B.K, O1, H1, F1⟩ (ts a cls fs))) :
    PS X (.Try body [.ExceptHandler (some (.Name x np)) (some n) (b₀ :: suite) pos'] [] [] pos) (liftS B (dTryAs X.K c i tb ts wx)) := by
  refine PS.weak (ps_try_as (tb := fun W D σ H => ∃ (O1 : Ow) (H1 F1 : Hp) (w : DW), (∀ c d σ H, liftX ⟨B.K, O1, H1, F1⟩ w c d σ H → W c d σ H) ∧ liftS ⟨B.K, O1, H1, F1⟩ (tb w) D σ H)
    (ts := fun a cls d Dn σ H => ∃ (O1 : Ow) (H1 F1 : Hp) (fs : List (Str × D)), InSu ⟨B.K, O1, H1, F1⟩ d fs ∧ liftS ⟨B.K, O1, H1, F1⟩ (ts a cls fs) Dn σ H) hs hf hN hi hln hc S.tk ?_ ?_) fun D σ H h => ?_
  · intro W pn xe tk po
    refine ⟨fun pins s σ H E I h => ?_⟩
    obtain ⟨O1, H1, F1, w, hw, h⟩ := h
    exact (hb O1 H1 F1 w pn xe (S.tr (Takes.imp tk hw) po)).run pins s σ H E I h
  · intro a oe cls d pn hz hv
    refine ⟨fun pins s σ H E I h => ?_⟩
    obtain ⟨O1, H1, F1, fs, hin, h⟩ := h
    exact (hsu a oe cls d pn O1 H1 F1 fs hz hv hin).run pins s σ H E I h
  · obtain ⟨env, O, F, d, R, h, m⟩ := h
    refine ⟨O, H, F, _, ?_, env, O, F, d, ⟨.rfl' R.fh R.ow, R.sl⟩, h, ⟨m.nx, m.rt, m.bk, m.ct⟩⟩
    rintro cls dd σ' H' ⟨env', O', F', fs, R', xr, b, hb1, hyes, hno⟩
    have hO : ∀ a, dd = some a → O' a = none := fun a e => by
      rcases xr with ⟨z, _⟩ | ⟨a', gs, z, z2, _⟩
      · rw [z] at e; cases e
      · rw [z] at e; cases e
        cases q : O' a with
        | none => rfl
        | some o =>
          obtain ⟨_, ho, e2, r⟩ := R'.ow a o q
          rw [z2] at e2
          cases e2
          cases o <;> obtain ⟨_, r, _⟩ := r <;> cases r
    have ow' := R'.ow
    refine ⟨b, hb1, fun hbt a ha => ?_, fun hbf => ?_⟩
    · refine ⟨O', H', F', fs, ⟨xr, ow'⟩, env'.set i (some (.ref a)), O', F', _, ⟨.rfl' R'.fh R'.ow, R'.sl.setv (.ref a)⟩, hyes hbt a (R'.free ha).1, ?_⟩
      have af := R'.af
      exact ⟨fun e o σ'' h f a' sl z => m.nx _ o _ h f (af.trans a') sl.setn z, fun x v o h f a' r z => m.rt x v o h f (af.trans a') r z, fun e o σ'' h f a' sl z => m.bk _ o _ h f (af.trans a') sl.setn z, fun e o σ'' h f a' sl z => m.ct _ o _ h f (af.trans a') sl.setn z⟩
    · exact ⟨env', O', F', fs, ⟨R.af.trans R'.af, R'.sl⟩, xr, hno hbf⟩
/-- e.f of the caught exception -/
def xfK (a : Addr) (cls : Value) (C : Addr) (fs : List (Str × D)) (f : Str) (q : DQ) : DQ := fun x O1 => x = .ref a ∧ cls = .ref C ∧ ∃ v, fs.lookup f = some v ∧ q v O1
def dXf (a : Addr) (cls : Value) (C : Addr) (fs : List (Str × D)) (f : Str) (te : DTE) : DTE := fun env O q => te env O (xfK a cls C fs f q)
theorem de_xf {C a : Addr} {oe : Obj} {cls : Value} {d : Option Addr} {pn : List (Addr × Obj)} {f : Str} {fs : List (Str × D)} {e : Expr} {te : DTE} (T : XfC X.K C) (hno : PySem.W.findIn X.K (.ref C) f = some none) (hz : Zc cls d oe) (hv : ∃ vs, oe.data = .fields vs) (hin : InSu B d fs)
    (he : PE (X.suite a ((a, oe) :: pn)) e (lift B te)) (hb : attributeBase e f X.env (eval e X.env) = eval e X.env := by rfl) : PE (X.suite a ((a, oe) :: pn)) (.Attribute e f pos) (lift B (dXf a cls C fs f te)) :=
  PE.weak (pe_xf T hno hz hv he hb) fun σ H Q h => by
    obtain ⟨env, O, F, q, R, h, kk⟩ := h
    refine ⟨env, O, F, _, R, h, fun x v O1 H1 F1 a1 r1 h1 => ?_⟩
    obtain ⟨rfl, ec, u, hu, h1⟩ := h1
    cases r1
    have b1 := R.af.trans a1
    rcases hin.xr with ⟨z, z2⟩ | ⟨dd, gs, z, z2, rk⟩
    · subst z2; cases hu
    · obtain ⟨v, e4, rv⟩ := (RKV.mono b1.ff rk).look hu
      have hO : B.O dd = none := by
        cases q2 : B.O dd with
        | none => rfl
        | some o =>
          obtain ⟨_, ho, e2, r⟩ := hin.ow dd o q2
          rw [z2] at e2
          cases e2
          cases o <;> obtain ⟨_, r, _⟩ := r <;> cases r
      exact ⟨rfl, ec, dd, gs, v, z, b1.kp dd _ z2 hO, e4, kk _ _ O1 H1 F1 a1 rv h1⟩
theorem i_xf {a : Addr} {cls : Value} {C : Addr} {fs : List (Str × D)} {f : Str} {te : DTE} {env : Env} {O : Ow} {q : DQ} (h : te env O (xfK a cls C fs f q)) : dXf a cls C fs f te env O q := h
theorem i_xfK {a : Addr} {C : Addr} {fs : List (Str × D)} {f : Str} {v : D} {O : Ow} {q : DQ} (e : fs.lookup f = some v) (h : q v O) : xfK a (.ref C) C fs f q (.ref a) O := ⟨rfl, rfl, v, e, h⟩
theorem i_tryAs {K : Frag} {E : DEnds} {env : Env} {O : Ow} (h : tb (fun cls fs env' O' => ∃ b, PySem.W.exmOne K cls c = some b ∧
  (b = true → ∀ a, O' a = none → ts a cls fs { nx := fun e o => E.nx (e.set i none) o, rt := E.rt, bk := fun e o => E.bk (e.set i none) o, ct := fun e o => E.ct (e.set i none) o } (env'.set i (some (.ref a))) O') ∧ (b = false → wx cls fs env' O')) E env O) : dTryAs K c i tb ts wx E env O := h
end
/-! ### the head's facts of an own exception class over ValueError -/
def excO (K : Frag) (C : Addr) : Bool := match K.lookup C with
  | some ⟨.type "type", _, .cls cd, sl⟩ => (match cd.mro, sl.toList with
    | .ref C' :: bm, [_, _, _, _, some (.builtin n), _] => C' == C && n == "ValueError.__new__" && !cd.hasDel && cd.hasDict && PySem.HandSPX.refsVE bm
    | _, _ => false)
  | _ => false
theorem excO_ok {K : Frag} {C : Addr} (q : excO K C = true) : ∃ nm q N bs bm sn sub ab col dd k0 k1 k2 k3 k5, K.lookup C = some (excClassObj nm q C N bs bm true sn sub ab col dd k0 k1 k2 k3 k5 "ValueError.__new__") ∧ PySem.HandSPX.refsVE bm = true := by
  unfold excO at q
  split at q
  · rename_i dd cd sl ho
    split at q
    · rename_i C' bm k0 k1 k2 k3 n k5 hm hs
      simp only [Bool.and_eq_true, beq_iff_eq, Bool.not_eq_true'] at q
      obtain ⟨⟨⟨⟨rfl, rfl⟩, hdel⟩, hdi⟩, ht⟩ := q
      obtain ⟨nm, bs, mro, ns, qn, hd, sn, sub, ab, col, del⟩ := cd
      dsimp only at hm hdel hdi
      subst hm hdel hdi
      have hsl : sl = #[k0, k1, k2, k3, some (.builtin "ValueError.__new__"), k5] := by
        obtain ⟨l⟩ := sl
        simp only at hs
        rw [hs]
      subst hsl
      exact ⟨nm, qn, ns, bs, bm, sn, sub, ab, col, dd, k0, k1, k2, k3, k5, ho, ht⟩
    · cases q
  · cases q
def excB (x : Str) : Fac := fun K => excO K (He.ga K x) && (He.eqO (PySem.W.findIn K (.ref (He.ga K x)) "__setattr__") (some (some (.builtin "object.__setattr__"))) && (decide (PySem.W.subIn K (.ref (He.ga K x)) (.type "BaseException") = some true) &&
  (decide (PySem.W.typeIn K (.ref (He.ga K x)) = some (.type "type")) && (PySem.W.keepIn K (.ref (He.ga K x)) && (He.eqO (PySem.W.findIn K (.ref (He.ga K x)) "__init__") (some (some (.ref (He.ma K (He.ga K x) "__init__")))) &&
  (decide (PySem.W.typeIn K (.ref (He.ma K (He.ga K x) "__init__")) = some (.type "function")) && xfB K (He.ga K x)))))))
theorem excB_ok {K : Frag} {x : Str} (h : excB x K = true) : ExC K (He.ga K x) (He.ma K (He.ga K x) "__init__") ∧ XfC K (He.ga K x) := by
  unfold excB at h
  simp only [Bool.and_eq_true, decide_eq_true_eq] at h
  obtain ⟨h1, h2, h3, h4, h5, h6, h7, h8⟩ := h
  exact ⟨⟨⟨excO_ok h1, He.eqO_ok h2, h3, h4, h5⟩, He.eqO_ok h6, h7⟩, xfB_ok h8⟩
/-- whether an exception of one class is caught by a clause of another -/
def exmB (x y : Str) (b : Bool) : Fac := fun K => (He.Fa.exm x y b).ok K
end DL

set_option Elab.async false
set_option linter.all false
set_option maxRecDepth 100000
set_option maxHeartbeats 4000000
/-! # DLR: [..] * n, pop, list(range(..)) -/
namespace DL
open PySem PySem.Spec PyProof.Rows L2
section
variable {X : Cx} {B : Bd} {pos p p2 pos2 apos : Pos} {k : Nat} {wx : DW} {a b e : Expr} {ta tb to : DTE} {tA : DTA} {env : Env} {O : Ow} {q : DQ}
/-! ### l * n, l a list of one's own -/
def dRep : DR2 := fun x y O q => match x, y with
  | .ref p, .int k => ∃ es, O p = some (.lst es) ∧ (-(2 ^ 63) ≤ k ∧ k < 2 ^ 63) ∧ es.length * k.toNat ≤ sizeLine ∧ q (.lst (List.replicate k.toNat es).flatten) O
  | _, _ => False
def dRepO : DR2 := fun x y O q => match x, y with
  | .ref p, .int k => ∃ es, O p = some (.lst es) ∧ (-(2 ^ 63) ≤ k ∧ k < 2 ^ 63) ∧ es.length * k.toNat ≤ sizeLine ∧ ∀ r, O r = none → q (.ref r) (setO O r (.lst (List.replicate k.toNat es).flatten))
  | _, _ => False
theorem sim_rep : Sim2 B rRep dRep := by
  intro env O σ H F x y dx dy q Q R rx ry h kk
  cases dx <;> cases dy <;> try exact h.elim
  cases rx; cases ry
  obtain ⟨es, e, ⟨h1, h2⟩, h3, h⟩ := h
  obtain ⟨_, ho, e2, vs, rfl, rr⟩ := R.ow _ _ e
  exact ⟨_, _, vs, rfl, rfl, e2, h1, h2, by rw [← rr.length]; exact h3, fresh_lst R (rr.rep _) h kk⟩
theorem sim_repO : Sim2 B rRep dRepO := by
  intro env O σ H F x y dx dy q Q R rx ry h kk
  cases dx <;> cases dy <;> try exact h.elim
  cases rx; cases ry
  obtain ⟨es, e, ⟨h1, h2⟩, h3, h⟩ := h
  obtain ⟨_, ho, e2, vs, rfl, rr⟩ := R.ow _ _ e
  exact ⟨_, _, vs, rfl, rfl, e2, h1, h2, by rw [← rr.length]; exact h3, fun l hl => kk _ _ _ _ F (R.own hl (u := .lst _) ⟨_, rfl, rr.rep _⟩) (.ref l) (h l (R.free hl).1)⟩
theorem so_rep (S : Site X B k wx) (ha : PE X a (lift B ta)) (hb : PE X b (lift B tb)) : PE X (.BinOp a .Mult b pos) (lift B (dOp dRep ta tb)) := de_op op_rep sim_rep ha hb
theorem so_repO (S : Site X B k wx) (ha : PE X a (lift B ta)) (hb : PE X b (lift B tb)) : PE X (.BinOp a .Mult b pos) (lift B (dOp dRepO ta tb)) := de_op op_rep sim_repO ha hb
theorem i_rep {pp : Addr} {k : Int} {es : List D} (e : O pp = some (.lst es)) (h0 : 0 ≤ k ∧ k ≤ 100000) (hl : es.length ≤ 100) (h : q (.lst (List.replicate k.toNat es).flatten) O) : dRep (.ref pp) (.int k) O q :=
  ⟨es, e, ⟨by omega, by omega⟩, Nat.le_trans (Nat.mul_le_mul hl (show k.toNat ≤ 100000 by omega)) (by decide), h⟩
theorem i_repO {pp : Addr} {k : Int} {es : List D} (e : O pp = some (.lst es)) (h0 : 0 ≤ k ∧ k ≤ 100000) (hl : es.length ≤ 100) (h : ∀ r, O r = none → q (.ref r) (setO O r (.lst (List.replicate k.toNat es).flatten))) : dRepO (.ref pp) (.int k) O q :=
  ⟨es, e, ⟨by omega, by omega⟩, Nat.le_trans (Nat.mul_le_mul hl (show k.toNat ≤ 100000 by omega)) (by decide), h⟩
theorem flat_one {d : D} : ∀ n : Nat, (List.replicate n [d]).flatten = List.replicate n d
  | 0 => rfl
  | n + 1 => by rw [List.replicate_succ, List.flatten_cons, flat_one n, List.replicate_succ]; rfl
/-! ### l.pop(i) -/
def popK2 (p : Addr) (es : List D) (q : DQ) : List D → Ow → Prop := fun ds O2 => match ds with
  | [.int i] => O2 p = some (.lst es) ∧ 0 ≤ i ∧ i < es.length ∧ es.length < 2 ^ 62 ∧ ∃ d, es[i.toNat]? = some d ∧ q d (setO O2 p (.lst (es.eraseIdx i.toNat)))
  | _ => False
def popK (tA : DTA) (env : Env) (q : DQ) : DQ := fun x O1 => match x with
  | .ref p => ∃ es, O1 p = some (.lst es) ∧ tA env O1 (popK2 p es q)
  | _ => False
def dPop (to : DTE) (tA : DTA) : DTE := fun env O q => to env O (popK tA env q)
theorem RVs.eraseIdx {K : Frag} {F : Hp} : ∀ {ds : List D} {vs : List V} (i : Nat), RVs K F ds vs → RVs K F (ds.eraseIdx i) (vs.eraseIdx i)
  | _, _, _, .nil => .nil
  | _, _, 0, .cons _ t => t
  | _, _, i + 1, .cons h t => .cons h (RVs.eraseIdx i t)
theorem so_pop (S : Site X B k wx) (ho : PE X a (lift B to)) (ha : PA X [e] (liftA B tA)) (hbase : attributeBase a "pop" X.env (eval a X.env) = eval a X.env := by rfl)
    (hfew : ((backTo pos (starEach [e] X.env)).all (fun x => !x.1) && (backToKw pos (keywordEach [] X.env)).all (fun x => x.1.isSome) && decide ([e].length + ([] : List Keyword).length + (if ([] : List Keyword).isEmpty then 0 else 1) < 30)) = true := by rfl)
    (hline : (apos.endLine == pos.line) = true := by rfl) (hs : starEach [e] X.env = (false, eval e X.env) :: starEach [] X.env := by rfl) (hplain : (backTo pos (starEach [] X.env)).any (·.1) = false := by rfl) : PE X (.Call (.Attribute a "pop" apos) [e] [] pos) (lift B (dPop to tA)) :=
  PE.weak (pe_bm PySem.F.plainAttrs_list PySem.F.slot_list_pop PySem.F.type_list_pop mt_popAt ho ha hbase hfew hline hs hplain) fun σ H Q h => by
    obtain ⟨env, O, F, q, R, h, kk⟩ := h
    refine ⟨env, O, F, _, R, h, fun x v O1 H1 F1 a1 r1 h1 => ?_⟩
    cases x <;> try exact h1.elim
    rename_i p
    cases r1
    obtain ⟨es, e1, h1⟩ := h1
    obtain ⟨_, ho, e2, vs, rfl, rr⟩ := a1.ow p _ e1
    have R1 := R.call a1
    refine ⟨.inl ⟨rfl, vs, SqL.of e2⟩, env, O1, F1, _, R1, h1, fun ds us O2 H2 F2 a2 r2 h2 => ?_⟩
    match ds, r2, h2 with
    | [.int i], r2, ⟨e3, h0, hlt, hz, d, hd, h2⟩ =>
      obtain ⟨u, rfl, ru⟩ := r2.one
      cases ru
      obtain ⟨_, ho, e4, vs2, rfl, rr2⟩ := a2.ow p _ e3
      obtain ⟨y, hy, ry⟩ := rr2.get hd
      refine ⟨p, vs2, i, i.toNat, y, rfl, rfl, e4, by omega, by omega, ?_, hy, ?_⟩
      · rw [← rr2.length]
        have hn : ¬ i < 0 := by omega
        simp only [seqIndex?, if_neg hn, h0, hlt, decide_true, Bool.and_self, if_true]
      · exact kk _ _ _ _ F2 (a1.trans (a2.trans ((R1.call a2).put e3 (u := .lst (es.eraseIdx i.toNat)) ⟨_, rfl, rr2.eraseIdx _⟩))) ry h2
theorem i_pop (h : to env O (popK tA env q)) : dPop to tA env O q := h
theorem i_popK {pp : Addr} {es : List D} (hp : O pp = some (.lst es)) (h : tA env O (popK2 pp es q)) : popK tA env q (.ref pp) O := ⟨es, hp, h⟩
theorem i_popK2 {pp : Addr} {es : List D} {i : Int} {d : D} (hp : O pp = some (.lst es)) (h0 : 0 ≤ i) (h1 : i < es.length) (h2 : es.length < 2 ^ 62) (hd : es[i.toNat]? = some d) (h : q d (setO O pp (.lst (es.eraseIdx i.toNat)))) : popK2 pp es q [.int i] O := ⟨hp, h0, h1, h2, d, hd, h⟩
/-! ### list(range(a, b)) -/
def dListRg2 (ta tb : DTE) : DTE := fun env O q => ta env O fun d O1 => tb env O1 fun e O2 => match d, e with | .int i, .int j => RgOk i j ∧ q (.lst (rgD i j)) O2 | _, _ => False
def dListRg2O (ta tb : DTE) : DTE := fun env O q => ta env O fun d O1 => tb env O1 fun e O2 => match d, e with | .int i, .int j => RgOk i j ∧ ∀ p, O2 p = none → q (.ref p) (setO O2 p (.lst (rgD i j))) | _, _ => False
theorem so_listRg2 (S : Site X B k wx) (hc : X.calm = true) (hg : Gl X "list") (hm : X.mg "list" = none) (hg2 : Gl X "range") (hm2 : X.mg "range" = none) (ha : PE X a (lift B ta)) (hb : PE X b (lift B tb))
    (na2 : starEach [a, b] X.env = (false, eval a X.env) :: starEach [b] X.env := by rfl) (nb2 : starEach [b] X.env = (false, eval b X.env) :: starEach [] X.env := by rfl) (hp2 : (backTo pos2 (starEach [b] X.env)).any (·.1) = false := by rfl)
    (na : starEach [.Call (.Name "range" p2) [a, b] [] pos2] X.env = (false, eval (.Call (.Name "range" p2) [a, b] [] pos2) X.env) :: starEach [] X.env := by rfl) : PE X (.Call (.Name "list" p) [.Call (.Name "range" p2) [a, b] [] pos2] [] pos) (lift B (dListRg2 ta tb)) :=
  PE.weak (pe_listRg hc hg hm (prg_2 hg2 hm2 ha hb na2 nb2 hp2) na) fun σ H Q h => by
    obtain ⟨env, O, F, q, R, h, kk⟩ := h
    refine ⟨env, O, F, _, R, h, fun d v O1 H1 F1 a1 r1 h1 => ?_⟩
    have R1 := R.call a1
    refine ⟨env, O1, F1, _, R1, h1, fun e u O2 H2 F2 a2 r2 h2 => ?_⟩
    cases d <;> cases e <;> try exact h2.elim
    cases r1; cases r2
    exact ⟨_, _, rfl, rfl, h2.1, fresh_lst (R1.call a2) (rgD_rv _ _) h2.2 fun d v O' H' F' a => kk d v O' H' F' (a1.trans (a2.trans a))⟩
theorem so_listRg2O (S : Site X B k wx) (hc : X.calm = true) (hg : Gl X "list") (hm : X.mg "list" = none) (hg2 : Gl X "range") (hm2 : X.mg "range" = none) (ha : PE X a (lift B ta)) (hb : PE X b (lift B tb))
    (na2 : starEach [a, b] X.env = (false, eval a X.env) :: starEach [b] X.env := by rfl) (nb2 : starEach [b] X.env = (false, eval b X.env) :: starEach [] X.env := by rfl) (hp2 : (backTo pos2 (starEach [b] X.env)).any (·.1) = false := by rfl)
    (na : starEach [.Call (.Name "range" p2) [a, b] [] pos2] X.env = (false, eval (.Call (.Name "range" p2) [a, b] [] pos2) X.env) :: starEach [] X.env := by rfl) : PE X (.Call (.Name "list" p) [.Call (.Name "range" p2) [a, b] [] pos2] [] pos) (lift B (dListRg2O ta tb)) :=
  PE.weak (pe_listRg hc hg hm (prg_2 hg2 hm2 ha hb na2 nb2 hp2) na) fun σ H Q h => by
    obtain ⟨env, O, F, q, R, h, kk⟩ := h
    refine ⟨env, O, F, _, R, h, fun d v O1 H1 F1 a1 r1 h1 => ?_⟩
    have R1 := R.call a1
    refine ⟨env, O1, F1, _, R1, h1, fun e u O2 H2 F2 a2 r2 h2 => ?_⟩
    cases d <;> cases e <;> try exact h2.elim
    cases r1; cases r2
    have R2 := R1.call a2
    exact ⟨_, _, rfl, rfl, h2.1, fun l hl => kk _ _ _ _ F2 (a1.trans (a2.trans (R2.own hl (u := .lst _) ⟨_, rfl, rgD_rv _ _⟩))) (.ref l) (h2.2 l (R2.free hl).1)⟩
theorem i_listRg2 (h : ta env O fun d O1 => tb env O1 fun e O2 => match d, e with | .int i, .int j => RgOk i j ∧ q (.lst (rgD i j)) O2 | _, _ => False) : dListRg2 ta tb env O q := h
theorem i_listRg2O (h : ta env O fun d O1 => tb env O1 fun e O2 => match d, e with | .int i, .int j => RgOk i j ∧ ∀ p, O2 p = none → q (.ref p) (setO O2 p (.lst (rgD i j))) | _, _ => False) : dListRg2O ta tb env O q := h
end
/-! ### a list or a tuple: data, or a list of one's own -/
def SeqD (O : Ow) (d : D) (rs : List D) : Prop := d = .lst rs ∨ d = .tup rs ∨ ∃ p, d = .ref p ∧ O p = some (.lst rs)
theorem SeqD.set {O : Ow} {d : D} {rs : List D} {x : Addr} {o : OD} (h : SeqD O d rs) (hx : ∀ ds, O x ≠ some (.lst ds)) : SeqD (setO O x o) d rs := by
  rcases h with h | h | ⟨p, h, e⟩
  · exact .inl h
  · exact .inr (.inl h)
  · refine .inr (.inr ⟨p, h, ?_⟩)
    have hne : p ≠ x := fun z => hx rs (by rw [← z]; exact e)
    rw [setO_ne hne]
    exact e
def enumK (qi : List D → (Ow → Prop) → Ow → Prop) : DQ := fun d O1 => match d with
  | .tup ds => qi (enumD ds) (fun _ => True) O1
  | d => ∃ ds, asL O1 d = some ds ∧ qi (enumD ds) (gdL O1 d) O1
section
variable {env : Env} {O : Ow} {qi : List D → (Ow → Prop) → Ow → Prop} {te : DTE} {rs : List D} {d : D} {q : DQ}
theorem i_enum2 (h : te env O (enumK qi)) : diEnum te env O qi := h
theorem i_enumL (h : qi (enumD rs) (fun _ => True) O) : enumK qi (.lst rs) O := ⟨rs, rfl, h⟩
theorem i_enumT (h : qi (enumD rs) (fun _ => True) O) : enumK qi (.tup rs) O := h
theorem i_enumS (hs : SeqD O d rs) (h : ∀ Gd : Ow → Prop, Gd O → qi (enumD rs) Gd O) : enumK qi d O := by
  rcases hs with rfl | rfl | ⟨p, rfl, hp⟩
  · exact ⟨rs, rfl, h _ trivial⟩
  · exact h _ trivial
  · exact ⟨rs, asL_ref hp, h _ rfl⟩
theorem i_lenS (hs : SeqD O d rs) (h : q (.int (rs.length : Int)) O) : dLen [d] O q := by
  rcases hs with rfl | rfl | ⟨p, rfl, hp⟩
  · exact i_lenL h
  · exact i_lenT h
  · exact i_lenO hp h
theorem i_tupS (hs : SeqD O d rs) (h : q (.tup rs) O) : dTuple1 [d] O q := by
  rcases hs with rfl | rfl | ⟨p, rfl, hp⟩
  · exact ⟨rs, rfl, h⟩
  · exact ⟨rs, rfl, h⟩
  · exact ⟨rs, asL_ref hp, h⟩
theorem SeqD.ty (hs : SeqD O d rs) : ∃ a, tyN O d = some a ∧ ["list", "tuple"].any (kitT a) = true := by
  rcases hs with rfl | rfl | ⟨p, rfl, hp⟩
  · exact ⟨"list", rfl, by decide⟩
  · exact ⟨"tuple", rfl, by decide⟩
  · exact ⟨"list", by simp [tyN, hp], by decide⟩
end
end DL

set_option Elab.async false
set_option linter.all false
set_option maxRecDepth 100000
set_option maxHeartbeats 4000000
/-! # DLS: split, isascii, isdigit, int(text), any, all, star in displays, a, *b = list, classmethods -/
namespace DL
open PySem PySem.Spec PyProof.Rows L2
section
variable {X : Cx} {B : Bd} {pos p p2 apos : Pos} {k i j : Nat} {wx : DW} {a b e o : Expr} {es : List Expr} {ta tb te to : DTE} {tA tB : DTA} {env : Env} {O : Ow} {q : DQ}
/-! ### texts -/
def splK (a : Str) (q : DQ) : DQ := fun y O2 => match y with
  | .str b => (b.length == 0) = false ∧ a.length + 2 ≤ sizeLine ∧ q (.lst ((Txt.split a b).map D.str)) O2
  | _ => False
def dSplit (to te : DTE) : DTE := fun env O q => to env O fun x O1 => match x with
  | .str a => te env O1 (splK a q)
  | _ => False
theorem rvs_strs {K : Frag} {F : Hp} : ∀ l : List Str, RVs K F (l.map D.str) (l.map V.str)
  | [] => .nil
  | s :: l => .cons (.str s) (rvs_strs l)
theorem so_split (S : Site X B k wx) (ho : PE X o (lift B to)) (he : PE X e (lift B te)) (hs : starEach [e] X.env = [(false, eval e X.env)] := by rfl) (hbase : attributeBase o "split" X.env (eval o X.env) = eval o X.env := by rfl) (hline : (apos.endLine == pos.line) = true := by rfl) :
    PE X (.Call (.Attribute o "split" apos) [e] [] pos) (lift B (dSplit to te)) := PE.weak (pe_split ho he hs hbase hline) fun σ H Q h => by
  obtain ⟨env, O, F, q, R, h, kk⟩ := h
  refine ⟨env, O, F, _, R, h, fun x v O1 H1 F1 a1 r1 h1 => ?_⟩
  cases x <;> try exact h1.elim
  cases r1
  refine ⟨⟨_, rfl⟩, env, O1, F1, _, R.call a1, h1, fun y u O2 H2 F2 a2 r2 h2 => ?_⟩
  cases y <;> try exact h2.elim
  cases r2
  exact ⟨_, _, rfl, rfl, h2.1, h2.2.1, fresh_lst ((R.call a1).call a2) (rvs_strs _) h2.2.2 fun d v O' H' F' a => kk d v O' H' F' (a1.trans (a2.trans a))⟩
theorem i_split (h : to env O fun x O1 => match x with | .str a => te env O1 (splK a q) | _ => False) : dSplit to te env O q := h
theorem i_splK {a b : Str} {ps : List Str} (hb : (b.length == 0) = false) (ha : a.length ≤ 1000000) (hs : Txt.split a b = ps) (h : q (.lst (ps.map D.str)) O) : splK a q (.str b) O := ⟨hb, by rw [sizeLine_eq]; omega, by rw [hs]; exact h⟩
/-- x.m() of a text: a bool -/
def m0K (g : Str → Bool) (q : DQ) : DQ := fun x O1 => match x with
  | .str a => q (.bl (g a)) O1
  | _ => False
def dM0 (g : Str → Bool) (to : DTE) : DTE := fun env O q => to env O (m0K g q)
theorem lift_m0 {g : Str → Bool} (σ : St) (H : Hp) (Q : VK) (h : lift B (dM0 g to) σ H Q) : tM0 (fun x xs H Q => ∃ a, x = .str a ∧ xs = [] ∧ True ∧ Q (.bl (g a)) H) (lift B to) σ H Q := by
  obtain ⟨env, O, F, q, R, h, kk⟩ := h
  refine ⟨env, O, F, _, R, h, fun x v O1 H1 F1 a1 r1 h1 => ?_⟩
  cases x <;> try exact h1.elim
  cases r1
  exact ⟨⟨_, rfl⟩, _, rfl, rfl, trivial, kk _ _ O1 H1 F1 a1 (.bl _) h1⟩
theorem so_isascii (S : Site X B k wx) (ho : PE X o (lift B to)) (hbase : attributeBase o "isascii" X.env (eval o X.env) = eval o X.env := by rfl) (hline : (apos.endLine == pos.line) = true := by rfl) : PE X (.Call (.Attribute o "isascii" apos) [] [] pos) (lift B (dM0 Txt.isascii to)) :=
  PE.weak (pe_m0 (by first | exact PySem.F.slot_str_isascii | exact PySem.slot_str_isascii) (by first | exact PySem.F.type_str_isascii | kernel_rfl) mt_isascii ho hbase hline) lift_m0
theorem so_isdigit (S : Site X B k wx) (ho : PE X o (lift B to)) (hbase : attributeBase o "isdigit" X.env (eval o X.env) = eval o X.env := by rfl) (hline : (apos.endLine == pos.line) = true := by rfl) : PE X (.Call (.Attribute o "isdigit" apos) [] [] pos) (lift B (dM0 Txt.isdigit to)) :=
  PE.weak (pe_m0 (by first | exact PySem.F.slot_str_isdigit | exact PySem.slot_str_isdigit) (by first | exact PySem.F.type_str_isdigit | kernel_rfl) mt_isdigit ho hbase hline) lift_m0
theorem i_m0 {g : Str → Bool} (h : to env O (m0K g q)) : dM0 g to env O q := h
theorem i_m0K {g : Str → Bool} {a : Str} (h : q (.bl (g a)) O) : m0K g q (.str a) O := h
/-! ### int(x) of an int, a truth or a text -/
def dInt2 : List D → Ow → DQ → Prop := fun ds O q => match ds with
  | [.str a] => ∃ n, PySem.intText? a = some n ∧ a.length ≤ 640 ∧ q (.int n) O
  | ds => dInt1 ds O q
theorem cr_int2 : CallR X (.type "int") (fun xs H Q => (∃ a n, xs = [.str a] ∧ PySem.intText? a = some n ∧ a.length ≤ 640 ∧ Q (.int n) H) ∨ ((∃ i, xs = [.int i] ∧ Q (.int i) H) ∨ ∃ k, xs = [.bl k] ∧ Q (.int (if k then 1 else 0)) H)) := by
  intro pins s σ H xs us Q I r h
  rcases h with h | h
  · exact call_int_str pins s σ H xs us Q I r h
  · exact call_int1 pins s σ H xs us Q I r h
theorem sim_int2 : SimC B (fun xs H Q => (∃ a n, xs = [.str a] ∧ PySem.intText? a = some n ∧ a.length ≤ 640 ∧ Q (.int n) H) ∨ ((∃ i, xs = [.int i] ∧ Q (.int i) H) ∨ ∃ k, xs = [.bl k] ∧ Q (.int (if k then 1 else 0)) H)) dInt2 := by
  intro env O σ H F vs ds q Q R r h kk
  by_cases hs : ∃ a, ds = [.str a]
  · obtain ⟨a, rfl⟩ := hs
    obtain ⟨v, rfl, r1⟩ := r.one
    cases r1
    obtain ⟨n, h1, h2, h⟩ := h
    exact .inl ⟨a, n, rfl, h1, h2, kk _ _ O H F (.refl R) (.int _) h⟩
  · have h' : dInt1 ds O q := by
      unfold dInt2 at h
      split at h
      · exact absurd ⟨_, rfl⟩ hs
      · exact h
    exact .inr (sim_int1 env O σ H F vs ds q Q R r h' kk)
theorem so_int2 (S : Site X B k wx) (hg : Gl X "int") (hm : X.mg "int" = none) (ha : PA X [e] (liftA B tA)) (he : starEach [e] X.env = (false, eval e X.env) :: starEach [] X.env := by rfl) (hpl : (backTo pos (starEach [] X.env)).any (·.1) = false := by rfl) : PE X (.Call (.Name "int" p) [e] [] pos) (lift B (dCB dInt2 tA)) :=
  de_cb sim_int2 (pe_callTy cr_int2 hg hm bt_int ha (by decide) (by decide) he hpl)
theorem i_int2S {a : Str} {n : Int} (h1 : PySem.intText? a = some n) (h2 : a.length ≤ 640) (h : q (.int n) O) : dInt2 [.str a] O q := ⟨n, h1, h2, h⟩
theorem i_int2I {i : Int} (h : q (.int i) O) : dInt2 [.int i] O q := h
theorem i_int2B {b : Bool} (h : q (.int (if b then 1 else 0)) O) : dInt2 [.bl b] O q := h
/-! ### *e in a display or a call -/
def dStarA (te : DTE) (tA : DTA) : DTA := fun env O q => te env O fun x O1 => ∃ xs, asS O1 x = some xs ∧ tA env O1 fun ys O2 => q (xs ++ ys) O2
theorem da_star (S : Site X B k wx) (he : PE X e (lift B te)) (hr : PA X es (liftA B tA)) (hs : starEach (.Starred e p :: es) X.env = (true, eval e X.env) :: starEach es X.env := by rfl) : PA X (.Starred e p :: es) (liftA B (dStarA te tA)) :=
  PA.weak (StX.pa_star he hr hs) fun σ H Q h => by
    obtain ⟨env, O, F, q, R, h, kk⟩ := h
    refine ⟨env, O, F, _, R, h, fun x v O1 H1 F1 a1 r1 h1 => ?_⟩
    obtain ⟨xs, e1, h1⟩ := h1
    obtain ⟨pp, vs, rfl, hsq, hr⟩ := asS_sq a1.fh a1.ow r1 e1
    refine ⟨pp, vs, rfl, by rw [S.hK]; exact hsq.symm, env, O1, F1, _, R.call a1, h1, fun ys us O2 H2 F2 a2 r2 h2 => ?_⟩
    exact kk _ _ O2 H2 F2 (a1.trans a2) ((hr.mono a2.ff).append r2) h2
theorem i_starA {qa : List D → Ow → Prop} (h : te env O fun x O1 => ∃ xs, asS O1 x = some xs ∧ tA env O1 fun ys O2 => qa (xs ++ ys) O2) : dStarA te tA env O qa := h
end
end DL

set_option Elab.async false
set_option linter.all false
set_option maxRecDepth 100000
set_option maxHeartbeats 4000000
/-! # DLT: a, *b = list, a, b = list, any, all, classmethods, a call of a class held by a local name -/
namespace DL
open PySem PySem.Spec PyProof.Rows L2
section
variable {X : Cx} {B : Bd} {pos p p2 apos : Pos} {k i j : Nat} {wx : DW}
theorem unpack_starL {prog : Program} {w : World} {A : Around} {E : Value → Shared → Prop} {s : Shared} {l : Addr} {u : Value} {us : List Value} {Q : List Value → Shared → Prop} (hl : s.heap.IsList l (u :: us).toArray) (hh : A.handled = none) (hz : us.length < 16384)
    (h : ∀ (h' : Heap) tk, (∀ b o, s.heap.get? b = some o → h'.get? b = some o) → Q [u, .ref h'.objs.size] { s with heap := h'.push { cls := .type "list", data := .seq us.toArray }, toks := tk }) :
    wpAny (model prog w) A (unpackItems (.ref l) 2 (some 1)) Q E s := by
  have n1 : l ≠ s.heap.objs.size := by obtain ⟨o, ho, _⟩ := hl; exact Nat.ne_of_lt (Heap.lt_size ho)
  unfold unpackItems
  refine wpAny_bind ?_
  unfold notIterableAtAll
  refine wpAny_bind (wpAny_specialOf hl.typeIs slot_list_iter.lookup ?_)
  refine wpAny_pure ?_
  simp only [Bool.false_eq_true, if_false]
  refine wpAny_bind (wpAny_holding (wpAny_pyIter_list hl ?_))
  refine wpAny_bind (wpAny_holding (PySem.W.kun_draw n1 1 0 _ _ ⟨_, Heap.get?_push_size _ rfl, rfl, rfl⟩ (hl.push _) (by simp) fun h1 t1 b1 => ?_))
  have l1 : h1.IsList l (u :: us).toArray := (hl.push _).extBut b1.extBut n1
  rw [Nat.zero_add] at t1
  have t1' := t1
  obtain ⟨oi, hoi, _⟩ := t1'
  have l1' := l1
  obtain ⟨ol, hol, _⟩ := l1'
  have e1 : ((u :: us).toArray.toList.drop 0).take 1 = [u] := rfl
  rw [e1]
  rw [if_neg (show ¬ ([u].length < 1) from Nat.lt_irrefl 1)]
  refine wpAny_bind (wpAny_holding (PySem.W.kun_collect (s := { s with heap := h1 }) (T := "list_iterator") (.inr (.inr (.inl rfl))) (Walks.list (A := A.in1) hh s.heap.objs.size l n1 (u :: us).toArray) (fun j u st => st.1.typeIs) (k := 1) (by simp) ⟨t1, l1⟩ (Heap.lt_size hoi) (Heap.lt_size hol) (fun h2 tk hk => ?_) (by rw [sizeLine_eq]; simp; omega)))
  have e2 : (u :: us).toArray.toList.drop 1 = us := rfl
  rw [e2]
  have e3 : ¬ (us.length < 2 - 1 - 1) := by omega
  simp only [e3, if_false]
  have e4 : us.length - (2 - 1 - 1) = us.length := by omega
  rw [e4, List.take_length, List.drop_length]
  have keep : ∀ b o, s.heap.get? b = some o → h2.get? b = some o := fun b o e => hk b o (Nat.ne_of_lt (Heap.lt_size e)) (b1.extBut b o (Nat.ne_of_lt (Heap.lt_size e)) (Heap.get?_push_of_some _ e))
  refine wpAny_bind (wpAny_newList ?_ (by rw [sizeLine_eq]; omega))
  refine wpAny_pure ?_
  exact h h2 tk keep
theorem pg_starL {e1 e2 : Expr} {kk : Nat} (hc : X.calm = true) (h1 : PG X e1 (gName i)) (h2 : PG X e2 (gName j))
    (ha : assignEach [e1, .Starred e2 p2] X.env = [(false, assign e1 X.env), (true, assign e2 X.env)] := by rfl) : PG X (.Tuple [e1, .Starred e2 p2] kk pos)
    (fun v σ H Q => ∃ a x xs, v = .ref a ∧ SqL X.K H a (x :: xs) ∧ xs.length < 16384 ∧ ∀ p, H p = none → Q ((σ.set i (some x)).set j (some (.ref p))) (upd H p (.lst xs))) := by
  refine ⟨fun pins s σ H v u Q I r hw => ?_⟩
  obtain ⟨a, x, xs, rfl, hq, hl, hw⟩ := hw
  cases r
  obtain ⟨its, rv, ht, hz⟩ := I.list hq
  cases rv with
  | @cons _ u _ us ru rus =>
    rw [assign_Tuple, ha]
    refine wpAny_bind (wpAny_standAt ?_)
    unfold unpack
    refine wpAny_bind (wpAny_holding (unpack_starL ht.isList (I.ok.hd hc) (by rw [← rus.length]; exact hl) fun h' tk keep => ?_))
    have I1 : Inv X pins σ H { s with heap := h', toks := tk } := I.kept (t' := tk) keep
    have hf : H h'.objs.size = none := I1.hok.fresh (Nat.le_refl _)
    have I2 : Inv X pins σ (upd H h'.objs.size (.lst xs)) { s with heap := h'.push { cls := .type "list", data := .seq us.toArray }, toks := tk } :=
      I1.laid (t' := tk) (fun b o e => Heap.get?_push_of_some _ e) (Nat.le_refl _) ⟨by have := hl; rw [sizeLine_eq]; omega, us, 0, rus, Heap.get?_push_size _ rfl⟩
    refine assignInOrder_cons (thn (h1.run pins _ σ _ _ _ (fun σ1 H1 => Q (σ1.set j (some (.ref h'.objs.size))) H1) I2 ru (hw _ hf)) fun _ s1 ⟨σ1, H1, I3, q1⟩ => ?_)
    refine assignInOrder_cons (thn (h2.run pins s1 σ1 H1 (.ref h'.objs.size) (.ref h'.objs.size) Q I3 rfl q1) fun _ s2 z => ?_)
    exact assignInOrder_nil z
def dgStarL (i j : Nat) : DTG := fun d env O q => ∃ x xs, asL O d = some (x :: xs) ∧ xs.length < 16384 ∧ q ((env.set i (some x)).set j (some (.lst xs))) O
theorem dg_starL {e1 e2 : Expr} {kk : Nat} (S : Site X B k wx) (hc : X.calm = true) (h1 : PG X e1 (gName i)) (h2 : PG X e2 (gName j))
    (ha : assignEach [e1, .Starred e2 p2] X.env = [(false, assign e1 X.env), (true, assign e2 X.env)] := by rfl) : PG X (.Tuple [e1, .Starred e2 p2] kk pos) (liftG B (dgStarL i j)) := PG.weak (pg_starL hc h1 h2 ha) fun v σ H Q h => by
  obtain ⟨d, env, O, F, q, R, r, h, kk⟩ := h
  obtain ⟨x, xs, e, hl, h⟩ := h
  obtain ⟨a, vs, rfl, hs, hr⟩ := asL_sq R.fh R.ow r e
  cases hr with
  | cons rx rxs =>
    refine ⟨_, _, _, rfl, by rw [S.hK]; exact hs, rxs.length ▸ hl, fun p hp => ?_⟩
    rename_i ws
    have a1 := R.froz hp (.lst ws)
    exact kk _ O _ _ _ a1 (((R.sl.mono a1.ff).setv (rx.mono a1.ff)).setv (.lst (SqL.of upd_same) (rxs.mono a1.ff))) h
theorem i_gstarL {x : D} {xs : List D} {env : Env} {O : Ow} {qe : Env → Ow → Prop} {d : D} (e : asL O d = some (x :: xs)) (hl : xs.length < 16384) (h : qe ((env.set i (some x)).set j (some (.lst xs))) O) : dgStarL i j d env O qe := ⟨x, xs, e, hl, h⟩
/-- a, b = list -/
def dgLst (n : Nat) (t : DTGs) : DTG := fun d env O q => ∃ ds, asL O d = some ds ∧ ds.length = n ∧ t ds env O q
theorem dg_lst {es : List Expr} {kk : Nat} {t : DTGs} {n : Nat} (S : Site X B k wx) (hc : X.calm = true) (h : PGs X es (liftGs B t)) (hn : (assignEach es X.env).length = n := by rfl) (hst : (assignEach es X.env).findIdx? (·.1) = none := by rfl) :
    PG X (.Tuple es kk pos) (liftG B (dgLst n t)) := PG.weak (pg_lst hc h hn hst) fun v σ H Q h => by
  obtain ⟨d, env, O, F, q, R, r, h, kk⟩ := h
  obtain ⟨ds, e, hl, h⟩ := h
  obtain ⟨a, vs, rfl, hs, hr⟩ := asL_sq R.fh R.ow r e
  exact ⟨_, _, rfl, by rw [S.hK]; exact hs, hr.length ▸ hl, _, env, O, F, q, R, hr, h, kk⟩
theorem i_glst {n : Nat} {t : DTGs} {ds : List D} {env : Env} {O : Ow} {qe : Env → Ow → Prop} {d : D} (e : asL O d = some ds) (hl : ds.length = n) (h : t ds env O qe) : dgLst n t d env O qe := ⟨ds, e, hl, h⟩
/-! ### any, all of a list of truths -/
def dAny : List D → Ow → DQ → Prop := fun ds O q => ∃ (d : D) (bs : List Bool), ds = [d] ∧ asL O d = some (bs.map D.bl) ∧ q (.bl (bs.any id)) O
def dAll : List D → Ow → DQ → Prop := fun ds O q => ∃ (d : D) (bs : List Bool), ds = [d] ∧ asL O d = some (bs.map D.bl) ∧ q (.bl (bs.all id)) O
theorem rvs_bls {K : Frag} {F : Hp} : ∀ {bs : List Bool} {vs : List V}, RVs K F (bs.map D.bl) vs → vs = bs.map V.bl
  | [], _, .nil => rfl
  | b :: bs, _, .cons (.bl _) r => by rw [rvs_bls r]; rfl
theorem sim_any {K : Frag} (hK : K = B.K) : SimC B (rAny K) dAny := by
  intro env O σ H F vs ds q Q R r h kk
  obtain ⟨d, bs, rfl, e, h⟩ := h
  obtain ⟨v, rfl, r1⟩ := r.one
  obtain ⟨a, ws, rfl, hs, hr⟩ := asL_sq R.fh R.ow r1 e
  exact ⟨a, bs, rfl, by rw [hK, ← rvs_bls hr]; exact hs, kk _ _ O H F (.refl R) (.bl _) h⟩
theorem sim_all {K : Frag} (hK : K = B.K) : SimC B (rAll K) dAll := by
  intro env O σ H F vs ds q Q R r h kk
  obtain ⟨d, bs, rfl, e, h⟩ := h
  obtain ⟨v, rfl, r1⟩ := r.one
  obtain ⟨a, ws, rfl, hs, hr⟩ := asL_sq R.fh R.ow r1 e
  exact ⟨a, bs, rfl, by rw [hK, ← rvs_bls hr]; exact hs, kk _ _ O H F (.refl R) (.bl _) h⟩
variable {e o : Expr} {es : List Expr} {tA tB : DTA}
theorem bt_any : bootBuiltins "any" = some (.builtin "any") := by decide +kernel
theorem bt_all : bootBuiltins "all" = some (.builtin "all") := by decide +kernel
theorem so_any (S : Site X B k wx) (hc : X.calm = true) (hg : Gl X "any") (hm : X.mg "any" = none) (ha : PA X [e] (liftA B tA)) (he : starEach [e] X.env = (false, eval e X.env) :: starEach [] X.env := by rfl) (hpl : (backTo pos (starEach [] X.env)).any (·.1) = false := by rfl) : PE X (.Call (.Name "any" p) [e] [] pos) (lift B (dCB dAny tA)) :=
  de_cb (sim_any S.hK) (pe_callB (cr_any hc) hg hm bt_any ha (by decide) (by decide) he hpl)
theorem so_all (S : Site X B k wx) (hc : X.calm = true) (hg : Gl X "all") (hm : X.mg "all" = none) (ha : PA X [e] (liftA B tA)) (he : starEach [e] X.env = (false, eval e X.env) :: starEach [] X.env := by rfl) (hpl : (backTo pos (starEach [] X.env)).any (·.1) = false := by rfl) : PE X (.Call (.Name "all" p) [e] [] pos) (lift B (dCB dAll tA)) :=
  de_cb (sim_all S.hK) (pe_callB (cr_all hc) hg hm bt_all ha (by decide) (by decide) he hpl)
theorem i_any {d : D} {bs : List Bool} {O : Ow} {q : DQ} (e : asL O d = some (bs.map D.bl)) (h : q (.bl (bs.any id)) O) : dAny [d] O q := ⟨d, bs, rfl, e, h⟩
theorem i_all {d : D} {bs : List Bool} {O : Ow} {q : DQ} (e : asL O d = some (bs.map D.bl)) (h : q (.bl (bs.all id)) O) : dAll [d] O q := ⟨d, bs, rfl, e, h⟩
/-! ### C.m(..), m a classmethod -/
variable {C g pa : Addr} {mc : Value} {m x qn : Str} {st : Stmt} {kws : List (Str × V)} {ps : List Str} {n : Nat} {fn : DF} {pl : Sem Bool}
def dCm (C : Addr) (fn : DF) (n : Nat) (w : DW) (tA : DTA) : DTE := fun env O q => tA env O fun ds O1 => ds.length + 1 = n ∧ fn (.ref C :: ds) O1 q fun c fs O' => w c fs env O'
def dCmK (C : Addr) (fn : DF) (n l : Nat) (w : DW) (ix : List Nat) (tB : DTA) : DTE := fun env O q => tB env O fun es O1 => es.length = l ∧ (pick ix (.ref C :: es)).length = n ∧ fn (pick ix (.ref C :: es)) O1 q fun c fs O' => w c fs env O'
theorem so_cm (S : Site X B k wx) (Cl : Fn X.prog X.w X.K X.mg X.base x qn st [] kws ps n j fn g) (hj : j ≤ k) (hb : Bd0 x qn st ps) (r : ClX.CRead X.K C mc) (c : ClX.CMet X.K C mc m pa g) (he : PE X o (tC (.ref C))) (ha : PA X (e :: es) (liftA B tA))
    (hst : starEach (e :: es) X.env = (false, eval e X.env) :: starEach es X.env := by rfl) (hpl : (backTo pos (starEach es X.env)).any (·.1) = false := by rfl)
    (ht : eval (.Call (.Attribute o m apos) (e :: es) [] pos) X.env = (do
      let ov ← eval o X.env
      standAt apos.atName
      let (f, first) ← holding [ov] (getMethod ov m pl)
      callWith pos f first (backTo pos (starEach (e :: es) X.env)) (backToKw pos (keywordEach [] X.env))) := by rfl) :
    PE X (.Call (.Attribute o m apos) (e :: es) [] pos) (lift B (dCm C fn n wx tA)) := by
  obtain ⟨fd, G, F⟩ := Cl.ex
  refine ⟨fun pins s σ H Q I h => ?_⟩
  obtain ⟨env, O, F0, q, R, h, kk⟩ := h
  refine PySem.W.methodCall_KW (pl := pl) (thn (he.run pins s σ H (fun v H1 => v = .ref C ∧ H1 = H) I ⟨rfl, rfl⟩) fun u s1 ⟨x, H1, I1, rx, ex, eh⟩ => ?_) ht
  subst ex eh
  obtain rfl : u = Value.ref C := rx
  refine ClX.getmethcm_ok I1 r c fun s2 I2 => ?_
  refine ClX.callwith_cm I2 (ClX.base_none I1 (Nat.le_refl _)) c.fi (thn (ha.run pos _ s2 σ H1 (fun vs H2 => spD B.K n fn (.ref C :: vs) H2 Q (fun c d H' => liftX B wx c d σ H')) I2 ⟨env, O, F0, _, R, h, ?_⟩) fun us s3 ⟨vs, H2, I3, rv, q2⟩ => ⟨⟨ClX.pin_at I3, I3.kIn⟩, ?_⟩) hst hpl
  · intro ds vs O1 H1 F1 a1 r1 q1
    exact sp_of (R.call a1) (.cons (.ref C) r1) q1.1 q1.2 fun d v O' H' F' a' r' hq => kk d v O' H' F' (a1.trans a') r' hq
  · have hl : (Value.ref C :: us ++ []).length = ps.length := by
      have e1 : (V.ref C :: vs).length = ps.length := G.len _ _ _ _ (S.hK ▸ q2)
      rw [List.append_nil, ← e1, List.length_cons, List.length_cons, rv.length]
    have hbb := FunD.b0 F hb
    have z : wpAny (model X.prog X.w) X.A (call (.ref s1.heap.objs.size) us) (EP X ((s1.heap.objs.size, PySem.W.methodObj (.ref g) (.ref C)) :: pins) σ Q) X.xe s3 := by
      refine wpAny_call (PySem.W.method_call (ClX.pin_at I3) (codeAny_mono (G.run X.A X.stack s3 H2 ⟨.ref C :: us, []⟩ (.ref C :: us ++ []) (.ref C :: vs) Q _ S.gd (S.rm.mono hj) I3.env0 (hbb s3 (.ref C :: us) I3.kIn hl) (by rw [List.append_nil]; exact .cons rfl rv) (S.hK ▸ q2)) fun r s' hq => ?_))
      match r, hq with
      | .error e, hq => exact S.tk _ s' (XE.of_call I3 (fun _ _ _ z => z) hq)
      | .ok (.ret u), hq => exact I3.after hq
      | .ok .next, hq => exact False.elim hq
      | .ok .brk, hq => exact False.elim hq
      | .ok .cont, hq => exact False.elim hq
    exact thn z fun _ _ y => ClX.unpinE y
theorem so_cmK {ks : List Str} {ix : List Nat} {kwl : List Keyword} (S : Site X B k wx) (Cl : Fn X.prog X.w X.K X.mg X.base x qn st [] kws ps n j fn g) (hj : j ≤ k) (hb : BdK x qn st ps 1 ks ix) (r : ClX.CRead X.K C mc) (c : ClX.CMet X.K C mc m pa g) (he : PE X o (tC (.ref C))) (hkw : PK X kwl (liftA B tB))
    (hall : (backToKw pos (keywordEach kwl X.env)).all (·.1.isSome) = true := by rfl) (hks : (backToKw pos (keywordEach kwl X.env)).filterMap (·.1) = ks := by rfl)
    (hpl : ((backTo pos (starEach [] X.env)).any (·.1) || (backToKw pos (keywordEach kwl X.env)).any (·.1.isNone)) = false := by rfl)
    (ht : eval (.Call (.Attribute o m apos) [] kwl pos) X.env = (do
      let ov ← eval o X.env
      standAt apos.atName
      let (f, first) ← holding [ov] (getMethod ov m pl)
      callWith pos f first (backTo pos (starEach [] X.env)) (backToKw pos (keywordEach kwl X.env))) := by rfl) :
    PE X (.Call (.Attribute o m apos) [] kwl pos) (lift B (dCmK C fn n ks.length wx ix tB)) := by
  obtain ⟨fd, G, F⟩ := Cl.ex
  refine ⟨fun pins s σ H Q I h => ?_⟩
  obtain ⟨env, O, F0, q, R, h, kk⟩ := h
  refine PySem.W.methodCall_KW (pl := pl) (thn (he.run pins s σ H (fun v H1 => v = .ref C ∧ H1 = H) I ⟨rfl, rfl⟩) fun u s1 ⟨x, H1, I1, rx, ex, eh⟩ => ?_) ht
  subst ex eh
  obtain rfl : u = Value.ref C := rx
  refine ClX.getmethcm_ok I1 r c fun s2 I2 => ?_
  refine PySem.W.callWith_of (P := PySem.W.MethP X.K s1.heap.objs.size g (.ref C)) hpl (PySem.W.keeps_M c.fi) (evalArgs_kw2_nil hall (thn (hkw.run pos _ s2 σ H1 (fun zs H2 => zs.length = ks.length ∧ spD B.K n fn (pick ix ([.ref C] ++ zs)) H2 Q (fun c d H' => liftX B wx c d σ H')) I2 ⟨env, O, F0, _, R, h, ?_⟩) fun ws s3 ⟨zs, H2, I3, rz, l2, q2⟩ => ⟨⟨ClX.pin_at I3, I3.kIn⟩, ?_⟩))
  · intro es zs O1 H1 F1 a1 r1 q1
    refine ⟨r1.length ▸ q1.1, sp_of (R.call a1) (pick_rv (.cons (.ref C) r1) ix) q1.2.1 q1.2.2 fun d v O' H' F' a' r' hq => kk d v O' H' F' (a1.trans a') r' hq⟩
  · rw [hks]
    have hbb := FunD.bk F hb
    have z : wpAny (model X.prog X.w) X.A (call (.ref s1.heap.objs.size) [] (ks.zip ws)) (EP X ((s1.heap.objs.size, PySem.W.methodObj (.ref g) (.ref C)) :: pins) σ Q) X.xe s3 := by
      refine wpAny_call (PySem.W.method_call (ClX.pin_at I3) (codeAny_mono (G.run X.A X.stack s3 H2 ⟨[.ref C], ks.zip ws⟩ _ (pick ix ([.ref C] ++ zs)) Q _ S.gd (S.rm.mono hj) I3.env0 (hbb.to s3 [.ref C] ws I3.kIn rfl (rz.length.symm.trans l2)) (hbb.rel (vs := [V.ref C]) (us := [Value.ref C]) (.cons rfl .nil) rz) (S.hK ▸ q2)) fun r s' hq => ?_))
      match r, hq with
      | .error e, hq => exact S.tk _ s' (XE.of_call I3 (fun _ _ _ z => z) hq)
      | .ok (.ret u), hq => exact I3.after hq
      | .ok .next, hq => exact False.elim hq
      | .ok .brk, hq => exact False.elim hq
      | .ok .cont, hq => exact False.elim hq
    exact thn z fun _ _ y => ClX.unpinE y
theorem i_cm {env : Env} {O : Ow} {q : DQ} {w : DW} (h : tA env O fun ds O1 => ds.length + 1 = n ∧ fn (.ref C :: ds) O1 q fun c fs O' => w c fs env O') : dCm C fn n w tA env O q := h
theorem i_cmK {env : Env} {O : Ow} {q : DQ} {w : DW} {l : Nat} {ix : List Nat} (h : tB env O fun es O1 => es.length = l ∧ (pick ix (.ref C :: es)).length = n ∧ fn (pick ix (.ref C :: es)) O1 q fun c fs O' => w c fs env O') : dCmK C fn n l w ix tB env O q := h
/-! ### cls(..), cls a local name that holds the class at C -/
variable {f : Addr}
def dMakeL (i : Nat) (C : Addr) (fn : DF) (n : Nat) (w : DW) (tA : DTA) : DTE := fun env O q => env[i]? = some (some (.ref C)) ∧ dMake C fn n w [] tA env O q
theorem so_makeL (S : Site X B k wx) (Cl : Fn X.prog X.w X.K X.mg X.base "__init__" qn st [] kws ps n j fn f) (hj : j + 1 ≤ k) (M : Mk X.K C f) (hb : Bd0 "__init__" qn st ps) (hN : X.N[i]? = some x) (hv : Vis X.env.scope x) (ha : PA X (e :: es) (liftA B tA))
    (hdb : (x == ("__debug__" : Str)) = false := by decide) (hcd : (x == ("__classdict__" : Str)) = false := by decide)
    (he : starEach (e :: es) X.env = (false, eval e X.env) :: starEach es X.env := by rfl) (hpl : (backTo pos (starEach es X.env)).any (·.1) = false := by rfl) :
    PE X (.Call (.Name x p) (e :: es) [] pos) (lift B (dMakeL i C fn n wx tA)) := by
  obtain ⟨fd, G, F⟩ := Cl.ex
  refine ⟨fun pins s σ H Q I h => ?_⟩
  obtain ⟨env, O, F0, q, R, ⟨hs, h⟩, kk⟩ := h
  obtain ⟨v0, e0, r0⟩ := R.sl.2 i _ hs
  cases r0
  refine wpAny_Call_Name_kw (thn ((pe_var (pos := p) hN hv hdb hcd).run pins s σ H (fun v H1 => v = .ref C ∧ H1 = H) I ⟨.ref C, e0, rfl, rfl⟩) fun u s1 ⟨v, H1, I1, r1, q1⟩ => ?_)
  obtain ⟨rfl, rfl⟩ := q1
  cases r1
  refine PySem.W.callWith_K (h₀ := X.base) I.ok.mod.kin M.kp (thn (ha.run pos pins s1 σ H1 (fun vs H1 => ∀ x dx, H1 x = none → H1 dx = none → dx ≠ x → spD B.K n fn (.ref x :: (vs ++ [])) (upd (upd H1 dx (.own x)) x (.ins C dx [])) (fun v H2 => v = .non ∧ Q (.ref x) H2) (fun c d H' => liftX B wx c d σ H')) I1 ⟨env, O, F0, _, R, h, ?_⟩) fun us s1 ⟨vs, H1, I1, rv, z⟩ => ⟨I1.kIn, ?_⟩) he hpl
  · intro ds vs O1 H1 F1 a1 r1 q1 x dx hx hdx hne
    have R1 := R.call a1
    exact sp_make R1 (r1.append .nil) q1.1 hx hdx hne (q1.2 x dx (R1.free hx).1 (R1.free hdx).1 hne) fun d v O' H' F' a' r' hq => kk d v O' H' F' (a1.trans a') r' hq
  · exact run_mkG M (S.hK ▸ G) S.gd (S.rm.mono hj) (FunD.b0 F hb) .nil S.tk I1 rv z
theorem i_makeL {env : Env} {O : Ow} {q : DQ} {w : DW} (h0 : env[i]? = some (some (.ref C))) (h : tA env O fun ds O1 => (ds ++ []).length + 1 = n ∧ ∀ x dx, O1 x = none → O1 dx = none → dx ≠ x →
  fn (.ref x :: (ds ++ [])) (setO O1 x (.ins C dx [])) (fun d O2 => d = .non ∧ q (.ref x) O2) fun c fs O' => w c fs env O') : dMakeL i C fn n w tA env O q := ⟨h0, h⟩
end
section
variable {O : Ow} {q : DQ}
theorem i_lenStr {s : Str} (hl : s.length ≤ 1000000) (h : q (.int (s.length : Nat)) O) : dLen [.str s] O q := ⟨s.length, by rw [lenD, if_pos (by rw [sizeLine_eq]; omega)], h⟩
theorem i_ixStr {s : Str} {i : Int} {c : Nat} (hl : s.length ≤ 1000000) (e : atI s.cps.toList i = some c) (h : q (.str ⟨#[c]⟩) O) : dIx (.str s) (.int i) O q := ⟨c, by rw [sizeLine_eq]; omega, e, h⟩
theorem i_neS {i j : Str} (hi : strGood i = true) (hj : strGood j = true) (h : q (.bl (!decide (i = j))) O) : dNe (.str i) (.str j) O q := i_neG (good_str hi) (good_str hj) (by rw [eqv_str]; exact h)
theorem i_addSt {a b : Str} (h1 : a.length + b.length ≤ 1000000) (h : q (.str (a ++ b)) O) : dAdd (.str a) (.str b) O q := ⟨by rw [sizeLine_eq]; omega, h⟩
end
/-! ### what the text must have for a classmethod -/
def cm2 (K : Frag) (C : Str) (f : Str) : Addr := match PySem.W.recIn K (He.ma K (He.ga K C) f) "classmethod" with
  | some (.ref g :: _) => g
  | _ => 0
def cmetB (C m : Str) : Fac := fun K => PySem.W.readsIn K (He.ga K C) (.type "type") && (He.eqO (PySem.W.specialIn K (.ref (He.ga K C)) "__getattribute__") (some (some (.builtin "type.__getattribute__"))) &&
  ((match PySem.W.findCls K (.ref (He.ga K C)) (.type "type") m with
    | some (.get (.builtin b) (.ref p) .none (.ref c)) => decide (b = "classmethod.__get__") && (decide (p = He.ma K (He.ga K C) m) && decide (c = He.ga K C))
    | _ => false) && (match PySem.W.recIn K (He.ma K (He.ga K C) m) "classmethod" with
    | some (.ref g :: _) => PySem.W.fnIn K g
    | _ => false)))
theorem cmetB_ok {K : Frag} {C m : Str} (h : cmetB C m K = true) : ClX.CRead K (He.ga K C) (.type "type") ∧ ClX.CMet K (He.ga K C) (.type "type") m (He.ma K (He.ga K C) m) (cm2 K C m) := by
  unfold cmetB at h
  simp only [Bool.and_eq_true] at h
  obtain ⟨h1, h2, h3, h4⟩ := h
  refine ⟨⟨h1, He.eqO_ok h2⟩, ?_⟩
  split at h3
  · rename_i b p c e
    simp only [Bool.and_eq_true, decide_eq_true_eq] at h3
    obtain ⟨rfl, rfl, rfl⟩ := h3
    unfold cm2
    split at h4
    · rename_i g r e2
      exact ⟨e, ⟨r, by rw [e2]⟩, h4⟩
    · cases h4
  · cases h3
end DL

set_option Elab.async false
set_option linter.all false
set_option maxRecDepth 100000
set_option maxHeartbeats 4000000
/-! # DLU: plain laws on texts: parts of a text, numbers in texts -/
namespace DL
open PySem PySem.Spec PyProof.Rows L2
theorem spl_facts (S : List Nat) : ∀ (l : List Nat) (k : Nat) (acc : List Nat), TL.spl S k acc l ≠ [] ∧ (TL.spl S k acc l).length ≤ l.length + 1 ∧ ∀ p ∈ TL.spl S k acc l, p.length ≤ acc.length + l.length ∧ ∀ x ∈ p, x ∈ acc ∨ x ∈ l
  | [], k, acc => by
    rw [TL.spl_nil]
    refine ⟨by simp, by simp, fun p hp => ?_⟩
    simp only [List.mem_singleton] at hp
    subst hp
    exact ⟨by simp, fun x hx => .inl hx⟩
  | c :: r, 0, acc => by
    cases h : TL.pre S (c :: r) with
    | true =>
      rw [TL.spl_hit h]
      obtain ⟨h1, h2, h3⟩ := spl_facts S r (S.length - 1) []
      refine ⟨by simp, by simp; omega, fun p hp => ?_⟩
      rcases List.mem_cons.mp hp with rfl | hp
      · exact ⟨by simp, fun x hx => .inl hx⟩
      · obtain ⟨h4, h5⟩ := h3 p hp
        refine ⟨by simp at h4 ⊢; omega, fun x hx => ?_⟩
        rcases h5 x hx with h | h
        · cases h
        · exact .inr (List.mem_cons_of_mem _ h)
    | false =>
      rw [TL.spl_miss h]
      obtain ⟨h1, h2, h3⟩ := spl_facts S r 0 (acc ++ [c])
      refine ⟨h1, by simp; omega, fun p hp => ?_⟩
      obtain ⟨h4, h5⟩ := h3 p hp
      refine ⟨by simp at h4 ⊢; omega, fun x hx => ?_⟩
      rcases h5 x hx with h | h
      · rcases List.mem_append.mp h with h | h
        · exact .inl h
        · simp at h; subst h; exact .inr List.mem_cons_self
      · exact .inr (List.mem_cons_of_mem _ h)
  | c :: r, k + 1, acc => by
    show TL.spl S k acc r ≠ [] ∧ (TL.spl S k acc r).length ≤ (c :: r).length + 1 ∧ ∀ p ∈ TL.spl S k acc r, p.length ≤ acc.length + (c :: r).length ∧ ∀ x ∈ p, x ∈ acc ∨ x ∈ c :: r
    obtain ⟨h1, h2, h3⟩ := spl_facts S r k acc
    refine ⟨h1, by simp; omega, fun p hp => ?_⟩
    obtain ⟨h4, h5⟩ := h3 p hp
    exact ⟨by simp; omega, fun x hx => (h5 x hx).imp id (List.mem_cons_of_mem _)⟩
theorem split_facts {x y : Str} (hy : TL.tl y ≠ []) (hk : y.cps.all (· < 256) = true) : Txt.split x y ≠ [] ∧ (Txt.split x y).length ≤ x.length + 1 ∧ ∀ p ∈ Txt.split x y, p.length ≤ x.length ∧ ∀ c ∈ TL.tl p, c ∈ TL.tl x := by
  have e := TL.split_spl x y hy (TL.kind_ok hk)
  obtain ⟨h1, h2, h3⟩ := spl_facts (TL.tl y) (TL.tl x) 0 []
  rw [← e] at h1 h2 h3
  refine ⟨fun z => h1 (by rw [z]; rfl), by rw [List.length_map] at h2; rw [TL.len_tl]; exact h2, fun p hp => ?_⟩
  obtain ⟨h4, h5⟩ := h3 _ (List.mem_map_of_mem hp)
  refine ⟨by rw [TL.len_tl, TL.len_tl x]; simpa using h4, fun c hc => ?_⟩
  rcases h5 c hc with h | h
  · cases h
  · exact h
theorem good_sub {s t : Str} (h : ∀ c ∈ TL.tl s, c ∈ TL.tl t) (ht : strGood t = true) : strGood s = true := by
  simp only [strGood, PyData.canLay0, PyData.strOk, Array.all_eq_true_iff_forall_mem, decide_eq_true_eq] at ht ⊢
  intro x hx
  exact ht x (by simpa [TL.tl] using h x (by simpa [TL.tl] using hx))
theorem dig_low : ∀ c : Fin 128, Unicode.isDigit c.val = true → 48 ≤ c.val ∧ c.val ≤ 57 := by decide +kernel
theorem dig_all {w : Str} (h1 : Txt.isascii w = true) (h2 : Txt.isdigit w = true) : PySem.NumText.AllDigits w.cps.toList := by
  intro c hc
  unfold Txt.isascii at h1
  unfold Txt.isdigit at h2
  simp only [Bool.and_eq_true] at h2
  rw [← Array.all_toList, List.all_eq_true] at h1
  have a1 := h1 c hc
  have h3 := h2.2
  rw [← Array.all_toList, List.all_eq_true] at h3
  have a2 := h3 c hc
  exact dig_low ⟨c, by simpa using a1⟩ a2
end DL
namespace DL
open PySem PySem.Spec PyProof.Rows L2
section
variable {O : Ow} {q : DQ}
theorem i_notinStr {s : Str} {ws : List Str} (hs : strGood s = true) (hw : ws.all strGood = true) (h : q (.bl (!ws.contains s)) O) : dNotIn (.str s) (.tup (ws.map D.str)) O q := by
  refine ⟨_, _, asP_pd (good_pd (good_str hs)), asPs_T (strs_pds ws), good_sh (good_str hs), shaped_strs hw, ?_⟩
  rw [if_pos rfl, any_strs]
  exact h
end
end DL
namespace DL
open PySem PySem.Spec PyProof.Rows L2
/-! ### " | " -/
theorem pre_bar {c : Nat} {r : List Nat} (h : r.head? ≠ some 124) : TL.pre [32, 124, 32] (c :: r) = false := by
  cases r with
  | nil => simp [TL.pre]
  | cons d r =>
    have : d ≠ 124 := fun z => h (by rw [z]; rfl)
    simp [TL.pre, this]
theorem free_bar : ∀ {p : List Nat}, 124 ∉ p → SX.free [32, 124, 32] p = true
  | [], _ => rfl
  | c :: r, h => by
    show (!(TL.pre [32, 124, 32] (c :: (r ++ [32, 124, 32]))) && SX.free [32, 124, 32] r) = true
    rw [free_bar fun z => h (List.mem_cons_of_mem _ z), pre_bar]
    · rfl
    · cases r with
      | nil => simp
      | cons d r => simpa using fun z => h (by rw [z]; simp)
theorem last_bar {p : List Nat} (h : 124 ∉ p) : TL.spl [32, 124, 32] 0 [] p = [p] := by
  have := TL.spl_last (S := [32, 124, 32]) (p := p) (acc := []) fun i hi => ?_
  · simpa using this
  · have e : p.drop i = p[i] :: p.drop (i + 1) := List.drop_eq_getElem_cons hi
    rw [e]
    refine pre_bar fun z => h ?_
    have : 124 ∈ p.drop (i + 1) := List.mem_of_mem_head? (by rw [z]; exact rfl)
    exact List.mem_of_mem_drop this
theorem split_bar {a b : Str} (ha : 124 ∉ TL.tl a) (hb : 124 ∉ TL.tl b) : Txt.split (Txt.join " | " [a, b]) " | " = [a, b] := by
  refine TL.map_tl_inj ?_
  have ey : TL.tl (Str.ofString " | ") = [32, 124, 32] := by decide +kernel
  rw [TL.split_spl _ _ (by rw [ey]; simp) (TL.kind_ok (by decide +kernel)), TL.join_eq, TL.tl_join, ey]
  show TL.spl [32, 124, 32] 0 [] (TL.tl a ++ ([32, 124, 32] ++ TL.tl b)) = _
  rw [SX.spl_free _ (by simp) (free_bar ha), last_bar hb]
  rfl
/-! ### a joined text grows -/
theorem joinL_snoc (S x : List Nat) : ∀ ps : List (List Nat), TL.joinL S (ps ++ [x]) = TL.joinL S ps ++ ((if ps.length = 0 then [] else S) ++ x)
  | [] => rfl
  | [p] => rfl
  | p :: q :: r => by
    have ih := joinL_snoc S x (q :: r)
    show p ++ (S ++ TL.joinL S (q :: r ++ [x])) = p ++ (S ++ TL.joinL S (q :: r)) ++ _
    rw [ih]
    simp
theorem join_snoc (y x : Str) (ps : List Str) : Txt.join y (ps ++ [x]) = Txt.join y ps ++ (if ps.length = 0 then ("" : Str) else y) ++ x := by
  refine TL.ext_tl ?_
  rw [TL.tl_append, TL.tl_append, TL.join_eq, TL.join_eq, TL.tl_join, TL.tl_join, List.map_append, List.map_cons, List.map_nil, joinL_snoc, List.length_map]
  by_cases h : ps.length = 0
  · have e0 : TL.tl (Str.ofString "") = [] := by decide +kernel
    rw [if_pos h, if_pos h, e0]; simp
  · rw [if_neg h, if_neg h]; simp
theorem join3 (y a b c : Str) : Txt.join y [a, b, c] = a ++ y ++ b ++ y ++ c := by
  refine TL.ext_tl ?_
  rw [TL.join_eq, TL.tl_join]
  simp [TL.tl_append, TL.joinL]
theorem join2T (y a b : Str) : Txt.join y [a, b] = a ++ y ++ b := by
  refine TL.ext_tl ?_
  rw [TL.join_eq, TL.tl_join]
  simp [TL.tl_append, TL.joinL]
theorem app_assoc (a b c : Str) : a ++ b ++ c = a ++ (b ++ c) := TL.ext_tl (by simp [TL.tl_append])
end DL

set_option Elab.async false
set_option linter.all false
set_option maxRecDepth 100000
set_option maxHeartbeats 4000000
/-! # DLV: isinstance of a caught exception with fields; repr of data with empty dicts in it -/
namespace PySem.W
open PySem PySem.Spec PySem.Calls PyProof.Rows
section
variable {prog : Program} {w : World} {A : Around} {E : Value → Shared → Prop} {s : Shared} {K : Frag} {x D : Addr} {ox : Obj} {od : Option Obj}
theorem findObj_dataO {C : Addr} {name : Str} {a g : Value} (hc : (clsIn K C).isSome = true) (ha : findIn K (.ref C) name = some (some a)) (hg : specialIn K a "__get__" = some (some g)) (ht : takesIn K a = some true) : findObj K C od name = some (.bind g a) := by
  obtain ⟨cd, hc⟩ := Option.isSome_iff_exists.mp hc
  unfold findObj
  rw [hc, Option.bind_some, ha, Option.bind_some]
  simp [hg, ht]
theorem kin_classO {Q : Option Value → Shared → Prop} (hga : findIn K (.ref D) "__getattribute__" = some (some (.builtin "BaseException.__getattribute__"))) (hgt : findIn K (.ref D) "__getattr__" = some none) (hsub : subIn K (.ref D) (.type "BaseException") = some true)
    (hdct : hasDictIn K D = true) (ha : findIn K (.ref D) "__class__" = some (some (.builtin "object.__class__")))
    (hn : specialIn K (.builtin "object.__class__") "__get__" = some (some (.builtin "getset_descriptor.__get__"))) (htk : takesIn K (.builtin "object.__class__") = some true) (hm : mroIn K D (.type "object") = some true)
    (X : K.In s.heap) (I : InstAt s.heap x ox D od) (h : Q (some (.ref D)) { s with toks := s.toks + 1 }) : wpAny (model prog w) A (getAttr? (.ref x) "__class__") Q E s := by
  have hf : findObj K D od "__class__" = some (.bind (.builtin "getset_descriptor.__get__") (.builtin "object.__class__")) := findObj_dataO (by obtain ⟨cd, hc, _⟩ := any_some hdct; rw [hc]; rfl) ha hn htk
  obtain ⟨hp, g, d, t, os⟩ := s
  have L0 := I.type (M := model prog w)
  have L1 := looks_findIn (M := model prog w) X hga
  have L2 := looks_findIn (M := model prog w) X hgt
  have L3 := looks_find (M := model prog w) X I hf
  have sub : Looks (model prog w) hp (isInstance (.ref x) (.type "BaseException")) true := L0.andThen (looks_subIn X hsub)
  have hx0 : (false && onTheHeap (Value.builtin "BaseException.__getattribute__")) = false := rfl
  have hx2 : (Value.builtin "BaseException.__getattribute__" == Value.builtin "object.__getattribute__") = false := by decide +kernel
  have hx1 : (onTheHeap (Value.ref D) && Value.builtin "BaseException.__getattribute__" == Value.builtin "object.__getattribute__") = false := by rw [hx2]; rfl
  unfold getAttr? getAttrBy? getAttrBy
  refine wpAny_bind (wpAny_mkText (wpAny_bind (wpAny_attempt (wpAny_holding (wpAny_bind (L0.at (wpAny_bind (L1.at ?_))))))))
  show wpAny _ _ (if (onTheHeap (Value.ref D) && Value.builtin "BaseException.__getattribute__" == Value.builtin "object.__getattribute__") = true then _ else _) _ _ _
  rw [hx1, if_neg Bool.false_ne_true]
  unfold getAttrByItsOwn hookBefore
  refine wpAny_bind ?_
  rw [if_pos (show onTheHeap (Value.ref D) = true from rfl)]
  refine L2.at ?_
  refine wpAny_bind (wpAny_attempt (wpAny_holding ?_))
  unfold callGetattribute
  rw [hx0, if_neg Bool.false_ne_true]
  unfold boundAndCalled
  rw [PySem.F.excAttr_ValueError.ga.bind (.ref x)]
  refine wpAny_bind (wpAny_pure ?_)
  show wpAny _ _ (call (.builtin "BaseException.__getattribute__") [.ref x, .str "__class__" t]) _ _ _
  refine wpAny_call (codeAny_call_builtin PySem.F.excAttr_ValueError.ga.plain PySem.F.entry_bexc_ga ?_)
  refine @check_slot (model prog w) _ _ ⟨hp, g, d, t + 1, os⟩ "BaseException.__getattribute__" "BaseException" "__getattribute__" (.ref x) [.str "__class__" t] [] _ (by decide +kernel) (by decide +kernel) sub (PySem.F.args_bexc_ga (.ref x) (.str "__class__" t)) ?_
  unfold Builtin.«object.__getattribute__»
  refine wpAny_bind (wpAny_of_eq (a := ((Value.ref x : Value), [Value.str "__class__" t])) (by first | rfl | (simp only [slotArgs]; rfl)) ?_)
  refine wpAny_bind (wpAny_pure (wpAny_bind (L0.at (wpAny_bind (L3.at ?_)))))
  show wpAny _ _ (holding [Value.builtin "object.__class__"] (call (.builtin "getset_descriptor.__get__") [.builtin "object.__class__", .ref x, .ref D]) >>= ret) _ _ _
  refine wpAny_bind (wpAny_holding (wpAny_call (class_get (s := ⟨hp, g, d, t + 1, os⟩) (ox := ox) (od := od) X I hm ?_)))
  refine wpAny_pure ?_
  show wpAny _ _ (handedOut (.ref D)) _ _ _
  rw [handedOut_of (v := .ref D) rfl]
  first
    | exact wpAny_pure (wpAny_pure h)
    | exact wpAny_pure h
    | exact wpAny_pure (wpAny_bind (wpAny_pure (wpAny_pure h)))
theorem kitx_excO (hga : findIn K (.ref D) "__getattribute__" = some (some (.builtin "BaseException.__getattribute__"))) (hgt : findIn K (.ref D) "__getattr__" = some none) (hsub : subIn K (.ref D) (.type "BaseException") = some true) (hdct : hasDictIn K D = true) (ha : findIn K (.ref D) "__class__" = some (some (.builtin "object.__class__")))
    (hn : specialIn K (.builtin "object.__class__") "__get__" = some (some (.builtin "getset_descriptor.__get__"))) (htk : takesIn K (.builtin "object.__class__") = some true) (hm : mroIn K D (.type "object") = some true) :
    KitX K (.ref x) (.ref D) (fun h => InstAt h x ox D od) where
  ty := fun _ _ _ I => I.type
  it := fun _ _ X _ => by
    obtain ⟨cdD, hcD, _⟩ := any_some hdct
    unfold clsIn at hcD
    split at hcD
    · rename_i c' d' cd' sl' ho
      intro A' Q' E' s' k q
      unfold isType loadHead
      exact wpAny_bind (wpAny_loadPart (k _ _ (X _ _ ho)) (wpAny_pure q))
    · cases hcD
  ne := fun h tp dd its n sl X htp => by
    obtain ⟨cdD, hcD, _⟩ := any_some hdct
    refine Bool.eq_false_iff.mpr fun q => ?_
    have e : D = tp := Value.ref.inj (beq_iff_eq.mp q)
    subst e
    unfold clsIn at hcD
    split at hcD
    · rename_i c' d' cd' sl' ho
      have z := (X _ _ ho).symm.trans htp
      cases z
    · cases hcD
  ca := fun X I k => kin_classO hga hgt hsub hdct ha hn htk hm X I k
end
end PySem.W
namespace DL
open PySem PySem.Spec PyProof.Rows L2
section
variable {X : Cx} {B : Bd} {pos p np : Pos} {f : Str}
/-- isinstance(e, c), e the exception that the suite holds, with fields of its own or without -/
def rIsO (K : Frag) (C a : Addr) (cls : Value) (d : Option Addr) : List V → Hp → VK → Prop := fun xs H Q => cls = .ref C ∧ ∃ (c : V) (cv : Value) (b : Bool), xs = [.ref a, c] ∧ (∀ u, RelV c u → u = cv) ∧ PySem.W.kitOne K (.ref C) cv = some b ∧ (d = none ∨ ∃ dd gs, d = some dd ∧ H dd = some (.xd gs)) ∧ Q (.bl b) H
theorem call_isO {a C : Addr} {oe : Obj} {cls : Value} {d : Option Addr} {pn : List (Addr × Obj)} (T : ExcC X.K C) (hz : Zc cls d oe) (hf : ∃ vs, oe.data = .fields vs) : CallR (X.suite a ((a, oe) :: pn)) (.builtin "isinstance") (rIsO X.K C a cls d) := by
  intro pins s σ H xs us Q I r h
  obtain ⟨rfl, c, cv, b, rfl, hcv, e, hd, q⟩ := h
  cases r with
  | cons rx rr =>
    cases rr with
    | cons rt rr =>
      cases rr
      cases rx
      have ec := hcv _ rt
      subst ec
      obtain ⟨hget, _⟩ := I.pin (a, oe) (List.mem_append.mpr (.inl List.mem_cons_self))
      obtain ⟨vs, hv⟩ := hf
      have J : ∃ od, PySem.W.InstAt s.heap a oe C od := by
        rcases hd with rfl | ⟨dd, gs, rfl, ea⟩
        · refine ⟨none, ?_⟩
          obtain ⟨oc, od, oda, osl⟩ := oe
          obtain ⟨h1, h2⟩ := hz
          dsimp only at h1 h2 hv
          subst h1 h2 hv
          exact ⟨hget, rfl, rfl, trivial⟩
        · obtain ⟨mA, hns, hr⟩ := (I.hok dd _ ea : ObjOk X.prog X.w H s.heap dd (.xd gs))
          obtain ⟨od, ho, hl⟩ := lookIn_ns hns
          exact ⟨some od, hget, hz.1, by unfold PySem.W.notCls; rw [hv], by rw [hz.2]; exact ho⟩
      obtain ⟨od, J⟩ := J
      exact PySem.W.kia_one (PySem.W.kitx_excO T.hg T.hk T.hs T.hd T.ha T.hn T.ht T.hm) I.kIn J e (fun z => nomatch z) fun tk => ⟨.bl b, H, I.kept (t' := tk) fun _ _ z => z, rfl, q⟩
/-- isinstance(e, T) of the caught exception, T a builtin class -/
def dXi (a : Addr) (cls : Value) (C : Addr) (b : Bool) (te : DTE) : DTE := fun env O q => te env O fun x O1 => x = .ref a ∧ cls = .ref C ∧ q (.bl b) O1
theorem de_xi {C a : Addr} {oe : Obj} {cls : Value} {d : Option Addr} {pn : List (Addr × Obj)} {e : Expr} {te : DTE} {T : Str} {n : String} {b : Bool} {fs : List (Str × D)} (hC : ExcC X.K C) (hz : Zc cls d oe) (hv : ∃ vs, oe.data = .fields vs) (hin : InSu B d fs)
    (hg : Gl X "isinstance") (hm : X.mg "isinstance" = none) (hgT : Gl X T) (hmT : X.mg T = none) (hT : bootBuiltins T = some (.type n)) (hk : PySem.W.kitOne X.K (.ref C) (.type n) = some b)
    (he : PE (X.suite a ((a, oe) :: pn)) e (lift B te)) (hnT : T ≠ "__name__" := by decide) (hdT : (T == ("__debug__" : Str)) = false := by decide)
    (h1 : starEach [e, .Name T np] X.env = (false, eval e X.env) :: starEach [.Name T np] X.env := by rfl) (h2 : (backTo pos (starEach [.Name T np] X.env)).any (·.1) = false := by rfl) :
    PE (X.suite a ((a, oe) :: pn)) (.Call (.Name "isinstance" p) [e, .Name T np] [] pos) (lift B (dXi a cls C b te)) := by
  have hp : PE (X.suite a ((a, oe) :: pn)) (.Name T np) (tC (.ty n)) := pe_bltn hgT hmT hT (v := .ty n) rfl hnT hdT
  have ha : PA (X.suite a ((a, oe) :: pn)) [e, .Name T np] (tCons (lift B te) (tCons (tC (.ty n)) tNil)) := pa_cons he (pa_cons hp pa_nil rfl) h1
  refine PE.weak (pe_callB (call_isO hC hz hv) hg hm (by decide +kernel : bootBuiltins "isinstance" = some (.builtin "isinstance")) ha (by decide) (by decide) h1 h2) fun σ H Q h => ?_
  obtain ⟨env, O, F, q, R, h, kk⟩ := h
  refine ⟨env, O, F, _, R, h, fun x v O1 H1 F1 a1 r1 h2 => ?_⟩
  obtain ⟨rfl, hcls, h2⟩ := h2
  cases r1
  refine ⟨hcls, .ty n, .type n, b, rfl, fun u r => r, hk, ?_, kk _ _ O1 H1 F1 a1 (.bl b) h2⟩
  have b1 := R.af.trans a1
  rcases hin.xr with ⟨z, z2⟩ | ⟨dd, gs, z, z2, rk⟩
  · exact .inl z
  · have hO : B.O dd = none := by
      cases q2 : B.O dd with
      | none => rfl
      | some o =>
        obtain ⟨_, ho, e2, r⟩ := hin.ow dd o q2
        rw [z2] at e2
        cases e2
        cases o <;> obtain ⟨_, r, _⟩ := r <;> cases r
    exact .inr ⟨dd, gs, z, b1.kp dd _ z2 hO⟩
theorem i_xi {a C : Addr} {cls : Value} {b : Bool} {te : DTE} {env : Env} {O : Ow} {q : DQ} (h : te env O fun x O1 => x = .ref a ∧ cls = .ref C ∧ q (.bl b) O1) : dXi a cls C b te env O q := h
end
end DL

/-! ### repr of data with empty dicts -/
namespace DL
open PySem PySem.Spec PyProof.Rows L2
/-- at sysModules stands no list -/
def SmOk (K : Frag) : Prop := ∃ o, K.lookup sysModules = some o ∧ o.cls ≠ .type "list"
def smB : Fac := fun K => match K.lookup sysModules with
  | some ⟨.type n, _, _, _⟩ => decide (n = "dict")
  | _ => false
theorem smB_ok {K : Frag} (h : smB K = true) : SmOk K := by
  unfold smB at h
  split at h
  · rename_i n a b c e
    refine ⟨_, e, fun z => ?_⟩
    have h := of_decide_eq_true h
    cases z
    exact absurd h (by decide)
  · cases h
mutual
inductive DpE (K : Frag) (H : Hp) : V → PyData → Prop
  | non : DpE K H .non .none
  | bl (b : Bool) : DpE K H (.bl b) (.bool b)
  | int (i : Int) : DpE K H (.int i) (.int i)
  | str (x : Str) : DpE K H (.str x) (.str x)
  | lst {a : Addr} {xs : List V} {ds : List PyData} : SqL K H a xs → DpEs K H xs ds → DpE K H (.ref a) (.list ds)
  | tup {a : Addr} {xs : List V} {ds : List PyData} : SqT K H a xs → DpEs K H xs ds → DpE K H (.ref a) (.tuple ds)
  | emp {a : Addr} : H a = some (.dK []) → DpE K H (.ref a) (.dict [])
inductive DpEs (K : Frag) (H : Hp) : List V → List PyData → Prop
  | nil : DpEs K H [] []
  | cons {v : V} {vs : List V} {d : PyData} {ds : List PyData} : DpE K H v d → DpEs K H vs ds → DpEs K H (v :: vs) (d :: ds)
end
section
variable {X : Cx} {pins : List (Addr × Obj)} {σ : St} {H : Hp} {s : Shared}
mutual
theorem DpE.reads (I : Inv X pins σ H s) (hS : SmOk X.K) : ∀ (d : PyData) (v : V) (u : Value), DpE X.K H v d → RelV v u → ∃ as, Reads s.heap u d as ∧ sysModules ∉ as
  | .none, _, _, h, r => by
    cases h
    cases r
    exact ⟨_, Reads.none, by simp⟩
  | .bool b, _, _, h, r => by
    cases h
    cases r
    exact ⟨_, Reads.bool b, by simp⟩
  | .int i, _, _, h, r => by
    cases h
    obtain ⟨t, rfl⟩ := r
    exact ⟨_, Reads.int i t, by simp⟩
  | .str x, _, _, h, r => by
    cases h
    obtain ⟨t, rfl⟩ := r
    exact ⟨_, Reads.str x t, by simp⟩
  | .list ds, _, _, h, r => by
    cases h with
    | @lst a xs _ hs ha =>
      cases r
      obtain ⟨its, rv, ⟨o, n, ho, hc, _, hd⟩, _⟩ := I.list hs
      obtain ⟨as, hr, hm⟩ := DpE.readsAll I hS ds _ its ha rv
      refine ⟨_, Reads.list ho hc hd hr, fun z => ?_⟩
      rcases List.mem_cons.mp z with z | z
      · obtain ⟨o', e1, e2⟩ := hS
        have e3 := I.kIn _ _ e1
        rw [z, ho] at e3
        cases e3
        exact e2 hc
      · exact hm z
  | .tuple ds, _, _, h, r => by
    cases h with
    | tup hs ha =>
      cases r
      obtain ⟨its, rv, ⟨o, ho, hc, n, hd⟩, _⟩ := I.tuple hs
      obtain ⟨as, hr, hm⟩ := DpE.readsAll I hS ds _ its ha rv
      exact ⟨_, Reads.tuple ho hc hd hr, hm⟩
  | .dict _, _, _, h, r => by
    cases h with
    | @emp a e =>
      cases r
      obtain ⟨_, hsm, vs, kv, o, es, ep, ho, hx, hd, _, pr, _⟩ := dk_of I.hok e
      have ev : vs = [] := by cases kv; rfl
      subst ev
      have ee : es.toList = [] := by
        have := pr.length
        exact List.length_eq_zero_iff.mp this
      refine ⟨_, Reads.dict (kvs := []) ho hx.1 hd (as := []) (bs := []) (by rw [ee]; exact .nil) (by rw [ee]; exact .nil), fun z => ?_⟩
      simp only [List.append_nil, List.mem_singleton] at z
      rw [← z] at hsm
      simp at hsm
theorem DpE.readsAll (I : Inv X pins σ H s) (hS : SmOk X.K) : ∀ (ds : List PyData) (vs : List V) (us : List Value), DpEs X.K H vs ds → Vals vs us → ∃ as, ReadsAll s.heap us ds as ∧ sysModules ∉ as
  | [], _, _, h, r => by
    cases h
    cases r
    exact ⟨_, ReadsAll.nil, by simp⟩
  | d :: ds, _, _, h, r => by
    cases h with
    | cons h1 h2 =>
      cases r with
      | cons r1 r2 =>
        obtain ⟨as, q1, m1⟩ := DpE.reads I hS d _ _ h1 r1
        obtain ⟨bs, q2, m2⟩ := DpE.readsAll I hS ds _ _ h2 r2
        exact ⟨_, ReadsAll.cons q1 q2, fun z => (List.mem_append.mp z).elim m1 m2⟩
end
end
section
variable {X : Cx} {B : Bd} {pos p : Pos} {k : Nat} {wx : DW} {e : Expr} {tA : DTA}
def rReprE (K : Frag) : List V → Hp → VK → Prop := fun xs H Q => ∃ v d, xs = [v] ∧ DpE K H v d ∧ d.showable = true ∧ d.depth ≤ 64 ∧ d.shown.length ≤ sizeLine ∧ Q (.str d.shown) H
theorem cr_reprE (hgd : X.A.guards = some []) (hu : X.A.units + 66 < cLine) (hS : SmOk X.K) : CallR X (.builtin "repr") (rReprE X.K) := by
  intro pins s σ H xs us Q I r h
  obtain ⟨v, d, rfl, hd, hs, hdp, hz, q⟩ := h
  obtain ⟨u, rfl, ru⟩ := vals1 r
  cases v with
  | ref a =>
    cases ru
    obtain ⟨as, rd, hm⟩ := DpE.reads I hS d _ _ hd rfl
    exact repr_of_reads' rd hs (fun _ => hm) hgd (by omega) (fun _ _ e => e) (fun h' u tk hk => ⟨.str _, H, I.kept hk, ⟨_, rfl⟩, q⟩) hz
  | non => cases hd; cases ru; exact PySem.P.repr_of_none ⟨.str _, H, I.tok _, ⟨_, rfl⟩, by simpa [PyData.shown] using q⟩
  | bl b => cases hd; cases ru; exact PySem.P.repr_of_bool ⟨.str _, H, I.tok _, ⟨_, rfl⟩, by simpa [PyData.shown] using q⟩
  | int i => cases hd; obtain ⟨t, rfl⟩ := ru; exact PySem.P.repr_of_int (by simpa [PyData.showable] using hs) ⟨.str _, H, I.tok _, ⟨_, rfl⟩, by simpa [PyData.shown] using q⟩
  | str x => cases hd; obtain ⟨t, rfl⟩ := ru; exact PySem.P.repr_of_str ⟨.str _, H, I.tok _, ⟨_, rfl⟩, by simpa [PyData.shown] using q⟩
  | _ => cases hd
mutual
def asE (O : Ow) : D → Option PyData
  | .non => some .none
  | .bl b => some (.bool b)
  | .int i => some (.int i)
  | .str s => some (.str s)
  | .lst ds => (asEs O ds).map .list
  | .tup ds => (asEs O ds).map .tuple
  | .ref p => match O p with
    | some (.lst ds) => if pds ds = true then some (.list (pys ds)) else none
    | some (.dK []) => some (.dict [])
    | _ => none
  | .ty _ => none
  | .ins _ _ _ => none
def asEs (O : Ow) : List D → Option (List PyData)
  | [] => some []
  | d :: ds => match asE O d, asEs O ds with
    | some a, some b => some (a :: b)
    | _, _ => none
end
mutual
theorem dp_E {K : Frag} {H : Hp} : ∀ {v : V} {d : PyData}, Dp K H v d → DpE K H v d
  | _, _, .non => .non
  | _, _, .bl b => .bl b
  | _, _, .int i => .int i
  | _, _, .str s => .str s
  | _, _, .lst h r => .lst h (dps_E r)
  | _, _, .tup h r => .tup h (dps_E r)
theorem dps_E {K : Frag} {H : Hp} : ∀ {vs : List V} {ds : List PyData}, DpAll K H vs ds → DpEs K H vs ds
  | _, _, .nil => .nil
  | _, _, .cons h r => .cons (dp_E h) (dps_E r)
end
mutual
theorem asE_dp {K : Frag} {O : Ow} {H F : Hp} (fh : Same F H) (ow : OwOk K O H F) : ∀ {d : D} {v : V} {a : PyData}, RV K F d v → asE O d = some a → DpE K H v a
  | _, _, _, .non, h => by simp only [asE] at h; cases h; exact .non
  | _, _, _, .bl b, h => by simp only [asE] at h; cases h; exact .bl b
  | _, _, _, .int i, h => by simp only [asE] at h; cases h; exact .int i
  | _, _, _, .str s, h => by simp only [asE] at h; cases h; exact .str s
  | _, _, _, .lst hs hr, h => by
    simp only [asE] at h
    obtain ⟨as, e, rfl⟩ := Option.map_eq_some_iff.mp h
    exact .lst (fh.seq hs) (asEs_dp fh ow hr e)
  | _, _, _, .tup hs hr, h => by
    simp only [asE] at h
    obtain ⟨as, e, rfl⟩ := Option.map_eq_some_iff.mp h
    exact .tup (same_tup fh hs) (asEs_dp fh ow hr e)
  | _, _, _, .ref p, h => by
    simp only [asE] at h
    split at h
    · rename_i ds e
      split at h
      · rename_i e2
        cases h
        obtain ⟨_, ho, e1, vs, rfl, r⟩ := ow _ _ e
        exact .lst (SqL.of e1) (dps_E (r.dp fh e2))
      · cases h
    · rename_i e
      cases h
      obtain ⟨_, ho, e1, vs, rfl, r⟩ := ow _ _ e
      cases r
      exact .emp e1
    · cases h
  | _, _, _, .ty n, h => by simp only [asE] at h; cases h
  | _, _, _, .ins _ _ _, h => by simp only [asE] at h; cases h
theorem asEs_dp {K : Frag} {O : Ow} {H F : Hp} (fh : Same F H) (ow : OwOk K O H F) : ∀ {ds : List D} {vs : List V} {as : List PyData}, RVs K F ds vs → asEs O ds = some as → DpEs K H vs as
  | _, _, _, .nil, h => by simp only [asEs] at h; cases h; exact .nil
  | d :: ds, _, _, .cons r1 r2, h => by
    simp only [asEs] at h
    cases e1 : asE O d with
    | none => rw [e1] at h; cases h
    | some a =>
      cases e2 : asEs O ds with
      | none => rw [e1, e2] at h; cases h
      | some b =>
        rw [e1, e2] at h
        cases h
        exact .cons (asE_dp fh ow r1 e1) (asEs_dp fh ow r2 e2)
end
def dReprE : List D → Ow → DQ → Prop := fun ds O q => match ds with
  | [d] => ∃ a, asE O d = some a ∧ a.showable = true ∧ a.depth ≤ 64 ∧ a.shown.length ≤ sizeLine ∧ q (.str a.shown) O
  | _ => False
theorem sim_reprE : SimC B (rReprE B.K) dReprE := by
  intro env O σ H F vs ds q Q R r h k
  match ds, r, h with
  | [d], r, ⟨a, e, h1, h2, h3, h⟩ =>
    obtain ⟨v, rfl, r1⟩ := r.one
    exact ⟨v, a, rfl, asE_dp R.fh R.ow r1 e, h1, h2, h3, k _ _ O H F (.refl R) (.str _) h⟩
theorem so_reprE (S : Site X B k wx) (hS : SmOk X.K) (hg : Gl X "repr") (hm : X.mg "repr" = none) (ha : PA X [e] (liftA B tA)) (he : starEach [e] X.env = (false, eval e X.env) :: starEach [] X.env := by rfl) (hpl : (backTo pos (starEach [] X.env)).any (·.1) = false := by rfl) : PE X (.Call (.Name "repr" p) [e] [] pos) (lift B (dCB dReprE tA)) :=
  de_cb (by rw [S.hK]; exact sim_reprE) (pe_callB (cr_reprE S.gd S.u66 hS) hg hm bt_repr ha (by decide) (by decide) he hpl)
/-! ### plain: what is shown -/
mutual
theorem asE_pd {O : Ow} : ∀ {d : D}, pd d = true → asE O d = some (py d)
  | .non, _ => by simp [asE, py]
  | .bl b, _ => by simp [asE, py]
  | .int i, _ => by simp [asE, py]
  | .str s, _ => by simp [asE, py]
  | .lst ds, h => by
    have h : pds ds = true := by simpa [pd] using h
    simp [asE, py, asEs_pd h]
  | .tup ds, h => by
    have h : pds ds = true := by simpa [pd] using h
    simp [asE, py, asEs_pd h]
  | .ref _, h => by simp [pd] at h
  | .ty _, h => by simp [pd] at h
  | .ins _ _ _, h => by simp [pd] at h
theorem asEs_pd {O : Ow} : ∀ {ds : List D}, pds ds = true → asEs O ds = some (pys ds)
  | [], _ => by simp [asEs, pys]
  | d :: ds, h => by
    simp only [pds, Bool.and_eq_true] at h
    simp [asEs, pys, asE_pd h.1, asEs_pd h.2]
end
/-- what may be shown: its data -/
def shE (a : PyData) : Prop := a.showable = true ∧ a.depth ≤ 64 ∧ a.shown.length ≤ 1000000
theorem i_reprE {O : Ow} {q : DQ} {d : D} {a : PyData} (e : asE O d = some a) (h : shE a) (hq : q (.str a.shown) O) : dReprE [d] O q := ⟨a, e, h.1, h.2.1, by rw [sizeLine_eq]; have := h.2.2; omega, hq⟩
end
end DL

set_option Elab.async false
set_option linter.all false
set_option maxRecDepth 100000
set_option maxHeartbeats 4000000
/-! # DLW: several except clauses, each with a name or without -/
namespace L2
open PySem PySem.Spec PyProof.Rows
/-- the ends behind a clause whose name is the i-th slot -/
def endsM (i : Option Nat) (D : Ends) : Ends := match i with
  | none => D
  | some i => { nx := fun σ' H' => D.nx (σ'.set i none) H', rt := D.rt, bk := fun σ' H' => D.bk (σ'.set i none) H', ct := fun σ' H' => D.ct (σ'.set i none) H' }
def slotM (i : Option Nat) (a : Addr) (σ : St) : St := match i with
  | none => σ
  | some i => σ.set i (some (.ref a))
structure HdM where
  c : Value
  i : Option Nat
  ts : Addr → Value → Option Addr → TS
def wManyM (K : PySem.W.Frag) (Wout : WX) (D : Ends) : List HdM → WX
  | [] => Wout
  | z :: r => fun cls d σ H => ∃ b, PySem.W.exmOne K cls z.c = some b ∧ (b = true → ∀ a, H a = none → z.ts a cls d (endsM z.i D) (slotM z.i a σ) H) ∧ (b = false → wManyM K Wout D r cls d σ H)
inductive HdsM (X : Cx) : List ExceptHandler → List HdM → Prop
  | nil : HdsM X [] []
  | cons0 {x : Str} {c : Value} {ts : Addr → Value → Option Addr → TS} {b₀ : Stmt} {suite : List Stmt} {np pos' : Pos} {hds : List ExceptHandler} {l : List HdM} (hc : Names X x c)
      (hsu : ∀ (a : Addr) (oe : Obj) (cls : Value) (d : Option Addr) (pn : List (Addr × Obj)), Zc cls d oe → (∃ vs, oe.data = .fields vs) → PSs (X.suite a ((a, oe) :: pn)) (b₀ :: suite) (ts a cls d)) (r : HdsM X hds l) :
      HdsM X (.ExceptHandler (some (.Name x np)) none (b₀ :: suite) pos' :: hds) (⟨c, none, ts⟩ :: l)
  | consA {x n : Str} {i : Nat} {c : Value} {ts : Addr → Value → Option Addr → TS} {b₀ : Stmt} {suite : List Stmt} {np pos' : Pos} {hds : List ExceptHandler} {l : List HdM} (hc : Names X x c) (hi : X.N[i]? = some n) (hln : X.env.kindOf n = some .local)
      (hsu : ∀ (a : Addr) (oe : Obj) (cls : Value) (d : Option Addr) (pn : List (Addr × Obj)), Zc cls d oe → (∃ vs, oe.data = .fields vs) → PSs (X.suite a ((a, oe) :: pn)) (b₀ :: suite) (ts a cls d)) (r : HdsM X hds l) :
      HdsM X (.ExceptHandler (some (.Name x np)) (some n) (b₀ :: suite) pos' :: hds) (⟨c, some i, ts⟩ :: l)
section
variable {X : Cx} {body : List Stmt} {h₀ : ExceptHandler} {hds : List ExceptHandler} {l : List HdM} {pos : Pos} {tb : WX → TS} {Wout : WX}
theorem ps_try_M (hs : X.stack = X.env :: X.outer) (hf : X.env.frame = some X.env.locals) (hN : X.N.Nodup) (tk : Takes X Wout)
    (hb : ∀ (W : WX) (pn : List (Addr × Obj)) (xe : Value → Shared → Prop), Takes (X.tr pn xe) W → PassesOwn (model X.prog X.w) X.A X.env xe → PSs (X.tr pn xe) body (tb W))
    (hh : HdsM X (h₀ :: hds) l) : PS X (.Try body (h₀ :: hds) [] [] pos) (fun D σ H => tb (wManyM X.K Wout D l) D σ H) := by
  refine ⟨fun pins s σ H D I h => ?_⟩
  have ok := I.ok
  have hfr : X.A.frames = some (X.env :: X.outer) := by rw [ok.frames, hs]
  refine wpAny_Try_except ?_
  refine wpAny_mono ((hb (wManyM X.K Wout D l) (X.pn ++ pins) (fun e s₁ => wpAny (model X.prog X.w) X.A (noteFrame e X.env) (fun _ s₂ => wpAny (model X.prog X.w) X.A (setFlight e none) (fun _ s₃ =>
    wpAny (model X.prog X.w) X.A (handleBy e X.env (h₀ :: hds)) (SP X pins D) X.xe s₃) X.xe s₂) X.xe s₁) (fun u s' xx => ?_) PassesOwn.looking).run [] s σ H D (I.toTry _) h) (fun f s1 hsp => ?_) (fun e s1 he => he)
  · -- the catch
    obtain ⟨a, B, sI, pins', σ', H', cls, d, rfl, J', nb, up, sky, na, os, ag, w⟩ := xx
    have J : Inv X pins σ' H' sI := J'.ofTry ok
    have sky' : Sky B (X.env :: X.outer) a (Zc cls d) X.env.locals s'.heap := by rw [← hs]; exact sky
    show wpAny (model X.prog X.w) X.A (noteFrame (.ref a) X.env) _ _ _
    refine Sky.land Zc.steady hfr hf sky' fun h3 fl3 up3 => ?_
    have J3 : Inv X pins σ' H' { s' with heap := h3 } := J.landed nb fl3.1 (up.trans up3) os ag
    obtain ⟨oe3, vs3, he3, hz3, hd3⟩ := fl3.there
    have notFr : ∀ {h : Heap} {o : Obj} {vs : Array Value}, h.FunFrames B (X.env :: X.outer) → h.get? a = some o → o.data = .fields vs → a ∉ frs (X.env :: X.outer) := fun {h o vs} ff e dd hm => by
      obtain ⟨_, o', e', hnf⟩ := ff.mem hm
      rw [e] at e'; cases e'
      exact hnf _ dd
    have nfr := notFr fl3.2.2.1 he3 hd3
    have nL : a ≠ X.env.locals := fun z => nfr (List.mem_filterMap.mpr ⟨X.env, List.mem_cons_self, by rw [hf, z]⟩)
    have nF : a ∉ X.fs := fun hm => by
      obtain ⟨e, he, q⟩ := List.mem_filterMap.mp hm
      exact nfr (List.mem_filterMap.mpr ⟨e, List.mem_cons_of_mem _ he, q⟩)
    have S3 := J3.suite he3 hd3 na nL nF
    have test : ∀ {x : Str} {c : Value} {np : Pos} {Q : Value → Shared → Prop} {E : Value → Shared → Prop}, Names X x c → Q c { s' with heap := h3 } → wpAny (model X.prog X.w) (X.A.mark (some (.ref a))) (eval (.Name x np) X.env) Q E { s' with heap := h3 } := fun {x c np Q E} hc q => by
      obtain ⟨hg, hdbg, hm | ⟨hm, hv, hnn⟩⟩ := hc
      · exact ld_glob (X := X.suite a ((a, oe3) :: (X.pn ++ pins))) S3 hg hm q hdbg
      · exact ld_blt (X := X.suite a ((a, oe3) :: (X.pn ++ pins))) S3 hg hm hv q hnn hdbg
    have LT : PySem.W.Looks (model X.prog X.w) h3 (typeOf (.ref a)) cls := fun A Q E s k q => wpAny_typeOf_ref (k _ _ he3) (by rw [hz3.1]; exact q)
    have go : ∀ {hds' : List ExceptHandler} {l' : List HdM}, HdsM X hds' l' → wManyM X.K Wout D l' cls d σ' H' →
        wpAny (model X.prog X.w) X.A (handleBy (.ref a) X.env hds') (SP X pins D) X.xe { s' with heap := h3 } := by
      intro hds' l' hk
      induction hk with
      | nil =>
        intro w
        refine wpAny_handleBy_nil ?_
        obtain ⟨k1, k2, k3, oe, vs, T, oT, ts', he, hz, hd, h1, hr⟩ := id fl3
        unfold PySem.passOn
        refine wpAny_bind (wpAny_field he hd h1 ?_)
        rw [if_neg (show ¬ ((Value.ref T == Value.none) = true) from by simp)]
        have fin : wpAny (model X.prog X.w) X.A (setFlight (.ref a) X.env.frame) (fun _ s4 => wpAny (model X.prog X.w) X.A (throw (.ref a) : Sem Flow) (SP X pins D) X.xe s4) X.xe { s' with heap := h3 } := by
          rw [hf]
          refine HandSPX.setFlight_upZ fl3 fun h4 hh4 up4 => wpAny_throw (tk _ _ ?_)
          exact ⟨a, B, sI, pins, σ', H', cls, d, rfl, J, nb, (up.trans up3).trans up4, .inr (.inr (by rw [hs]; exact hh4)), na, os, ag, w⟩
        first
          | exact wpAny_bind (wpAny_pure (wpAny_bind fin))
          | exact wpAny_bind fin
      | @cons0 x c ts b₀ suite np pos' hds2 l2 hc hsu r ih =>
        intro w
        obtain ⟨b, hb1, hyes, hno⟩ := w
        refine wpAny_handleBy_cons (codeAny_handlers_test ?_) (by intro q; cases q)
        have LM := PySem.W.exm_one (M := model X.prog X.w) (J3.kIn) LT hb1
        refine test hc (LM.here ?_)
        cases b with
        | true =>
          refine codeAny_handlers_suite ?_
          refine HandSPX.lands_againZ fl3 fun h4 fl4 up4 => ?_
          have J4 : Inv X pins σ' H' { s' with heap := h4 } := J.landed nb fl4.1 ((up.trans up3).trans up4) os ag
          obtain ⟨oe4, vs4, he4, hz4, hd4⟩ := fl4.there
          have S4 := J4.suite he4 hd4 na nL nF
          refine wpAny_mono ((hsu a oe4 cls d (X.pn ++ pins) hz4 ⟨_, hd4⟩).run [] _ _ H' _ S4 (hyes rfl a na)) (fun f s6 hsp => ?_) (fun _ _ z => False.elim z)
          cases f with
          | next =>
            obtain ⟨σ6, H6, S6, q6⟩ := hsp
            exact ⟨_, _, S6.unsuite ok, q6⟩
          | brk =>
            obtain ⟨σ6, H6, S6, q6⟩ := hsp
            exact ⟨_, _, S6.unsuite ok, q6⟩
          | cont =>
            obtain ⟨σ6, H6, S6, q6⟩ := hsp
            exact ⟨_, _, S6.unsuite ok, q6⟩
          | ret u =>
            obtain ⟨v6, σ6, H6, S6, r6, q6⟩ := hsp
            exact ⟨_, _, _, S6.unsuite ok, r6, q6⟩
        | false =>
          show wpAny _ X.A (handleBy (.ref a) X.env hds2) _ _ _
          exact ih (hno rfl)
      | @consA x n i c ts b₀ suite np pos' hds2 l2 hc hi hln hsu r ih =>
        intro w
        obtain ⟨b, hb1, hyes, hno⟩ := w
        refine wpAny_handleBy_cons (codeAny_handlers_test ?_) (by intro q; cases q)
        have LM := PySem.W.exm_one (M := model X.prog X.w) (J3.kIn) LT hb1
        refine test hc (LM.here ?_)
        have hloc : Loc X.env.scope n := .inl hln
        cases b with
        | true =>
          refine codeAny_handlers_suite_as ?_
          refine HandSPX.lands_againZ fl3 fun h4 fl4 up4 => ?_
          have J4 : Inv X pins σ' H' { s' with heap := h4 } := J.landed nb fl4.1 ((up.trans up3).trans up4) os ag
          obtain ⟨oe4, vs4, he4, hz4, hd4⟩ := fl4.there
          have S4 := J4.suite he4 hd4 na nL nF
          refine store_ok (X := X.suite a ((a, oe4) :: (X.pn ++ pins))) (v := .ref a) S4 hN hi hloc rfl (fun s5 S5 => ?_) (.inr hln)
          refine wpAny_mono ((hsu a oe4 cls d (X.pn ++ pins) hz4 ⟨_, hd4⟩).run [] s5 _ H' _ S5 (hyes rfl a na)) (fun f s6 hsp => ?_) (fun _ _ z => False.elim z)
          have end_ : ∀ {σ6 : St} {H6 : Hp} {Q : Shared → Prop}, Inv (X.suite a ((a, oe4) :: (X.pn ++ pins))) [] σ6 H6 s6 → (∀ s7, Inv X pins (σ6.set i none) H6 s7 → Q s7) →
              wpAny (model X.prog X.w) X.A (do bindName X.env n .none; unbindBehindTheSuite X.env n pos') (fun _ s7 => Q s7) X.xe s6 := fun {σ6 H6 Q} S6 hq => gone_ok (S6.unsuite ok) hN hi hln hq
          cases f with
          | next =>
            obtain ⟨σ6, H6, S6, q6⟩ := hsp
            exact end_ S6 fun s7 J7 => ⟨_, _, J7, q6⟩
          | brk =>
            obtain ⟨σ6, H6, S6, q6⟩ := hsp
            exact end_ S6 fun s7 J7 => ⟨_, _, J7, q6⟩
          | cont =>
            obtain ⟨σ6, H6, S6, q6⟩ := hsp
            exact end_ S6 fun s7 J7 => ⟨_, _, J7, q6⟩
          | ret u =>
            obtain ⟨v6, σ6, H6, S6, r6, q6⟩ := hsp
            exact end_ S6 fun s7 J7 => ⟨_, _, _, J7, r6, q6⟩
        | false =>
          show wpAny _ X.A (handleBy (.ref a) X.env hds2) _ _ _
          exact ih (hno rfl)
    exact go hh w
  · cases f with
    | next =>
      obtain ⟨σ', H', J', q⟩ := hsp
      exact wpAny_execs_nil ⟨σ', H', J'.ofTry ok, q⟩
    | brk =>
      obtain ⟨σ', H', J', q⟩ := hsp
      exact ⟨σ', H', J'.ofTry ok, q⟩
    | cont =>
      obtain ⟨σ', H', J', q⟩ := hsp
      exact ⟨σ', H', J'.ofTry ok, q⟩
    | ret u =>
      obtain ⟨v, σ', H', J', r, q⟩ := hsp
      exact ⟨v, σ', H', J'.ofTry ok, r, q⟩
end
end L2
namespace DL
open PySem PySem.Spec PyProof.Rows L2
structure DHd where
  c : Value
  i : Option Nat
  ts : Addr → Value → List (Str × D) → DTS
def dEndsM (i : Option Nat) (E : DEnds) : DEnds := match i with
  | none => E
  | some i => { nx := fun e o => E.nx (e.set i none) o, rt := E.rt, bk := fun e o => E.bk (e.set i none) o, ct := fun e o => E.ct (e.set i none) o }
def dSlotM (i : Option Nat) (a : Addr) (env : Env) : Env := match i with
  | none => env
  | some i => env.set i (some (.ref a))
def dwM (K : Frag) (wx : DW) (E : DEnds) : List DHd → DW
  | [] => wx
  | z :: r => fun cls fs env' O' => ∃ b, PySem.W.exmOne K cls z.c = some b ∧ (b = true → ∀ a, O' a = none → z.ts a cls fs (dEndsM z.i E) (dSlotM z.i a env') O') ∧ (b = false → dwM K wx E r cls fs env' O')
def dTryM (K : Frag) (tb : DW → DTS) (l : List DHd) (wx : DW) : DTS := fun E env O => tb (dwM K wx E l) E env O
inductive HdsD (X : Cx) (K : Frag) : List ExceptHandler → List DHd → Prop
  | nil : HdsD X K [] []
  | cons0 {x : Str} {c : Value} {ts : Addr → Value → List (Str × D) → DTS} {b₀ : Stmt} {suite : List Stmt} {np pos' : Pos} {hds : List ExceptHandler} {l : List DHd} (hc : Names X x c)
      (hsu : ∀ (a : Addr) (oe : Obj) (cls : Value) (d : Option Addr) (pn : List (Addr × Obj)) (O1 : Ow) (H1 F1 : Hp) (fs : List (Str × D)), Zc cls d oe → (∃ vs, oe.data = .fields vs) → InSu ⟨K, O1, H1, F1⟩ d fs →
        PSs (X.suite a ((a, oe) :: pn)) (b₀ :: suite) (liftS ⟨K, O1, H1, F1⟩ (ts a cls fs))) (r : HdsD X K hds l) :
      HdsD X K (.ExceptHandler (some (.Name x np)) none (b₀ :: suite) pos' :: hds) (⟨c, none, ts⟩ :: l)
  | consA {x n : Str} {i : Nat} {c : Value} {ts : Addr → Value → List (Str × D) → DTS} {b₀ : Stmt} {suite : List Stmt} {np pos' : Pos} {hds : List ExceptHandler} {l : List DHd} (hc : Names X x c) (hi : X.N[i]? = some n) (hln : X.env.kindOf n = some .local)
      (hsu : ∀ (a : Addr) (oe : Obj) (cls : Value) (d : Option Addr) (pn : List (Addr × Obj)) (O1 : Ow) (H1 F1 : Hp) (fs : List (Str × D)), Zc cls d oe → (∃ vs, oe.data = .fields vs) → InSu ⟨K, O1, H1, F1⟩ d fs →
        PSs (X.suite a ((a, oe) :: pn)) (b₀ :: suite) (liftS ⟨K, O1, H1, F1⟩ (ts a cls fs))) (r : HdsD X K hds l) :
      HdsD X K (.ExceptHandler (some (.Name x np)) (some n) (b₀ :: suite) pos' :: hds) (⟨c, some i, ts⟩ :: l)
def hdLift (K : Frag) (z : DHd) : HdM := ⟨z.c, z.i, fun a cls d Dn σ H => ∃ (O1 : Ow) (H1 F1 : Hp) (fs : List (Str × D)), InSu ⟨K, O1, H1, F1⟩ d fs ∧ liftS ⟨K, O1, H1, F1⟩ (z.ts a cls fs) Dn σ H⟩
theorem HdsD.toM {X : Cx} {K : Frag} {hds : List ExceptHandler} {l : List DHd} (h : HdsD X K hds l) : HdsM X hds (l.map (hdLift K)) := by
  induction h with
  | nil => exact .nil
  | cons0 hc hsu r ih =>
    refine .cons0 hc (fun a oe cls d pn hz hv => ⟨fun pins s σ H E I h => ?_⟩) ih
    obtain ⟨O1, H1, F1, fs, hin, h⟩ := h
    exact (hsu a oe cls d pn O1 H1 F1 fs hz hv hin).run pins s σ H E I h
  | consA hc hi hln hsu r ih =>
    refine .consA hc hi hln (fun a oe cls d pn hz hv => ⟨fun pins s σ H E I h => ?_⟩) ih
    obtain ⟨O1, H1, F1, fs, hin, h⟩ := h
    exact (hsu a oe cls d pn O1 H1 F1 fs hz hv hin).run pins s σ H E I h
section
variable {X : Cx} {B : Bd} {k : Nat} {wx : DW} {body : List Stmt} {h₀ : ExceptHandler} {hds : List ExceptHandler} {l : List DHd} {pos : Pos} {tb : DW → DTS}
theorem ds_tryM (S : Site X B k wx) (hs : X.stack = X.env :: X.outer) (hf : X.env.frame = some X.env.locals) (hN : X.N.Nodup)
    (hb : ∀ (O1 : Ow) (H1 F1 : Hp) (w : DW) (pn : List (Addr × Obj)) (xe : Value → Shared → Prop), Site (X.tr pn xe) ⟨B.K, O1, H1, F1⟩ k w → PSs (X.tr pn xe) body (liftS ⟨B.K, O1, H1, F1⟩ (tb w)))
    (hh : HdsD X B.K (h₀ :: hds) l) : PS X (.Try body (h₀ :: hds) [] [] pos) (liftS B (dTryM X.K tb l wx)) := by
  refine PS.weak (ps_try_M (tb := fun W D σ H => ∃ (O1 : Ow) (H1 F1 : Hp) (w : DW), (∀ c d σ H, liftX ⟨B.K, O1, H1, F1⟩ w c d σ H → W c d σ H) ∧ liftS ⟨B.K, O1, H1, F1⟩ (tb w) D σ H) hs hf hN S.tk ?_ hh.toM) fun D σ H h => ?_
  · intro W pn xe tk po
    refine ⟨fun pins s σ H E I h => ?_⟩
    obtain ⟨O1, H1, F1, w, hw, h⟩ := h
    exact (hb O1 H1 F1 w pn xe (S.tr (Takes.imp tk hw) po)).run pins s σ H E I h
  · obtain ⟨env, O, F, d, R, h, m⟩ := h
    refine ⟨O, H, F, _, ?_, env, O, F, d, ⟨.rfl' R.fh R.ow, R.sl⟩, h, ⟨m.nx, m.rt, m.bk, m.ct⟩⟩
    rintro cls dd σ' H' ⟨env', O', F', fs, R', xr, hw⟩
    have ow' := R'.ow
    have af := R'.af
    have go : ∀ l : List DHd, dwM X.K wx d l cls fs env' O' → wManyM X.K (liftX B wx) D (l.map (hdLift B.K)) cls dd σ' H' := by
      intro l
      induction l with
      | nil => exact fun hw => ⟨env', O', F', fs, ⟨R.af.trans R'.af, R'.sl⟩, xr, hw⟩
      | cons z l ih =>
        rintro ⟨b, hb1, hyes, hno⟩
        refine ⟨b, hb1, fun hbt a ha => ?_, fun hbf => ih (hno hbf)⟩
        obtain ⟨c, i, ts⟩ := z
        cases i with
        | none =>
          exact ⟨O', H', F', fs, ⟨xr, ow'⟩, env', O', F', d, ⟨.rfl' R'.fh R'.ow, R'.sl⟩, hyes hbt a (R'.free ha).1,
            ⟨fun e o σ'' h f a' sl z => m.nx _ o _ h f (af.trans a') sl z, fun x v o h f a' r z => m.rt x v o h f (af.trans a') r z, fun e o σ'' h f a' sl z => m.bk _ o _ h f (af.trans a') sl z, fun e o σ'' h f a' sl z => m.ct _ o _ h f (af.trans a') sl z⟩⟩
        | some i =>
          exact ⟨O', H', F', fs, ⟨xr, ow'⟩, env'.set i (some (.ref a)), O', F', _, ⟨.rfl' R'.fh R'.ow, R'.sl.setv (.ref a)⟩, hyes hbt a (R'.free ha).1,
            ⟨fun e o σ'' h f a' sl z => m.nx _ o _ h f (af.trans a') sl.setn z, fun x v o h f a' r z => m.rt x v o h f (af.trans a') r z, fun e o σ'' h f a' sl z => m.bk _ o _ h f (af.trans a') sl.setn z, fun e o σ'' h f a' sl z => m.ct _ o _ h f (af.trans a') sl.setn z⟩⟩
    exact go l hw
theorem i_tryM {K : Frag} {E : DEnds} {env : Env} {O : Ow} (h : tb (dwM K wx E l) E env O) : dTryM K tb l wx E env O := h
end
end DL
namespace DL
open PySem PySem.Spec PyProof.Rows L2
/-! ### what the text must have for isinstance of a caught exception -/
def excCB (x : Str) : Fac := fun K => He.eqO (PySem.W.findIn K (.ref (He.ga K x)) "__getattribute__") (some (some (.builtin "BaseException.__getattribute__"))) && (He.eqO (PySem.W.findIn K (.ref (He.ga K x)) "__getattr__") (some none) &&
  (decide (PySem.W.subIn K (.ref (He.ga K x)) (.type "BaseException") = some true) && (PySem.W.hasDictIn K (He.ga K x) && (He.eqO (PySem.W.findIn K (.ref (He.ga K x)) "__class__") (some (some (.builtin "object.__class__"))) &&
  (He.eqO (PySem.W.specialIn K (.builtin "object.__class__") "__get__") (some (some (.builtin "getset_descriptor.__get__"))) && (decide (PySem.W.takesIn K (.builtin "object.__class__") = some true) && decide (PySem.W.mroIn K (He.ga K x) (.type "object") = some true)))))))
theorem excCB_ok {K : Frag} {x : Str} (h : excCB x K = true) : ExcC K (He.ga K x) := by
  unfold excCB at h
  simp only [Bool.and_eq_true, decide_eq_true_eq] at h
  obtain ⟨h1, h2, h3, h4, h5, h6, h7, h8⟩ := h
  exact ⟨He.eqO_ok h1, He.eqO_ok h2, h3, h4, He.eqO_ok h5, He.eqO_ok h6, h7, h8⟩
def xkitB (x : Str) (n : String) (b : Bool) : Fac := fun K => decide (PySem.W.kitOne K (.ref (He.ga K x)) (.type n) = some b)
theorem xkitB_ok {K : Frag} {x : Str} {n : String} {b : Bool} (h : xkitB x n b K = true) : PySem.W.kitOne K (.ref (He.ga K x)) (.type n) = some b := of_decide_eq_true h
end DL

set_option Elab.async false
set_option linter.all false
set_option maxRecDepth 100000
set_option maxHeartbeats 4000000
/-! # DLX: a + b as an own list; what is shown when more is owned -/
namespace DL
open PySem PySem.Spec PyProof.Rows L2
section
variable {X : Cx} {B : Bd} {pos p : Pos} {k : Nat} {wx : DW} {a b : Expr} {ta tb : DTE}
def dAddO : DR2 := fun x y O q => ∃ a b, asL O x = some a ∧ asL O y = some b ∧ a.length + b.length ≤ sizeLine ∧ ∀ r, O r = none → q (.ref r) (setO O r (.lst (a ++ b)))
theorem sim_addO {K : Frag} (hK : K = B.K) : Sim2 B (rCatL K) dAddO := by
  intro env O σ H F x y dx dy q Q R rx ry h kk
  obtain ⟨a, b, e1, e2, hz, h⟩ := h
  obtain ⟨p, xs, rfl, s1, r1⟩ := asL_sq R.fh R.ow rx e1
  obtain ⟨p', ys, rfl, s2, r2⟩ := asL_sq R.fh R.ow ry e2
  exact ⟨p, p', xs, ys, rfl, rfl, by rw [hK]; exact s1, by rw [hK]; exact s2, by rw [← r1.length, ← r2.length]; exact hz, fun l hl => kk _ _ _ _ F (R.own hl (u := .lst _) ⟨_, rfl, r1.append r2⟩) (.ref l) (h l (R.free hl).1)⟩
theorem so_addO (S : Site X B k wx) (ha : PE X a (lift B ta)) (hb : PE X b (lift B tb)) : PE X (.BinOp a .Add b pos) (lift B (dOp dAddO ta tb)) := de_op op_catL (sim_addO S.hK) ha hb
theorem i_addO {O : Ow} {q : DQ} {x y : D} {as bs : List D} (e1 : asL O x = some as) (e2 : asL O y = some bs) (hl : as.length + bs.length ≤ 100000) (h : ∀ r, O r = none → q (.ref r) (setO O r (.lst (as ++ bs)))) : dAddO x y O q := ⟨as, bs, e1, e2, line_ok hl, h⟩
end
mutual
theorem asE_mono {O O' : Ow} (s : SubO O O') : ∀ {d : D} {a : PyData}, asE O d = some a → asE O' d = some a
  | .non, _, h => by simpa [asE] using h
  | .bl _, _, h => by simpa [asE] using h
  | .int _, _, h => by simpa [asE] using h
  | .str _, _, h => by simpa [asE] using h
  | .lst ds, _, h => by
    simp only [asE] at h ⊢
    obtain ⟨as, e, rfl⟩ := Option.map_eq_some_iff.mp h
    rw [asEs_mono s e]; rfl
  | .tup ds, _, h => by
    simp only [asE] at h ⊢
    obtain ⟨as, e, rfl⟩ := Option.map_eq_some_iff.mp h
    rw [asEs_mono s e]; rfl
  | .ref p, _, h => by
    simp only [asE] at h ⊢
    cases e : O p with
    | none => rw [e] at h; cases h
    | some o => rw [e] at h; rw [s p o e]; exact h
  | .ty _, _, h => by simp [asE] at h
  | .ins _ _ _, _, h => by simp [asE] at h
theorem asEs_mono {O O' : Ow} (s : SubO O O') : ∀ {ds : List D} {as : List PyData}, asEs O ds = some as → asEs O' ds = some as
  | [], _, h => by simpa [asEs] using h
  | d :: ds, as, h => by
    simp only [asEs] at h ⊢
    cases e1 : asE O d with
    | none => rw [e1] at h; cases h
    | some a =>
      cases e2 : asEs O ds with
      | none => rw [e1, e2] at h; cases h
      | some b =>
        rw [e1, e2] at h
        rw [asE_mono s e1, asEs_mono s e2]
        exact h
end
theorem tyN_mono {O O' : Ow} (s : SubO O O') {d : D} {a : String} (h : tyN O d = some a) : tyN O' d = some a := by
  cases d <;> simp only [tyN] at h ⊢ <;> try exact h
  rename_i p
  cases e : O p with
  | none => rw [e] at h; cases h
  | some o => rw [e] at h; rw [s p o e]; exact h
end DL

set_option Elab.async false
set_option linter.all false
set_option maxRecDepth 100000
set_option maxHeartbeats 4000000
/-! # DLY: how much is shown of a list or a tuple -/
namespace DL
open PySem PySem.Spec PyProof.Rows L2
open TL (tl tl_append tl_join joinL tl_mk)
/-- what can be shown with few and common signs -/
structure ShP (a : PyData) (m k : Nat) : Prop where
  sh : a.showable = true
  dp : a.depth ≤ k
  ln : (tl a.shown).length ≤ m
  sg : ∀ x ∈ tl a.shown, x < 128
def shP (a : PyData) (m k : Nat) : Bool := a.showable && decide (a.depth ≤ k) && decide ((tl a.shown).length ≤ m) && (tl a.shown).all fun x => decide (x < 128)
theorem shP_ok {a : PyData} {m k : Nat} (h : shP a m k = true) : ShP a m k := by
  simp only [shP, Bool.and_eq_true, decide_eq_true_eq, List.all_eq_true] at h
  exact ⟨h.1.1.1, h.1.1.2, h.1.2, h.2⟩
theorem ShP.mono {a : PyData} {m k m' k' : Nat} (h : ShP a m k) (hm : m ≤ m') (hk : k ≤ k') : ShP a m' k' := ⟨h.sh, Nat.le_trans h.dp hk, Nat.le_trans h.ln hm, h.sg⟩
theorem ShP.shE {a : PyData} {m k : Nat} (h : ShP a m k) (hm : m ≤ 1000000) (hk : k ≤ 64) : shE a := ⟨h.sh, Nat.le_trans h.dp hk, by rw [tl_len]; exact Nat.le_trans h.ln hm⟩
theorem ShP.good {a : PyData} {m k : Nat} (h : ShP a m k) : strGood a.shown = true := by
  simp only [strGood, PyData.canLay0, PyData.strOk, Array.all_eq_true_iff_forall_mem, decide_eq_true_eq]
  intro x hx
  have := h.sg x (by simpa [tl] using hx)
  omega
theorem Shows.shP {d : D} {m k : Nat} (h : Shows d m) (hk : (py d).depth ≤ k) : ShP (py d) m k := ⟨h.sh, hk, h.ln, h.sg⟩
theorem depthAll_le {k : Nat} : ∀ {as : List PyData}, (∀ a ∈ as, a.depth ≤ k) → PyData.depthAll as ≤ k
  | [], _ => by simp [PyData.depthAll]
  | a :: as, h => by
    simp only [PyData.depthAll]
    have h1 := h a List.mem_cons_self
    have h2 := depthAll_le (as := as) fun b hb => h b (List.mem_cons_of_mem _ hb)
    omega
theorem shownAll_map : ∀ as : List PyData, PyData.shownAll as = as.map PyData.shown
  | [] => by simp only [PyData.shownAll, List.map_nil]
  | a :: as => by simp only [PyData.shownAll, List.map_cons, shownAll_map as]
section
variable {as : List PyData} {m k : Nat}
theorem seq_ln (h : ∀ a ∈ as, ShP a m k) : (joinL [44, 32] (as.map fun a => tl a.shown)).length ≤ as.length * (m + 2) := by
  have := joinL_len (S := [44, 32]) (ps := as.map fun a => tl a.shown) (m := m) fun p hp => by
    obtain ⟨a, ha, rfl⟩ := List.mem_map.mp hp
    exact (h a ha).ln
  rw [List.length_map] at this
  exact this
theorem seq_sg (h : ∀ a ∈ as, ShP a m k) : ∀ x ∈ joinL [44, 32] (as.map fun a => tl a.shown), x < 128 := fun x hx => by
  rcases joinL_mem hx with h2 | ⟨p, hp, h2⟩
  · simp only [List.mem_cons, List.mem_nil_iff, or_false] at h2
    rcases h2 with rfl | rfl <;> decide
  · obtain ⟨a, ha, rfl⟩ := List.mem_map.mp hp
    exact (h a ha).sg x h2
theorem tl_shownAll : (PyData.shownAll as).map tl = as.map fun a => tl a.shown := by rw [shownAll_map, List.map_map]; rfl
theorem ShP.list (h : ∀ a ∈ as, ShP a m k) : ShP (.list as) (as.length * (m + 2) + 2) (k + 1) := by
  have e : tl (PyData.list as).shown = 91 :: (joinL [44, 32] (as.map fun a => tl a.shown) ++ [93]) := by
    rw [PyData.shown_list, tl_append, tl_append, tl_join, tl_shownAll]
    rfl
  refine ⟨by rw [PyData.showable]; exact showableAll_of fun a ha => (h a ha).sh, by simp only [PyData.depth]; have := depthAll_le fun a ha => (h a ha).dp; omega, ?_, fun x hx => ?_⟩
  · rw [e]
    have := seq_ln h
    simp only [List.length_cons, List.length_append, List.length_nil]
    omega
  · rw [e] at hx
    simp only [List.mem_cons, List.mem_append, List.mem_nil_iff, or_false] at hx
    rcases hx with rfl | hx | rfl
    · decide
    · exact seq_sg h x hx
    · decide
theorem ShP.tuple (h : ∀ a ∈ as, ShP a m k) : ShP (.tuple as) (as.length * (m + 2) + 3) (k + 1) := by
  have e : tl (PyData.tuple as).shown = 40 :: (joinL [44, 32] (as.map fun a => tl a.shown) ++ if as.length == 1 then [44, 41] else [41]) := by
    rw [PyData.shown_tuple, tl_append, tl_append, tl_join, tl_shownAll]
    cases as.length == 1 <;> rfl
  refine ⟨by rw [PyData.showable]; exact showableAll_of fun a ha => (h a ha).sh, by simp only [PyData.depth]; have := depthAll_le fun a ha => (h a ha).dp; omega, ?_, fun x hx => ?_⟩
  · rw [e]
    have := seq_ln h
    simp only [List.length_cons, List.length_append]
    have h2 : (if (as.length == 1) = true then ([44, 41] : List Nat) else [41]).length ≤ 2 := by split <;> simp
    omega
  · rw [e] at hx
    simp only [List.mem_cons, List.mem_append] at hx
    rcases hx with rfl | hx | hx
    · decide
    · exact seq_sg h x hx
    · split at hx <;> simp only [List.mem_cons, List.mem_nil_iff, or_false] at hx
      · rcases hx with rfl | rfl <;> decide
      · subst hx; decide
end
/-- data of any kind that can be shown -/
def OkE (O : Ow) (d : D) (m k : Nat) : Prop := ∃ a, asE O d = some a ∧ ShP a m k
theorem OkE.sub {O O' : Ow} {d : D} {m k : Nat} (h : OkE O d m k) (s : SubO O O') : OkE O' d m k := let ⟨a, e, r⟩ := h; ⟨a, asE_mono s e, r⟩
theorem OkE.mono {O : Ow} {d : D} {m k m' k' : Nat} (h : OkE O d m k) (hm : m ≤ m') (hk : k ≤ k') : OkE O d m' k' := let ⟨a, e, r⟩ := h; ⟨a, e, r.mono hm hk⟩
theorem OkE.ofPd {O : Ow} {d : D} {m k : Nat} (hd : pd d = true) (h : shP (py d) m k = true) : OkE O d m k := ⟨_, asE_pd hd, shP_ok h⟩
theorem OkE.all {O : Ow} {m k : Nat} : ∀ {ds : List D}, (∀ d ∈ ds, OkE O d m k) → ∃ as, asEs O ds = some as ∧ as.length = ds.length ∧ ∀ a ∈ as, ShP a m k
  | [], _ => ⟨[], by simp [asEs], rfl, by simp⟩
  | d :: ds, h => by
    obtain ⟨a, e1, r1⟩ := h d List.mem_cons_self
    obtain ⟨as, e2, l2, r2⟩ := OkE.all (ds := ds) fun x hx => h x (List.mem_cons_of_mem _ hx)
    refine ⟨a :: as, by simp [asEs, e1, e2], by simp [l2], fun x hx => ?_⟩
    rcases List.mem_cons.mp hx with rfl | hx
    · exact r1
    · exact r2 x hx
theorem OkE.lst {O : Ow} {ds : List D} {m k : Nat} (h : ∀ d ∈ ds, OkE O d m k) : OkE O (.lst ds) (ds.length * (m + 2) + 2) (k + 1) := by
  obtain ⟨as, e, l, r⟩ := OkE.all h
  exact ⟨.list as, by simp [asE, e], by rw [← l]; exact ShP.list r⟩
theorem OkE.tup {O : Ow} {ds : List D} {m k : Nat} (h : ∀ d ∈ ds, OkE O d m k) : OkE O (.tup ds) (ds.length * (m + 2) + 3) (k + 1) := by
  obtain ⟨as, e, l, r⟩ := OkE.all h
  exact ⟨.tuple as, by simp [asE, e], by rw [← l]; exact ShP.tuple r⟩
theorem i_reprOk {O : Ow} {q : DQ} {d : D} {m k : Nat} (h : OkE O d m k) (hm : m ≤ 1000000) (hk : k ≤ 64) (hq : ∀ s, strGood s = true → (∀ a, asE O d = some a → a.shown = s) → q (.str s) O) : dReprE [d] O q := by
  obtain ⟨a, e, r⟩ := h
  exact i_reprE e (r.shE hm hk) (hq _ r.good fun b eb => by rw [e] at eb; cases eb; rfl)
end DL
namespace DL
open PySem PySem.Spec PyProof.Rows L2
/-- a test by truth where no site stands (an except suite) -/
theorem st_truK {X : Cx} {B : Bd} {a : Expr} {ta : DTE} (hK : X.K = B.K) (ha : PE X a (lift B ta)) (he : ∀ whole, isTrue a X.env whole = (do let v ← whole; standAt a.pos; holding [v] (truthy v)) := by intro _; rfl) : PT X a (liftT B (dTru ta)) := PT.weak (pt_truth ha he) fun σ H Q h => by
  obtain ⟨env, O, F, q, R, h, kk⟩ := h
  refine ⟨env, O, F, _, R, h, fun d v O1 H1 F1 a1 r1 h1 => ?_⟩
  obtain ⟨b, e, h1⟩ := h1
  exact ⟨b, by rw [hK]; exact tru_v a1.fh a1.ow r1 e, kk b O1 H1 F1 a1 h1⟩
end DL

set_option Elab.async false
set_option linter.all false
set_option maxRecDepth 100000
set_option maxHeartbeats 4000000
/-! # DLZ: methods of own instances; dicts of one's own -/
namespace DL
open PySem PySem.Spec PyProof.Rows L2
/-! ### o.m(..) -/
section
variable {X : Cx} {B : Bd} {pos p apos : Pos} {k j n : Nat} {wx : DW} {o e : Expr} {es : List Expr} {x qn m : Str} {st : Stmt} {kws : List (Str × V)} {ps : List Str} {fn : DF} {f C : Addr} {ta : DTE} {tA tB : DTA} {pl : Sem Bool}
theorem lookup_none {K : Frag} {F : Hp} {f : Str} : ∀ {fs : List (Str × D)} {gs : List (Str × V)}, RKV K F fs gs → fs.lookup f = none → gs.lookup f = none
  | _, _, .nil, _ => rfl
  | _, _, .cons (a := a) (b := b) h t, e => by
    obtain ⟨a1, a2⟩ := a
    obtain ⟨b1, b2⟩ := b
    obtain ⟨h1, _⟩ := h
    simp only at h1
    subst h1
    rw [List.lookup_cons] at e ⊢
    split at e
    · cases e
    · exact lookup_none t e
def methK (C : Addr) (m : Str) (fn : DF) (n : Nat) (w : DW) (tA : DTA) (env : Env) (q : DQ) : DQ := fun d O1 => ∃ fs, InsAt C O1 d fs ∧ fs.lookup m = none ∧ tA env O1 fun ds O2 => ds.length + 1 = n ∧ fn (d :: ds) O2 q fun c fs O' => w c fs env O'
def dMeth (C : Addr) (m : Str) (fn : DF) (n : Nat) (w : DW) (ta : DTE) (tA : DTA) : DTE := fun env O q => ta env O (methK C m fn n w tA env q)
theorem so_meth (S : Site X B k wx) (c : Cls X.K C) (hm : Meth X.K C m f) (Cl : Fn X.prog X.w X.K X.mg X.base x qn st [] kws ps n j fn f) (hj : j ≤ k) (hb : Bd0 x qn st ps) (he : PE X o (lift B ta)) (ha : PA X (e :: es) (liftA B tA))
    (hst : starEach (e :: es) X.env = (false, eval e X.env) :: starEach es X.env := by rfl) (hpl : (backTo pos (starEach es X.env)).any (·.1) = false := by rfl)
    (ht : eval (.Call (.Attribute o m apos) (e :: es) [] pos) X.env = (do
      let ov ← eval o X.env
      standAt apos.atName
      let (f, first) ← holding [ov] (getMethod ov m pl)
      callWith pos f first (backTo pos (starEach (e :: es) X.env)) (backToKw pos (keywordEach [] X.env))) := by rfl) :
    PE X (.Call (.Attribute o m apos) (e :: es) [] pos) (lift B (dMeth C m fn n wx ta tA)) := by
  obtain ⟨fd, G, F⟩ := Cl.ex
  refine ⟨fun pins s σ H Q I h => ?_⟩
  obtain ⟨env, O, F0, q, R, h, kk⟩ := h
  refine PySem.W.methodCall_KW (pl := pl) (thn (he.run pins s σ H (fun v H1 => ∃ a dx gs, v = .ref a ∧ H1 a = some (.ins C dx gs) ∧ gs.lookup m = none ∧ liftA B tA σ H1 (fun vs H2 => spD B.K n fn (.ref a :: vs) H2 Q (fun c d H' => liftX B wx c d σ H'))) I ⟨env, O, F0, _, R, h, ?_⟩) fun u s1 ⟨x, H1, I1, rx, a, dx, gs, ex, ea, l, q1⟩ => ?_) ht
  · intro d v O1 H1 F1 a1 r1 ⟨fs, h1, h2, h3⟩
    obtain ⟨a, dx, gs, rfl, e3, rk⟩ := h1.ok a1.fh a1.ow r1
    refine ⟨a, dx, gs, rfl, e3, lookup_none rk h2, env, O1, F1, _, R.call a1, h3, fun ds vs O2 H2 F2 a2 r2 h4 => ?_⟩
    exact sp_of ((R.call a1).call a2) (.cons (r1.mono a2.ff) r2) h4.1 h4.2 fun d v O' H' F' a' r' hq => kk d v O' H' F' (a1.trans (a2.trans a')) r' hq
  subst ex
  obtain rfl : u = Value.ref a := rx
  refine getmeth_ok I1 ea c hm l ?_
  refine PySem.W.callWith_K (first := [.ref a]) (h₀ := X.base) I.ok.mod.kin hm.kp (thn (ha.run pos pins s1 σ H1 _ I1 q1) fun us s2 ⟨vs, H2, I2, r, q2⟩ => ⟨I2.kIn, ?_⟩) hst hpl
  exact run_G (us := .ref a :: us) (vs := .ref a :: vs) (dvs := []) (ds := []) G S.gd (S.rm.mono hj) (FunD.b0 F hb) .nil S.tk I2 (.cons rfl r) (by rw [List.append_nil]; exact S.hK ▸ q2)
theorem so_meth0 (S : Site X B k wx) (c : Cls X.K C) (hm : Meth X.K C m f) (Cl : Fn X.prog X.w X.K X.mg X.base x qn st [] kws ps n j fn f) (hj : j ≤ k) (hb : Bd0 x qn st ps) (he : PE X o (lift B ta))
    (ht : eval (.Call (.Attribute o m apos) [] [] pos) X.env = (do
      let ov ← eval o X.env
      standAt apos.atName
      let (f, first) ← holding [ov] (getMethod ov m pl)
      callWith pos f first (backTo pos (starEach [] X.env)) (backToKw pos (keywordEach [] X.env))) := by rfl) :
    PE X (.Call (.Attribute o m apos) [] [] pos) (lift B (dMeth C m fn n wx ta dNil)) := by
  obtain ⟨fd, G, F⟩ := Cl.ex
  refine ⟨fun pins s σ H Q I h => ?_⟩
  obtain ⟨env, O, F0, q, R, h, kk⟩ := h
  refine PySem.W.methodCall_KW (pl := pl) (thn (he.run pins s σ H (fun v H1 => ∃ a dx gs, v = .ref a ∧ H1 a = some (.ins C dx gs) ∧ gs.lookup m = none ∧ spD B.K n fn [.ref a] H1 Q (fun c d H' => liftX B wx c d σ H')) I ⟨env, O, F0, _, R, h, ?_⟩) fun u s1 ⟨x, H1, I1, rx, a, dx, gs, ex, ea, l, q1⟩ => ?_) ht
  · intro d v O1 H1 F1 a1 r1 ⟨fs, h1, h2, h3⟩
    obtain ⟨a, dx, gs, rfl, e3, rk⟩ := h1.ok a1.fh a1.ow r1
    refine ⟨a, dx, gs, rfl, e3, lookup_none rk h2, ?_⟩
    exact sp_of (R.call a1) (.cons r1 .nil) h3.1 h3.2 fun d v O' H' F' a' r' hq => kk d v O' H' F' (a1.trans a') r' hq
  subst ex
  obtain rfl : u = Value.ref a := rx
  refine getmeth_ok I1 ea c hm l ?_
  exact PySem.W.callWith_K0 (first := [.ref a]) I1.kIn hm.kp (run_G (us := [.ref a]) (vs := [.ref a]) (dvs := []) (ds := []) G S.gd (S.rm.mono hj) (FunD.b0 F hb) .nil S.tk I1 (.cons rfl .nil) (by rw [List.append_nil]; exact S.hK ▸ q1))
theorem i_meth {w : DW} {env : Env} {O : Ow} {q : DQ} (h : ta env O (methK C m fn n w tA env q)) : dMeth C m fn n w ta tA env O q := h
theorem i_methK {w : DW} {env : Env} {O : Ow} {q : DQ} {d : D} {fs : List (Str × D)} (h1 : InsAt C O d fs) (h2 : fs.lookup m = none) (h : tA env O fun ds O2 => ds.length + 1 = n ∧ fn (d :: ds) O2 q fun c fs O' => w c fs env O') : methK C m fn n w tA env q d O := ⟨fs, h1, h2, h⟩
theorem i_methO {w : DW} {env : Env} {O : Ow} {q : DQ} {p dx : Addr} {fs : List (Str × D)} (h1 : O p = some (.ins C dx fs)) (h2 : fs.lookup m = none) (h : tA env O fun ds O2 => ds.length + 1 = n ∧ fn (.ref p :: ds) O2 q fun c fs O' => w c fs env O') : methK C m fn n w tA env q (.ref p) O := ⟨fs, ⟨dx, h1⟩, h2, h⟩
theorem i_methI {w : DW} {env : Env} {O : Ow} {q : DQ} {ns : List Str} {zs : List D} (h2 : (ns.zip zs).lookup m = none) (h : tA env O fun ds O2 => ds.length + 1 = n ∧ fn (.ins C ns zs :: ds) O2 q fun c fs O' => w c fs env O') : methK C m fn n w tA env q (.ins C ns zs) O := ⟨_, ⟨rfl, rfl⟩, h2, h⟩
end
/-! ### keys -/
def keyD : D → Option Key
  | .int i => some (.inl i)
  | .str x => some (.inr x)
  | _ => none
def valD {κ : Type} [DecidableEq κ] (kvs : List (κ × D)) (k : κ) : Option D := (kvs.find? fun kv => decide (kv.1 = k)).map (·.2)
def putKD {κ : Type} [DecidableEq κ] (kvs : List (κ × D)) (k : κ) (v : D) : List (κ × D) := if kvs.any (fun kv => decide (kv.1 = k)) then kvs.map fun kv => if kv.1 = k then (kv.1, v) else kv else kvs ++ [(k, v)]
theorem keyD_v {K : Frag} {F : Hp} {d : D} {v : V} {k : Key} (r : RV K F d v) (h : keyD d = some k) : v = kV k := by
  cases d <;> simp only [keyD] at h <;> try cases h
  · cases r; rfl
  · cases r; rfl
section
variable {K : Frag} {F : Hp} {κ : Type} [DecidableEq κ]
theorem RKV.val : ∀ {kvs : List (κ × D)} {ks : List (κ × V)}, RKV K F kvs ks → ∀ (k : κ) {d : D}, valD kvs k = some d → ∃ v, valV ks k = some v ∧ RV K F d v
  | _, _, .nil, k, d, h => by simp [valD] at h
  | _, _, .cons (a := a) (b := b) h t, k, d, e => by
    by_cases hk : a.1 = k
    · rw [valV_pos (h.1 ▸ hk)]
      simp only [valD, List.find?_cons, decide_eq_true hk, Option.map_some, Option.some.injEq] at e
      subst e
      exact ⟨_, rfl, h.2⟩
    · rw [valV_neg (fun z => hk (h.1.trans z))]
      exact RKV.val t k (by simpa only [valD, List.find?_cons, decide_eq_false hk] using e)
theorem RKV.valN : ∀ {kvs : List (κ × D)} {ks : List (κ × V)}, RKV K F kvs ks → ∀ (k : κ), valD kvs k = none → valV ks k = none
  | _, _, .nil, k, _ => rfl
  | _, _, .cons (a := a) (b := b) h t, k, e => by
    by_cases hk : a.1 = k
    · simp only [valD, List.find?_cons, decide_eq_true hk] at e
      cases e
    · rw [valV_neg (fun z => hk (h.1.trans z))]
      exact RKV.valN t k (by simpa only [valD, List.find?_cons, decide_eq_false hk] using e)
theorem RKV.valS {kvs : List (κ × D)} {ks : List (κ × V)} (r : RKV K F kvs ks) (k : κ) : (valV ks k).isSome = (valD kvs k).isSome := by
  cases e : valD kvs k with
  | none => rw [r.valN k e]; rfl
  | some d => obtain ⟨v, e1, _⟩ := r.val k e; rw [e1]; rfl
theorem RKV.klen {kvs : List (κ × D)} {ks : List (κ × V)} (r : RKV K F kvs ks) : kvs.length = ks.length := Paired.length r
theorem RKV.anyk (k : κ) : ∀ {kvs : List (κ × D)} {ks : List (κ × V)}, RKV K F kvs ks → (kvs.any fun kv => decide (kv.1 = k)) = ks.any fun kv => decide (kv.1 = k)
  | _, _, .nil => rfl
  | _, _, .cons h t => by simp only [List.any_cons, h.1, RKV.anyk k t]
theorem RKV.repl (k : κ) {d : D} {v : V} (r : RV K F d v) : ∀ {kvs : List (κ × D)} {ks : List (κ × V)}, RKV K F kvs ks → RKV K F (kvs.map fun kv => if kv.1 = k then (kv.1, d) else kv) (ks.map fun kv => if kv.1 = k then (kv.1, v) else kv)
  | _, _, .nil => .nil
  | _, _, .cons (a := a) (b := b) h t => by
    refine .cons ?_ (RKV.repl k r t)
    have h1 := h.1
    by_cases hk : a.1 = k
    · simp only [if_pos hk, if_pos (h1 ▸ hk)]
      exact ⟨h1, r⟩
    · simp only [if_neg hk, if_neg (h1 ▸ hk)]
      exact h
theorem RKV.snoc {k : κ} {d : D} {v : V} (r : RV K F d v) : ∀ {kvs : List (κ × D)} {ks : List (κ × V)}, RKV K F kvs ks → RKV K F (kvs ++ [(k, d)]) (ks ++ [(k, v)])
  | _, _, .nil => .cons ⟨rfl, r⟩ .nil
  | _, _, .cons h t => .cons h (RKV.snoc r t)
theorem RKV.kput {kvs : List (κ × D)} {ks : List (κ × V)} (h : RKV K F kvs ks) (k : κ) {d : D} {v : V} (r : RV K F d v) : RKV K F (putKD kvs k d) (putK ks k v) := by
  unfold putKD putK
  rw [h.anyk k]
  split
  · exact h.repl k r
  · exact h.snoc r
end
/-! ### laws of valD and putKD -/
section
variable {κ : Type} [DecidableEq κ]
theorem valD_nil (k : κ) : valD ([] : List (κ × D)) k = none := rfl
theorem valD_cons (p : κ × D) (l : List (κ × D)) (k : κ) : valD (p :: l) k = if p.1 = k then some p.2 else valD l k := by
  simp only [valD, List.find?_cons]
  by_cases h : p.1 = k
  · simp [h]
  · simp [h]
theorem valD_any (k : κ) : ∀ kvs : List (κ × D), (kvs.any fun kv => decide (kv.1 = k)) = (valD kvs k).isSome
  | [] => rfl
  | p :: l => by
    rw [List.any_cons, valD_cons, valD_any k l]
    by_cases h : p.1 = k <;> simp [h]
theorem valD_map (k j : κ) (y : D) : ∀ kvs : List (κ × D), valD (kvs.map fun kv => if kv.1 = k then (kv.1, y) else kv) j = (valD kvs j).map fun x => if j = k then y else x
  | [] => rfl
  | p :: l => by
    rw [List.map_cons, valD_cons, valD_cons, valD_map k j y l]
    by_cases h : p.1 = k
    · by_cases h2 : p.1 = j
      · subst h; subst h2; simp
      · simp [h, h2, show ¬ k = j from fun z => h2 (h.trans z)]
    · by_cases h2 : p.1 = j
      · subst h2; simp [h]
      · simp [h, h2]
theorem valD_snoc (k j : κ) (y : D) : ∀ kvs : List (κ × D), valD kvs k = none → valD (kvs ++ [(k, y)]) j = if j = k then some y else valD kvs j
  | [], _ => by
    rw [List.nil_append, valD_cons, valD_nil]
    by_cases h : k = j
    · subst h; simp
    · simp [h, show ¬ j = k from fun z => h z.symm]
  | p :: l, e => by
    rw [valD_cons] at e
    split at e
    · cases e
    · rename_i hp
      rw [List.cons_append, valD_cons, valD_cons, valD_snoc k j y l e]
      by_cases h2 : p.1 = j
      · subst h2; simp [hp]
      · simp [h2]
theorem valD_put (kvs : List (κ × D)) (k j : κ) (y : D) : valD (putKD kvs k y) j = if j = k then some y else valD kvs j := by
  unfold putKD
  rw [valD_any]
  cases e : valD kvs k with
  | none => exact valD_snoc k j y kvs e
  | some x =>
    simp only [Option.isSome_some, if_true]
    rw [valD_map]
    by_cases h : j = k
    · subst h; rw [e]; simp
    · simp [h]
theorem putKD_new {kvs : List (κ × D)} {k : κ} (v : D) (h : valD kvs k = none) : putKD kvs k v = kvs ++ [(k, v)] := by
  unfold putKD
  rw [valD_any, h]
  rfl
theorem putKD_len (kvs : List (κ × D)) (k : κ) (v : D) : (putKD kvs k v).length ≤ kvs.length + 1 := by
  unfold putKD
  split <;> simp
theorem putKD_keys {kvs : List (κ × D)} {k : κ} {v : D} (h : (valD kvs k).isSome = true) : (putKD kvs k v).map (·.1) = kvs.map (·.1) := by
  unfold putKD
  rw [valD_any, if_pos h, List.map_map]
  apply List.map_congr_left
  intro a _
  simp only [Function.comp_apply]
  split <;> rfl
end
end DL

set_option Elab.async false
set_option linter.all false
set_option maxRecDepth 100000
set_option maxHeartbeats 4000000
/-! # DN: dicts whose keys are tuples of any depth; d[k], d[k] = v, k in d, d.get(k, x), d.setdefault(k, x), len(d) for dicts of both kinds -/
namespace DL
open PySem PySem.Spec PyProof.Rows L2
mutual
def keyP : PyData → Option NestedKey
  | .none => some .none
  | .bool b => some (.num (if b = true then 1 else 0))
  | .int i => some (.num i)
  | .str x => some (.text x)
  | .tuple ds => (keyPs ds).map .tup
  | _ => none
def keyPs : List PyData → Option (List NestedKey)
  | [] => some []
  | d :: ds => match keyP d, keyPs ds with
    | some k, some ks => some (k :: ks)
    | _, _ => none
end
mutual
theorem nkey_pd : ∀ {d : D} {k : NestedKey}, nkey d = some k → pd d = true ∧ keyP (py d) = some k
  | .non, k, h => by simp only [nkey] at h; cases h; exact ⟨rfl, by simp [py, keyP]⟩
  | .bl b, k, h => by simp only [nkey] at h; cases h; exact ⟨rfl, by simp [py, keyP]⟩
  | .int b, k, h => by simp only [nkey] at h; cases h; exact ⟨rfl, by simp [py, keyP]⟩
  | .str b, k, h => by simp only [nkey] at h; cases h; exact ⟨rfl, by simp [py, keyP]⟩
  | .tup ds, k, h => by
    simp only [nkey] at h
    obtain ⟨ks, e, rfl⟩ := Option.map_eq_some_iff.mp h
    obtain ⟨h1, h2⟩ := nkeys_pd e
    exact ⟨by simpa [pd] using h1, by simp [py, keyP, h2]⟩
  | .ref _, k, h => by simp [nkey] at h
  | .ty _, k, h => by simp [nkey] at h
  | .lst _, k, h => by simp [nkey] at h
  | .ins _ _ _, k, h => by simp [nkey] at h
theorem nkeys_pd : ∀ {ds : List D} {ks : List NestedKey}, nkey.nkeys ds = some ks → pds ds = true ∧ keyPs (pys ds) = some ks
  | [], ks, h => by simp only [nkey.nkeys] at h; cases h; exact ⟨rfl, by simp [pys, keyPs]⟩
  | d :: ds, ks, h => by
    simp only [nkey.nkeys] at h
    split at h
    · rename_i k ks' e1 e2
      cases h
      obtain ⟨a1, a2⟩ := nkey_pd e1
      obtain ⟨b1, b2⟩ := nkeys_pd e2
      exact ⟨by simp [pds, a1, b1], by simp [pys, keyPs, a2, b2]⟩
    · cases h
end
mutual
theorem nested_of {h : Heap} : ∀ {d : PyData} {u : Value} {as : List Addr} {k : NestedKey}, Reads h u d as → keyP d = some k → NestedIs h k u
  | .none, _, _, _, r, e => by cases r; simp only [keyP] at e; cases e; exact .none
  | .bool b, _, _, _, r, e => by cases r; simp only [keyP] at e; cases e; exact .bool rfl
  | .int i, _, _, _, r, e => by cases r; simp only [keyP] at e; cases e; exact .int _ _
  | .str x, _, _, _, r, e => by cases r; simp only [keyP] at e; cases e; exact .text _ _
  | .tuple ds, _, _, _, r, e => by
    simp only [keyP] at e
    obtain ⟨ks, e1, rfl⟩ := Option.map_eq_some_iff.mp e
    cases r with
    | tuple h1 h2 h3 h4 => exact .tup h1 h2 h3 (nesteds_of h4 e1)
  | .list _, _, _, _, _, e => by simp [keyP] at e
  | .dict _, _, _, _, _, e => by simp [keyP] at e
theorem nesteds_of {h : Heap} : ∀ {ds : List PyData} {us : List Value} {as : List Addr} {ks : List NestedKey}, ReadsAll h us ds as → keyPs ds = some ks → NestedAll h ks us
  | [], _, _, _, r, e => by cases r; simp only [keyPs] at e; cases e; exact .nil
  | d :: ds, _, _, _, r, e => by
    simp only [keyPs] at e
    split at e
    · rename_i k ks' e1 e2
      cases e
      cases r with
      | cons r1 r2 => exact .cons (nested_of r1 e1) (nesteds_of r2 e2)
    · cases e
end
/-- the value at v is the key k -/
def KeyAt (K : Frag) (H : Hp) (k : NestedKey) (v : V) : Prop := k.depth ≤ 8 ∧ ∃ d, Dp K H v d ∧ keyP d = some k
theorem KeyAt.is {X : Cx} {pins : List (Addr × Obj)} {σ : St} {H : Hp} {s : Shared} {k : NestedKey} {a : Addr} (I : Inv X pins σ H s) (h : KeyAt X.K H k (.ref a)) : (nestedKind X.prog X.w).is s.heap k a := by
  obtain ⟨h1, d, h2, h3⟩ := h
  obtain ⟨as, r⟩ := Dp.reads I d (.ref a) (.ref a) h2 rfl
  exact ⟨nested_of r h3, h1⟩
theorem keyAt_rv {K : Frag} {F H : Hp} {d : D} {v : V} {k : NestedKey} (s : Same F H) (r : RV K F d v) (h : nkey d = some k) (h8 : k.depth ≤ 8) : KeyAt K H k v := ⟨h8, py d, r.dp s (nkey_pd h).1, (nkey_pd h).2⟩
/-! ### such a dict in the heap -/
abbrev XN := NestedKey × Addr × V
abbrev YN := NestedKey × Addr × Value
def XY (x : XN) (y : YN) : Prop := x.1 = y.1 ∧ x.2.1 = y.2.1 ∧ RelV x.2.2 y.2.2
def atN (xs : List XN) (k : NestedKey) : Option (Addr × V) := (xs.find? fun x => decide (x.1 = k)).map (·.2)
def putN (xs : List XN) (k : NestedKey) (b : Addr) (v : V) : List XN := if (atN xs k).isSome then xs.map (fun x => if x.1 = k then (x.1, x.2.1, v) else x) else xs ++ [(k, b, v)]
theorem xy_at {k : NestedKey} : ∀ {xs : List XN} {ys : List YN}, Paired XY xs ys → (∀ p, atN xs k = some p → ∃ q, atKey ys k = some q ∧ RelV p.2 q.2) ∧ (atN xs k = none → atKey ys k = none)
  | _, _, .nil => ⟨fun p h => by simp [atN] at h, fun _ => rfl⟩
  | _, _, .cons (a := x) (b := y) h t => by
    obtain ⟨h1, h2, h3⟩ := h
    by_cases hk : x.1 = k
    · have hk' : y.1 = k := h1 ▸ hk
      refine ⟨fun p e => ?_, fun e => ?_⟩
      · simp only [atN, List.find?_cons, decide_eq_true hk, Option.map_some, Option.some.injEq] at e
        subst e
        exact ⟨y.2, by simp [atKey, List.find?_cons, hk'], h3⟩
      · simp [atN, List.find?_cons, hk] at e
    · have hk' : ¬ y.1 = k := h1 ▸ hk
      obtain ⟨i1, i2⟩ := xy_at (k := k) t
      refine ⟨fun p e => ?_, fun e => ?_⟩
      · obtain ⟨q, e1, e2⟩ := i1 p (by simpa [atN, List.find?_cons, hk] using e)
        exact ⟨q, by simpa [atKey, List.find?_cons, hk'] using e1, e2⟩
      · have := i2 (by simpa [atN, List.find?_cons, hk] using e)
        simpa [atKey, List.find?_cons, hk'] using this
theorem xy_repl {k : NestedKey} {v : V} {u : Value} (r : RelV v u) : ∀ {xs : List XN} {ys : List YN}, Paired XY xs ys → Paired XY (xs.map fun x => if x.1 = k then (x.1, x.2.1, v) else x) (ys.map (putAt k u))
  | _, _, .nil => .nil
  | _, _, .cons (a := x) (b := y) h t => by
    refine .cons ?_ (xy_repl r t)
    obtain ⟨h1, h2, h3⟩ := h
    by_cases hk : x.1 = k
    · simp only [if_pos hk, putAt, if_pos (h1 ▸ hk)]
      exact ⟨h1, h2, r⟩
    · simp only [if_neg hk, putAt, if_neg (h1 ▸ hk)]
      exact ⟨h1, h2, h3⟩
theorem xy_snoc {z : XN} {q : YN} (r : XY z q) : ∀ {xs : List XN} {ys : List YN}, Paired XY xs ys → Paired XY (xs ++ [z]) (ys ++ [q])
  | _, _, .nil => .cons r .nil
  | _, _, .cons h t => .cons h (xy_snoc r t)
theorem xy_put {k : NestedKey} {b : Addr} {v : V} {u : Value} (r : RelV v u) {xs : List XN} {ys : List YN} (h : Paired XY xs ys) : Paired XY (putN xs k b v) (storedH ys k b u) := by
  unfold putN storedH
  obtain ⟨i1, i2⟩ := xy_at (k := k) h
  cases e : atN xs k with
  | none =>
    rw [i2 e]
    exact xy_snoc ⟨rfl, rfl, r⟩ h
  | some p =>
    obtain ⟨q, e1, _⟩ := i1 p e
    rw [e1]
    exact xy_repl r h
theorem putN_len (xs : List XN) (k : NestedKey) (b : Addr) (v : V) : (putN xs k b v).length ≤ xs.length + 1 := by
  unfold putN
  split <;> simp
section
variable {X : Cx} {pins : List (Addr × Obj)} {σ : St} {H : Hp} {s : Shared} {a b : Addr} {xs : List XN} {k : NestedKey} {A : Around} {E : Value → Shared → Prop}
theorem n_dict (I : Inv X pins σ H s) (hx : H a = some (RawN X.w a xs)) (hk : ∀ x ∈ xs, KeyAt X.K H x.1 (.ref x.2.1)) : xs.length ≤ sizeLine ∧ (a == sysModules) = false ∧ ∃ ys, Paired XY xs ys ∧ s.heap.DictOfH (nestedKind X.prog X.w) a ys := by
  obtain ⟨⟨h1, h2, ys, h3, o, es, ep, h4, h5, h6, h7, h8⟩, _, _⟩ := I.hok a _ hx
  refine ⟨h1, h2, ys, h3, o, es, ep, h4, h5, h6, h7, fun y hy => ?_, h8⟩
  obtain ⟨j, hj⟩ := List.mem_iff_getElem?.mp hy
  have key : ∀ {xs : List XN} {ys : List YN}, Paired XY xs ys → ∀ {j : Nat} {y : YN}, ys[j]? = some y → ∃ x, xs[j]? = some x ∧ XY x y := by
    intro xs ys h
    induction h with
    | nil => intro j y e; simp at e
    | cons h t ih =>
      intro j y e
      cases j with
      | zero => simp at e; subst e; exact ⟨_, rfl, h⟩
      | succ j => simpa using ih (by simpa using e)
  obtain ⟨x, ex, e1, e2, _⟩ := key h3 hj
  have := (hk x (List.mem_of_getElem? ex)).is I
  rw [← e1, ← e2]
  exact this
theorem n_write {h' : Heap} {t' : Nat} {xs' : List XN} {ys' : List YN} (I : Inv X pins σ H s) (hx : H a = some (RawN X.w a xs)) (hs : Heap.SameBut a s.heap h') (hl : xs'.length ≤ sizeLine) (hd : (a == sysModules) = false) (rel : Paired XY xs' ys') (dd : h'.DictOfH (nestedKind X.prog X.w) a ys') :
    Inv X pins σ (upd H a (RawN X.w a xs')) { s with heap := h', toks := t' } := by
  obtain ⟨o, es, ep, h4, h5, h6, h7, h8, h9⟩ := dd
  refine d_write I (by rw [hx]; exact True.intro) hs ⟨o, h4⟩ ?_
  refine ⟨⟨hl, hd, ys', rel, o, es, ep, h4, h5, h6, h7, h9⟩, ⟨o, h4⟩, fun h1 h2 ⟨a1, a2, y, a3, o, es, ep, a4, a5⟩ hh => ⟨a1, a2, y, a3, o, es, ep, hh o a4, a5⟩⟩
theorem n_new (h : Heap) (hb : sysModules < h.objs.size) (w : World) (P : Program) : ObjOk P w H (h.push { cls := .type "dict", data := .dict #[] }) h.objs.size (RawN w h.objs.size []) := by
  have e := Heap.get?_push_size h (o := { cls := .type "dict", data := .dict #[] }) rfl
  refine ⟨⟨Nat.zero_le _, beq_eq_false_iff_ne.mpr (Ne.symm (Nat.ne_of_lt hb)), [], .nil, _, #[], _, e, ⟨rfl, rfl, rfl⟩, rfl, rfl, List.nodup_nil⟩, ⟨_, e⟩, fun h1 h2 ⟨a1, a2, y, a3, o, es, ep, a4, a5⟩ hh => ⟨a1, a2, y, a3, o, es, ep, hh o a4, a5⟩⟩
end
/-! ### what a dict of either kind holds -/
def NGet (K : Frag) (w : World) (H : Hp) (a : Addr) (y : V) (r : Option V) : Prop := ∃ xs k b, H a = some (RawN w a xs) ∧ y = .ref b ∧ KeyAt K H k y ∧ (∀ x ∈ xs, KeyAt K H x.1 (.ref x.2.1)) ∧ r = (atN xs k).map (·.2)
def GGet (K : Frag) (w : World) (H : Hp) (a : Addr) (y : V) (r : Option V) : Prop := DGet H a y r ∨ NGet K w H a y r
def NPut (K : Frag) (w : World) (H : Hp) (a : Addr) (y v : V) (H' : Hp) : Prop := ∃ xs k b, H a = some (RawN w a xs) ∧ y = .ref b ∧ KeyAt K H k y ∧ (∀ x ∈ xs, KeyAt K H x.1 (.ref x.2.1)) ∧ xs.length < sizeLine ∧ H' = upd H a (RawN w a (putN xs k b v))
def GPut (K : Frag) (w : World) (H : Hp) (a : Addr) (y v : V) (H' : Hp) : Prop := DPut H a y v H' ∨ NPut K w H a y v H'
section
variable {X : Cx} {pins : List (Addr × Obj)} {σ : St} {H : Hp} {s : Shared} {a : Addr} {y v d : V} {u r : Value} {o : Option V} {A : Around} {E : Value → Shared → Prop}
theorem nroom (hu : A.units + 10 < cLine) : (nestedKind X.prog X.w).room A.in1 := by
  show A.units + 1 + 8 < cLine
  omega
theorem g_type (I : Inv X pins σ H s) (g : GGet X.K X.w H a y o) : s.TypeIs (.ref a) "dict" ∧ (∀ b, Value.ref a = .ref b → ∃ ob, s.heap.get? b = some ob ∧ ob.dict = none) ∧ (a == sysModules) = false := by
  rcases g with g | ⟨xs, k, b, hx, ey, hk, hks, l⟩
  · have := dict_typeIs I g
    refine ⟨this, dict_noDict I g, ?_⟩
    rcases g with ⟨kvs, k, e, _, _⟩ | ⟨kvs, k, b, e, _, _, _⟩
    · exact (dk_rd I.hok e).2.1
    · exact (dt_rd I.hok e).2.1
  · obtain ⟨_, hd, ys, _, dd⟩ := n_dict I hx hks
    refine ⟨dd.typeIs, fun b e => ?_, hd⟩
    cases e
    obtain ⟨ob, _, _, h1, h2, _⟩ := dd
    exact ⟨ob, h1, h2.2.1⟩
theorem g_getItem {Q : Value → Shared → Prop} (hu : A.units + 10 < cLine) (I : Inv X pins σ H s) (g : GGet X.K X.w H a y (some v)) (ry : RelV y u) (h : ∀ w' s', Inv X pins σ H s' → RelV v w' → Q w' s') :
    wpAny (model X.prog X.w) A (getItem (.ref a) u) Q E s := by
  rcases g with g | ⟨xs, k, b, hx, ey, hk, hks, l⟩
  · exact d_getItem (by omega) I g ry h
  · subst ey
    cases (show u = Value.ref b from ry)
    obtain ⟨_, hd, ys, rel, dd⟩ := n_dict I hx hks
    obtain ⟨p, e, ep⟩ := Option.map_eq_some_iff.mp l.symm
    obtain ⟨q, e1, e2⟩ := (xy_at rel).1 p e
    exact wpAny_getItem_heap (nroom hu) (hk.is I) dd e1 (h _ _ (I.tok _) (by rw [← ep]; exact e2))
theorem g_in {Q : Value → Shared → Prop} (hu : A.units + 10 < cLine) (I : Inv X pins σ H s) (g : GGet X.K X.w H a y o) (ry : RelV y u) (h : ∀ s', Inv X pins σ H s' → Q (.bool o.isSome) s') :
    wpAny (model X.prog X.w) A (compareOp .In u (.ref a)) Q E s := by
  rcases g with g | ⟨xs, k, b, hx, ey, hk, hks, l⟩
  · exact d_in (by omega) I g ry h
  · subst ey
    cases (show u = Value.ref b from ry)
    obtain ⟨_, hd, ys, rel, dd⟩ := n_dict I hx hks
    refine wpAny_in_heap (nroom hu) (hk.is I) hd dd ?_
    have e : (atKey ys k).isSome = o.isSome := by
      subst l
      cases e : atN xs k with
      | none => rw [(xy_at rel).2 e]; rfl
      | some p => obtain ⟨q, e1, _⟩ := (xy_at rel).1 p e; rw [e1]; rfl
    rw [e]
    exact h _ (I.tok _)
theorem g_notIn {Q : Value → Shared → Prop} (hu : A.units + 10 < cLine) (I : Inv X pins σ H s) (g : GGet X.K X.w H a y o) (ry : RelV y u) (h : ∀ s', Inv X pins σ H s' → Q (.bool (!o.isSome)) s') :
    wpAny (model X.prog X.w) A (compareOp .NotIn u (.ref a)) Q E s := by
  rcases g with g | ⟨xs, k, b, hx, ey, hk, hks, l⟩
  · exact d_notIn (by omega) I g ry h
  · subst ey
    cases (show u = Value.ref b from ry)
    obtain ⟨_, hd, ys, rel, dd⟩ := n_dict I hx hks
    refine wpAny_notIn_heap (nroom hu) (hk.is I) hd dd ?_
    have e : (atKey ys k).isSome = o.isSome := by
      subst l
      cases e : atN xs k with
      | none => rw [(xy_at rel).2 e]; rfl
      | some p => obtain ⟨q, e1, _⟩ := (xy_at rel).1 p e; rw [e1]; rfl
    rw [e]
    exact h _ (I.tok _)
theorem g_setItem {H' : Hp} {Q : Unit → Shared → Prop} (hu : A.units + 10 < cLine) (I : Inv X pins σ H s) (g : GPut X.K X.w H a y v H') (ry : RelV y u) (rv : RelV v r) (h : ∀ s', Inv X pins σ H' s' → Q () s') :
    wpAny (model X.prog X.w) A (setItem (.ref a) u r) Q E s := by
  rcases g with g | ⟨xs, k, b, hx, ey, hk, hks, l, eH⟩
  · exact d_setItem (by omega) I g ry rv h
  · subst ey eH
    cases (show u = Value.ref b from ry)
    obtain ⟨hz, hd, ys, rel, dd⟩ := n_dict I hx hks
    refine wpAny_setItem_heap (hsz := by rw [← Paired.length rel]; exact hz) (nroom hu) (hk.is I) dd fun h' dd' hs => h _ ?_
    exact n_write I hx hs (by have := putN_len xs k b v; omega) hd (xy_put rv rel) dd'
theorem g_get2 {Q : Value → Shared → Prop} (hu : A.units + 10 < cLine) (I : Inv X pins σ H s) (g : GGet X.K X.w H a y o) (ry : RelV y u) (rd : RelV d r) (h : ∀ w' s', Inv X pins σ H s' → RelV (o.getD d) w' → Q w' s') :
    wpAny (model X.prog X.w) A (call (.builtin "dict.get") [.ref a, u, r]) Q E s := by
  rcases g with g | ⟨xs, k, b, hx, ey, hk, hks, l⟩
  · exact d_get2 (by omega) I g ry rd h
  · subst ey
    cases (show u = Value.ref b from ry)
    obtain ⟨_, hd, ys, rel, dd⟩ := n_dict I hx hks
    refine call_meetsIn PySem.F.slot_dict_get dd.typeIs PySem.F.entry_dict_get (PySem.F.args_dict_get_3 _ _ _) (meetsH_dict_get_default (nestedKind X.prog X.w) a b hd r) ⟨nroom hu, k, ys, hk.is I, dd, h _ _ (I.tok _) ?_⟩
    subst l
    cases e : atN xs k with
    | none => rw [(xy_at rel).2 e]; exact rd
    | some p => obtain ⟨q, e1, e2⟩ := (xy_at rel).1 p e; rw [e1]; exact e2
end
end DL

set_option Elab.async false
set_option linter.all false
set_option maxRecDepth 100000
set_option maxHeartbeats 4000000
/-! # DO: dicts of one's own, over data -/
namespace DL
open PySem PySem.Spec PyProof.Rows L2
/-! ### nested keys over data -/
def isK (k : NestedKey) (d : D) : Bool := decide (nkey d = some k)
def valNk (kvs : List (D × D)) (k : NestedKey) : Option D := (kvs.find? fun kv => isK k kv.1).map (·.2)
def putNk (kvs : List (D × D)) (y : D) (k : NestedKey) (v : D) : List (D × D) := if (valNk kvs k).isSome then kvs.map fun kv => if isK k kv.1 then (kv.1, v) else kv else kvs ++ [(y, v)]
theorem isK_of {d : D} {j k : NestedKey} (h : nkey d = some j) : isK k d = decide (j = k) := by
  unfold isK
  rw [h]
  simp
section
variable {K : Frag} {F : Hp}
theorem RN.at {k : NestedKey} : ∀ {kvs : List (D × D)} {xs : List XN}, RN K F kvs xs → (∀ d, valNk kvs k = some d → ∃ p, atN xs k = some p ∧ RV K F d p.2) ∧ (valNk kvs k = none → atN xs k = none)
  | _, _, .nil => ⟨fun d h => by simp [valNk] at h, fun _ => rfl⟩
  | _, _, .cons (a := a) (b := b) h t => by
    obtain ⟨h1, h2, h3, h4⟩ := h
    obtain ⟨i1, i2⟩ := RN.at (k := k) t
    by_cases hk : b.1 = k
    · have hk' : isK k a.1 = true := by rw [isK_of h1]; exact decide_eq_true hk
      refine ⟨fun d e => ?_, fun e => ?_⟩
      · simp only [valNk, List.find?_cons, hk', Option.map_some, Option.some.injEq] at e
        subst e
        exact ⟨b.2, by simp [atN, List.find?_cons, hk], h4⟩
      · simp [valNk, List.find?_cons, hk'] at e
    · have hk' : isK k a.1 = false := by rw [isK_of h1]; exact decide_eq_false hk
      refine ⟨fun d e => ?_, fun e => ?_⟩
      · obtain ⟨p, e1, e2⟩ := i1 d (by simpa [valNk, List.find?_cons, hk'] using e)
        exact ⟨p, by simpa [atN, List.find?_cons, hk] using e1, e2⟩
      · have := i2 (by simpa [valNk, List.find?_cons, hk'] using e)
        simpa [atN, List.find?_cons, hk] using this
theorem RN.repl {k : NestedKey} {d : D} {v : V} (r : RV K F d v) : ∀ {kvs : List (D × D)} {xs : List XN}, RN K F kvs xs → RN K F (kvs.map fun kv => if isK k kv.1 then (kv.1, d) else kv) (xs.map fun x => if x.1 = k then (x.1, x.2.1, v) else x)
  | _, _, .nil => .nil
  | _, _, .cons (a := a) (b := b) h t => by
    refine .cons ?_ (RN.repl r t)
    obtain ⟨h1, h2, h3, h4⟩ := h
    by_cases hk : b.1 = k
    · have hk' : isK k a.1 = true := by rw [isK_of h1]; exact decide_eq_true hk
      simp only [hk', if_true, if_pos hk]
      exact ⟨h1, h2, h3, r⟩
    · have hk' : isK k a.1 = false := by rw [isK_of h1]; exact decide_eq_false hk
      simp only [hk', if_neg hk]
      exact ⟨h1, h2, h3, h4⟩
theorem RN.snoc {y d : D} {z : XN} (r : nkey y = some z.1 ∧ z.1.depth ≤ 8 ∧ RV K F y (.ref z.2.1) ∧ RV K F d z.2.2) : ∀ {kvs : List (D × D)} {xs : List XN}, RN K F kvs xs → RN K F (kvs ++ [(y, d)]) (xs ++ [z])
  | _, _, .nil => .cons r .nil
  | _, _, .cons h t => .cons h (RN.snoc r t)
theorem RN.put {y d : D} {k : NestedKey} {b : Addr} {v : V} {kvs : List (D × D)} {xs : List XN} (h : RN K F kvs xs) (hk : nkey y = some k) (h8 : k.depth ≤ 8) (ry : RV K F y (.ref b)) (r : RV K F d v) : RN K F (putNk kvs y k d) (putN xs k b v) := by
  unfold putNk putN
  obtain ⟨i1, i2⟩ := h.at (k := k)
  cases e : valNk kvs k with
  | none => rw [i2 e]; exact h.snoc ⟨hk, h8, ry, r⟩
  | some x =>
    obtain ⟨p, e1, _⟩ := i1 x e
    rw [e1]
    exact h.repl r
theorem RN.keys {H : Hp} (s : Same F H) : ∀ {kvs : List (D × D)} {xs : List XN}, RN K F kvs xs → ∀ x ∈ xs, KeyAt K H x.1 (.ref x.2.1)
  | _, _, .nil, x, h => by cases h
  | _, _, .cons h t, x, hx => by
    rcases List.mem_cons.mp hx with rfl | hx
    · exact keyAt_rv s h.2.2.1 h.1 h.2.1
    · exact RN.keys s t x hx
end
/-! ### laws of valNk and putNk -/
theorem valNk_cons (p : D × D) (l : List (D × D)) (k : NestedKey) : valNk (p :: l) k = if isK k p.1 then some p.2 else valNk l k := by
  simp only [valNk, List.find?_cons]
  cases isK k p.1 <;> simp
theorem isK_ne {d : D} {j k : NestedKey} (h : isK k d = true) (hjk : j ≠ k) : isK j d = false := by
  unfold isK at h ⊢
  rw [of_decide_eq_true h]
  simp only [Option.some.injEq, decide_eq_false_iff_not]
  exact fun z => hjk z.symm
theorem valNk_map (k j : NestedKey) (y : D) : ∀ kvs : List (D × D), valNk (kvs.map fun kv => if isK k kv.1 then (kv.1, y) else kv) j = (valNk kvs j).map fun x => if j = k then y else x
  | [] => rfl
  | p :: l => by
    rw [List.map_cons, valNk_cons, valNk_cons, valNk_map k j y l]
    by_cases hjk : j = k
    · subst hjk
      cases h : isK j p.1 with
      | true => simp [h]
      | false => simp [h]
    · cases h : isK k p.1 with
      | true => simp [isK_ne h hjk, h]
      | false => cases h2 : isK j p.1 <;> simp [h, h2, hjk]
theorem valNk_snoc {z : D} (k j : NestedKey) (y : D) (hz : nkey z = some k) : ∀ kvs : List (D × D), valNk kvs k = none → valNk (kvs ++ [(z, y)]) j = if j = k then some y else valNk kvs j
  | [], _ => by
    rw [List.nil_append, valNk_cons, isK_of hz]
    by_cases h : k = j
    · subst h; simp
    · simp [h, show ¬ j = k from fun z => h z.symm]
  | p :: l, e => by
    rw [valNk_cons] at e
    split at e
    · cases e
    · rename_i hp
      rw [List.cons_append, valNk_cons, valNk_cons, valNk_snoc k j y hz l e]
      by_cases hjk : j = k
      · subst hjk; simp [hp]
      · simp [hjk]
theorem valNk_put {z : D} {k : NestedKey} (kvs : List (D × D)) (j : NestedKey) (y : D) (hz : nkey z = some k) : valNk (putNk kvs z k y) j = if j = k then some y else valNk kvs j := by
  unfold putNk
  cases e : valNk kvs k with
  | none => exact valNk_snoc k j y hz kvs e
  | some x =>
    simp only [Option.isSome_some, if_true]
    rw [valNk_map]
    by_cases h : j = k
    · subst h; rw [e]; simp
    · simp [h]
theorem putNk_new {z : D} {kvs : List (D × D)} {k : NestedKey} (v : D) (h : valNk kvs k = none) : putNk kvs z k v = kvs ++ [(z, v)] := by
  unfold putNk
  rw [h]; rfl
theorem putNk_len (kvs : List (D × D)) (z : D) (k : NestedKey) (v : D) : (putNk kvs z k v).length ≤ kvs.length + 1 := by
  unfold putNk
  split <;> simp
/-! ### what a dict holds -/
def Look (w : World) (O : Ow) (p : Addr) (y : D) (r : Option D) : Prop :=
  (∃ kvs k, (O p = some (.dK kvs) ∨ ∃ u, O p = some (.fK u kvs)) ∧ keyD y = some k ∧ r = valD kvs k) ∨ ∃ kvs k ds, O p = some (.dN w kvs) ∧ y = .tup ds ∧ nkey y = some k ∧ k.depth ≤ 8 ∧ r = valNk kvs k
def Stor (w : World) (O : Ow) (p : Addr) (y v : D) (o : OD) : Prop :=
  (∃ kvs k, O p = some (.dK kvs) ∧ keyD y = some k ∧ kvs.length < sizeLine ∧ o = .dK (putKD kvs k v)) ∨ ∃ kvs k ds, O p = some (.dN w kvs) ∧ y = .tup ds ∧ nkey y = some k ∧ k.depth ≤ 8 ∧ kvs.length < sizeLine ∧ o = .dN w (putNk kvs y k v)
section
variable {K : Frag} {w : World} {O : Ow} {H F : Hp} {p : Addr} {y v : D} {yv vv : V} {r : Option D} {o : OD}
theorem look_ok (fh : Same F H) (ow : OwOk K O H F) (ry : RV K F y yv) (l : Look w O p y r) : ∃ z, GGet K w H p yv z ∧ (∀ d, r = some d → ∃ zv, z = some zv ∧ RV K F d zv) ∧ (r = none → z = none) := by
  rcases l with ⟨kvs, k, e, ek, rfl⟩ | ⟨kvs, k, ds, e, ey, ek, h8, rfl⟩
  · have key : ∀ ks, Rd H p (.dK ks) → RKV K F kvs ks → ∃ z, GGet K w H p yv z ∧ (∀ d, valD kvs k = some d → ∃ zv, z = some zv ∧ RV K F d zv) ∧ (valD kvs k = none → z = none) := fun ks hr rk =>
      ⟨valV ks k, .inl (.inl ⟨ks, k, hr, keyD_v ry ek, rfl⟩), fun d e => rk.val k e, fun e => rk.valN k e⟩
    rcases e with e | ⟨u, e⟩
    · obtain ⟨_, ho, e1, ks, rfl, rk⟩ := ow _ _ e
      exact key ks (.inl e1) rk
    · obtain ⟨_, ho, e1, x, e2, e3, rk⟩ := ow _ _ e
      rw [e2] at e1
      exact key x.2 (.inr ⟨_, e1⟩) rk
  · obtain ⟨_, ho, e1, xs, rfl, rn⟩ := ow _ _ e
    subst ey
    cases ry with
    | tup h1 h2 =>
      rename_i b zs
      obtain ⟨i1, i2⟩ := rn.at (k := k)
      refine ⟨_, .inr ⟨xs, k, b, e1, rfl, keyAt_rv fh (.tup h1 h2) ek h8, rn.keys fh, rfl⟩, fun d e => ?_, fun e => by rw [i2 e]; rfl⟩
      obtain ⟨q, e2, e3⟩ := i1 d e
      exact ⟨q.2, by rw [e2]; rfl, e3⟩
theorem stor_ok {B : Bd} {env : Env} {σ : St} (R : Rel B env O σ H F) (ry : RV B.K F y yv) (rv : RV B.K F v vv) (l : Stor w O p y v o) : ∃ ho, GPut B.K w H p yv vv (upd H p ho) ∧ After B.K O H F (setO O p o) (upd H p ho) F := by
  rcases l with ⟨kvs, k, e, ek, hl, rfl⟩ | ⟨kvs, k, ds, e, ey, ek, h8, hl, rfl⟩
  · obtain ⟨_, ho, e1, ks, rfl, rk⟩ := R.ow _ _ e
    refine ⟨.dK (putK ks k vv), .inl (.inl ⟨ks, k, e1, keyD_v ry ek, by rw [← rk.klen]; exact hl, rfl⟩), R.put e ⟨_, rfl, rk.kput k rv⟩⟩
  · obtain ⟨_, ho, e1, xs, rfl, rn⟩ := R.ow _ _ e
    subst ey
    cases ry with
    | tup h1 h2 =>
      rename_i b zs
      have ln : kvs.length = xs.length := Paired.length rn
      exact ⟨RawN w p (putN xs k b vv), .inr ⟨xs, k, b, e1, rfl, keyAt_rv R.fh (.tup h1 h2) ek h8, rn.keys R.fh, by omega, rfl⟩, R.put e ⟨_, rfl, rn.put ek h8 (.tup h1 h2) rv⟩⟩
end
/-! ### d[k] -/
def tGGet (K : Frag) (w : World) (td ty : TE) : TE := fun σ H Q => td σ H fun x H1 => ty σ H1 fun y H2 => ∃ a v, x = .ref a ∧ GGet K w H2 a y (some v) ∧ Q v H2
section
variable {X : Cx} {B : Bd} {pos pos' p apos cpos : Pos} {k : Nat} {wx : DW} {o i e f value : Expr} {td ty tv tx : DTE}
theorem Site.u10 (S : Site X B k wx) : X.A.units + 10 < cLine := by have := S.u66; omega
theorem pe_gget {td ty : TE} (hu : X.A.units + 10 < cLine) (ho : PE X o td) (hi : PE X i ty) (hs : NoSl i) : PE X (.Subscript o i pos) (tGGet X.K X.w td ty) := by
  refine ⟨fun pins s σ H Q I h => ?_⟩
  refine subD_of PySem.F.slot_dict_getitem.lookup hs (thn (ho.run pins s σ H _ I h) fun u s1 ⟨x, H1, I1, rx, q1⟩ => thn (hi.run pins s1 σ H1 _ I1 q1) fun iv s2 ⟨y, H2, I2, ry, a, v, ex, g, q2⟩ => ?_)
  subst ex
  obtain rfl : u = Value.ref a := rx
  exact ⟨(g_type I2 g).1, g_getItem hu I2 g ry fun w' s3 I3 rw' => ⟨v, H2, I3, rw', q2⟩⟩
def dDIx (w : World) : DR2 := fun x y O q => ∃ p d, x = .ref p ∧ Look w O p y (some d) ∧ q d O
theorem so_dget (S : Site X B k wx) (ho : PE X o (lift B td)) (hi : PE X i (lift B ty)) (hs : NoSl i := by intro _ _; rfl) : PE X (.Subscript o i pos) (lift B (dOp (dDIx X.w) td ty)) := PE.weak (pe_gget S.u10 ho hi hs) fun σ H Q h => by
  obtain ⟨env, O, F, q, R, h, kk⟩ := h
  refine ⟨env, O, F, _, R, h, fun dx x O1 H1 F1 a1 r1 h1 => ?_⟩
  have R1 := R.call a1
  refine ⟨env, O1, F1, _, R1, h1, fun dy y O2 H2 F2 a2 r2 h2 => ?_⟩
  obtain ⟨p, d, rfl, l, h2⟩ := h2
  obtain ⟨z, g, g1, _⟩ := look_ok a2.fh a2.ow r2 l
  obtain ⟨zv, rfl, rz⟩ := g1 d rfl
  cases r1
  exact ⟨p, zv, rfl, by rw [S.hK]; exact g, kk d zv O2 H2 F2 (a1.trans a2) rz h2⟩
/-! ### k in d -/
def rGIn (K : Frag) (w : World) (neg : Bool) : R2 := fun y x H Q => ∃ a z, x = .ref a ∧ GGet K w H a y z ∧ Q (.bl (if neg then !z.isSome else z.isSome)) H
theorem op_gin (hu : X.A.units + 10 < cLine) : OpR X (compareOp .In) (rGIn X.K X.w false) := by
  intro pins s σ H y x v u Q I ry rx h
  obtain ⟨a, z, rfl, g, q⟩ := h
  cases (show u = Value.ref a from rx)
  exact g_in hu I g ry fun s' I' => ⟨.bl z.isSome, H, I', rfl, q⟩
theorem op_gnotin (hu : X.A.units + 10 < cLine) : OpR X (compareOp .NotIn) (rGIn X.K X.w true) := by
  intro pins s σ H y x v u Q I ry rx h
  obtain ⟨a, z, rfl, g, q⟩ := h
  cases (show u = Value.ref a from rx)
  exact g_notIn hu I g ry fun s' I' => ⟨.bl (!z.isSome), H, I', rfl, q⟩
def dDIn (w : World) (neg : Bool) : DR2 := fun y x O q => ∃ p r, x = .ref p ∧ Look w O p y r ∧ q (.bl (if neg then !r.isSome else r.isSome)) O
theorem sim_din {w : World} {neg : Bool} : Sim2 B (rGIn B.K w neg) (dDIn w neg) := by
  intro env O σ H F y x dy dx q Q R ry rx h kk
  obtain ⟨p, r, rfl, l, hq⟩ := h
  cases rx
  obtain ⟨z, g, g1, g2⟩ := look_ok R.fh R.ow ry l
  have e : z.isSome = r.isSome := by
    cases r with
    | none => rw [g2 rfl]; rfl
    | some d => obtain ⟨zv, rfl, _⟩ := g1 d rfl; rfl
  refine ⟨p, z, rfl, g, ?_⟩
  rw [e]
  exact kk _ _ O H F (.refl R) (.bl _) hq
theorem so_din (S : Site X B k wx) (ha : PE X i (lift B ty)) (hb : PE X o (lift B td)) (hm : behindInMarks .In o = false := by rfl) : PE X (.Compare i [.In] [o] pos) (lift B (dOp (dDIn X.w false) ty td)) := de_cmp (op_gin S.u10) (by rw [S.hK]; exact sim_din) ha hb hm
theorem so_dnotin (S : Site X B k wx) (ha : PE X i (lift B ty)) (hb : PE X o (lift B td)) (hm : behindInMarks .NotIn o = false := by rfl) : PE X (.Compare i [.NotIn] [o] pos) (lift B (dOp (dDIn X.w true) ty td)) := de_cmp (op_gnotin S.u10) (by rw [S.hK]; exact sim_din) ha hb hm
theorem st_din (S : Site X B k wx) (ha : PE X i (lift B ty)) (hb : PE X o (lift B td)) (hm : behindInMarks .In o = false := by rfl) : PT X (.Compare i [.In] [o] pos) (liftT B (dTest (dOp (dDIn X.w false) ty td))) := dt_cmp (op_gin S.u10) (by rw [S.hK]; exact sim_din) ha hb hm
theorem st_dnotin (S : Site X B k wx) (ha : PE X i (lift B ty)) (hb : PE X o (lift B td)) (hm : behindInMarks .NotIn o = false := by rfl) : PT X (.Compare i [.NotIn] [o] pos) (liftT B (dTest (dOp (dDIn X.w true) ty td))) := dt_cmp (op_gnotin S.u10) (by rw [S.hK]; exact sim_din) ha hb hm
/-! ### d[k] = v -/
def sGPut (K : Frag) (w : World) (td ty tv : TE) : TS := fun D σ H => tv σ H fun v H1 => td σ H1 fun x H2 => ty σ H2 fun y H3 => ∃ a H4, x = .ref a ∧ GPut K w H3 a y v H4 ∧ D.nx σ H4
theorem ps_gput {td ty tv : TE} (hu : X.A.units + 10 < cLine) (ho : PE X o td) (hi : PE X i ty) (hv : PE X value tv) (hs : swapsWith value (some (.Subscript o i pos')) pos.line X.env = pure false) :
    PS X (.Assign [.Subscript o i pos'] value pos) (sGPut X.K X.w td ty tv) := by
  refine ⟨fun pins s σ H D I h => ?_⟩
  refine wpAny_Assign_Subscript (thn (hv.run pins s σ H _ I h) fun r s1 ⟨v, H1, I1, rv, q1⟩ => thn (ho.run pins s1 σ H1 _ I1 q1) fun u s2 ⟨x, H2, I2, rx, q2⟩ => thn (hi.run pins s2 σ H2 _ I2 q2) fun iv s3 ⟨y, H3, I3, ry, a, H4, ex, g, q3⟩ => ?_) hs
  subst ex
  obtain rfl : u = Value.ref a := rx
  exact g_setItem hu I3 g ry rv fun s4 I4 => ⟨σ, H4, I4, q3⟩
def dputK (w : World) (v x : D) (env : Env) (E : DEnds) : DQ := fun y O3 => ∃ p o, x = .ref p ∧ Stor w O3 p y v o ∧ E.nx env (setO O3 p o)
def dDPut (w : World) (td ty tv : DTE) : DTS := fun E env O => tv env O fun v O1 => td env O1 fun x O2 => ty env O2 (dputK w v x env E)
theorem ds_dput (S : Site X B k wx) (ho : PE X o (lift B td)) (hi : PE X i (lift B ty)) (hv : PE X value (lift B tv)) (hs : swapsWith value (some (.Subscript o i pos')) pos.line X.env = pure false := by rfl) :
    PS X (.Assign [.Subscript o i pos'] value pos) (liftS B (dDPut X.w td ty tv)) := PS.weak (ps_gput S.u10 ho hi hv hs) fun E σ H h => by
  obtain ⟨env, O, F, d, R, h, m⟩ := h
  refine ⟨env, O, F, _, R, h, fun dv v O1 H1 F1 a1 r1 h1 => ?_⟩
  have R1 := R.call a1
  refine ⟨env, O1, F1, _, R1, h1, fun dx x O2 H2 F2 a2 r2 h2 => ?_⟩
  have R2 := R1.call a2
  refine ⟨env, O2, F2, _, R2, h2, fun dy y O3 H3 F3 a3 r3 h3 => ?_⟩
  have R3 := R2.call a3
  obtain ⟨p, o, rfl, l, h3⟩ := h3
  cases r2
  obtain ⟨ho, g, af⟩ := stor_ok R3 r3 ((r1.mono a2.ff).mono a3.ff) l
  exact ⟨p, _, rfl, by rw [S.hK]; exact g, m.nx env _ σ _ F3 (((a1.trans a2).trans a3).trans af) R3.sl h3⟩
/-! ### {} with tuple keys -/
def dDict0N (w : World) : DTE := fun _ O q => ∀ p, O p = none → q (.ref p) (setO O p (.dN w []))
def tDNewN (w : World) : TE := fun _ H Q => ∀ p, H p = none → Q (.ref p) (upd H p (RawN w p []))
theorem pe_dnewN : PE X (.Dict [] [] pos) (tDNewN X.w) := ⟨fun pins s σ H Q I h =>
  wpAny_Dict_empty ⟨.ref s.heap.objs.size, _, I.laid (a := s.heap.objs.size) (o := RawN X.w s.heap.objs.size []) (t' := s.toks) (fun _ _ q => Heap.get?_push_of_some _ q) (Nat.le_refl _) (n_new s.heap I.big X.w X.prog), rfl, h _ (I.hok.fresh (Nat.le_refl _))⟩⟩
theorem so_dict0N : PE X (.Dict [] [] pos) (lift B (dDict0N X.w)) := PE.weak pe_dnewN fun σ H Q h => by
  obtain ⟨env, O, F, q, R, h, kk⟩ := h
  intro p hp
  exact kk _ _ _ _ F (R.own hp (u := .dN X.w []) ⟨[], rfl, .nil⟩) (.ref p) (h p (R.free hp).1)
/-! ### d.get(k, x) -/
def GIs (K : Frag) (w : World) (H : Hp) (a : Addr) : Prop := IsD H a ∨ ∃ xs, H a = some (RawN w a xs)
theorem gis_at {pins : List (Addr × Obj)} {σ : St} {H : Hp} {s : Shared} {a : Addr} (I : Inv X pins σ H s) (d : GIs X.K X.w H a) : s.TypeIs (.ref a) "dict" ∧ ∀ b, Value.ref a = .ref b → ∃ ob, s.heap.get? b = some ob ∧ ob.dict = none := by
  rcases d with d | ⟨xs, hx⟩
  · obtain ⟨h1, h2, _⟩ := isD_at I d
    exact ⟨h1, h2⟩
  · obtain ⟨⟨h1, h2, ys, h3, o, es, ep, h4, h5, h6, h7, h8⟩, _, _⟩ := I.hok a _ hx
    exact ⟨⟨o, h4, h5.1⟩, fun b e => by cases e; exact ⟨o, h4, h5.2.1⟩⟩
def tGGet2 (K : Frag) (w : World) (td ty tx : TE) : TE := fun σ H Q => td σ H fun x H1 => ∃ a, x = .ref a ∧ GIs K w H1 a ∧ ty σ H1 fun y H2 => tx σ H2 fun z H3 => ∃ o, GGet K w H3 a y o ∧ Q (o.getD z) H3
theorem pe_gget2 {td ty tx : TE} (hu : X.A.units + 10 < cLine) (ho : PE X o td) (he : PE X e ty) (hf : PE X f tx) (m : M2 X o "get" apos e f cpos) : PE X (.Call (.Attribute o "get" apos) [e, f] [] cpos) (tGGet2 X.K X.w td ty tx) := by
  refine ⟨fun pins s σ H Q I h => ?_⟩
  refine wpAny_Call_method m.base m.few m.line PySem.F.plainAttrs_dict PySem.F.slot_dict_get PySem.F.type_dict_get (thn (ho.run pins s σ H _ I h) fun u s1 ⟨x, H1, I1, rx, a, ex, d, q1⟩ => ?_)
  subst ex
  obtain rfl : u = Value.ref a := rx
  obtain ⟨t1, t2⟩ := gis_at I1 d
  refine ⟨t1, t2, ?_⟩
  rw [m.trees]
  refine Calls.callWith_builtin rfl (Calls.evalArgs_plain (Calls.spliced_cons (thn (he.run pins s1 σ H1 _ I1 q1) fun iv s2 ⟨y, H2, I2, ry, q2⟩ =>
    Calls.spliced_cons (thn (hf.run pins s2 σ H2 _ I2 q2) fun fv s3 ⟨z, H3, I3, rz, ov, g, q3⟩ => Calls.spliced_nil ?_))))
  exact g_get2 hu I3 g ry rz fun w' s4 I4 rw' => ⟨_, H3, I4, rw', q3⟩
def IsDct (w : World) (O : Ow) (p : Addr) : Prop := (∃ kvs, O p = some (.dK kvs) ∨ ∃ u, O p = some (.fK u kvs)) ∨ ∃ kvs, O p = some (.dN w kvs)
theorem isDct_ok {K : Frag} {w : World} {O : Ow} {H F : Hp} {p : Addr} (ow : OwOk K O H F) (h : IsDct w O p) : GIs K w H p := by
  rcases h with ⟨kvs, e | ⟨u, e⟩⟩ | ⟨kvs, e⟩
  · obtain ⟨_, ho, e1, ks, rfl, rk⟩ := ow _ _ e
    exact .inl (.inl ⟨ks, .inl e1⟩)
  · obtain ⟨_, ho, e1, x, e2, e3, rk⟩ := ow _ _ e
    rw [e2] at e1
    exact .inl (.inl ⟨x.2, .inr ⟨_, e1⟩⟩)
  · obtain ⟨_, ho, e1, xs, rfl, rn⟩ := ow _ _ e
    exact .inr ⟨xs, e1⟩
def get2K2 (w : World) (p : Addr) (y : D) (q : DQ) : DQ := fun z O3 => ∃ r, Look w O3 p y r ∧ q (r.getD z) O3
def get2K (w : World) (ty tx : DTE) (env : Env) (q : DQ) : DQ := fun x O1 => ∃ p, x = .ref p ∧ IsDct w O1 p ∧ ty env O1 fun y O2 => tx env O2 (get2K2 w p y q)
def dGet2 (w : World) (td ty tx : DTE) : DTE := fun env O q => td env O (get2K w ty tx env q)
theorem so_dget2 (S : Site X B k wx) (ho : PE X o (lift B td)) (he : PE X e (lift B ty)) (hf : PE X f (lift B tx)) (hb : attributeBase o "get" X.env (eval o X.env) = eval o X.env := by rfl)
    (hfew : ((backTo cpos (starEach [e, f] X.env)).all (fun x => !x.1) && (backToKw cpos (keywordEach [] X.env)).all (fun x => x.1.isSome) && decide (([e, f] : List Expr).length + ([] : List Keyword).length + (if ([] : List Keyword).isEmpty then 0 else 1) < 30)) = true := by rfl)
    (hl : (apos.endLine == cpos.line) = true := by rfl) (ht : backTo cpos (starEach [e, f] X.env) = [(false, eval e X.env), (false, eval f X.env)] := by rfl) :
    PE X (.Call (.Attribute o "get" apos) [e, f] [] cpos) (lift B (dGet2 X.w td ty tx)) := PE.weak (pe_gget2 S.u10 ho he hf ⟨hb, hfew, hl, ht⟩) fun σ H Q h => by
  obtain ⟨env, O, F, q, R, h, kk⟩ := h
  refine ⟨env, O, F, _, R, h, fun dx x O1 H1 F1 a1 r1 h1 => ?_⟩
  obtain ⟨p, rfl, hd, h1⟩ := h1
  cases r1
  have R1 := R.call a1
  refine ⟨p, rfl, by rw [S.hK]; exact isDct_ok a1.ow hd, env, O1, F1, _, R1, h1, fun dy y O2 H2 F2 a2 r2 h2 => ?_⟩
  have R2 := R1.call a2
  refine ⟨env, O2, F2, _, R2, h2, fun dz z O3 H3 F3 a3 r3 h3 => ?_⟩
  obtain ⟨r, l, h3⟩ := h3
  obtain ⟨zo, g, g1, g2⟩ := look_ok a3.fh a3.ow (r2.mono a3.ff) l
  refine ⟨zo, by rw [S.hK]; exact g, ?_⟩
  cases r with
  | none => rw [g2 rfl]; exact kk _ _ O3 H3 F3 (a1.trans (a2.trans a3)) r3 h3
  | some d => obtain ⟨zv, rfl, rz⟩ := g1 d rfl; exact kk _ _ O3 H3 F3 (a1.trans (a2.trans a3)) rz h3
end
/-! ### steps -/
section
variable {w : World} {O : Ow} {q : DQ} {p : Addr} {y v : D} {kvs : List (Key × D)} {kvn : List (D × D)} {k : Key} {n : NestedKey} {env : Env} {E : DEnds} {td ty tv tx : DTE} {ds : List D}
theorem look_k (e : O p = some (.dK kvs)) (hk : keyD y = some k) : Look w O p y (valD kvs k) := .inl ⟨kvs, k, .inl e, hk, rfl⟩
theorem look_n (e : O p = some (.dN w kvn)) (hk : nkey (.tup ds) = some n) (h8 : n.depth ≤ 8) : Look w O p (.tup ds) (valNk kvn n) := .inr ⟨kvn, n, ds, e, rfl, hk, h8, rfl⟩
theorem i_dixK {d : D} (e : O p = some (.dK kvs)) (hk : keyD y = some k) (hv : valD kvs k = some d) (h : q d O) : dDIx w (.ref p) y O q := ⟨p, d, rfl, hv ▸ look_k e hk, h⟩
theorem i_dixN {d : D} (e : O p = some (.dN w kvn)) (hk : nkey (.tup ds) = some n) (h8 : n.depth ≤ 8) (hv : valNk kvn n = some d) (h : q d O) : dDIx w (.ref p) (.tup ds) O q := ⟨p, d, rfl, hv ▸ look_n e hk h8, h⟩
theorem i_dinK {neg : Bool} (e : O p = some (.dK kvs)) (hk : keyD y = some k) (h : q (.bl (if neg then !(valD kvs k).isSome else (valD kvs k).isSome)) O) : dDIn w neg y (.ref p) O q := ⟨p, _, rfl, look_k e hk, h⟩
theorem i_dinN {neg : Bool} (e : O p = some (.dN w kvn)) (hk : nkey (.tup ds) = some n) (h8 : n.depth ≤ 8) (h : q (.bl (if neg then !(valNk kvn n).isSome else (valNk kvn n).isSome)) O) : dDIn w neg (.tup ds) (.ref p) O q := ⟨p, _, rfl, look_n e hk h8, h⟩
theorem i_dput (h : tv env O fun v O1 => td env O1 fun x O2 => ty env O2 (dputK w v x env E)) : dDPut w td ty tv E env O := h
theorem i_dputKK (e : O p = some (.dK kvs)) (hk : keyD y = some k) (hl : kvs.length ≤ 1000000) (h : E.nx env (setO O p (.dK (putKD kvs k v)))) : dputK w v (.ref p) env E y O := ⟨p, _, rfl, .inl ⟨kvs, k, e, hk, by rw [sizeLine_eq]; omega, rfl⟩, h⟩
theorem i_dputKN (e : O p = some (.dN w kvn)) (hk : nkey (.tup ds) = some n) (h8 : n.depth ≤ 8) (hl : kvn.length ≤ 1000000) (h : E.nx env (setO O p (.dN w (putNk kvn (.tup ds) n v)))) : dputK w v (.ref p) env E (.tup ds) O := ⟨p, _, rfl, .inr ⟨kvn, n, ds, e, rfl, hk, h8, by rw [sizeLine_eq]; omega, rfl⟩, h⟩
theorem i_dict0N (h : ∀ p, O p = none → q (.ref p) (setO O p (.dN w []))) : dDict0N w env O q := h
theorem i_get2 (h : td env O (get2K w ty tx env q)) : dGet2 w td ty tx env O q := h
theorem i_get2K (hp : IsDct w O p) (h : ty env O fun y O2 => tx env O2 (get2K2 w p y q)) : get2K w ty tx env q (.ref p) O := ⟨p, rfl, hp, h⟩
theorem i_get2KK {z : D} (e : O p = some (.dK kvs)) (hk : keyD y = some k) (h : q ((valD kvs k).getD z) O) : get2K2 w p y q z O := ⟨_, look_k e hk, h⟩
theorem i_get2KN {z : D} (e : O p = some (.dN w kvn)) (hk : nkey (.tup ds) = some n) (h8 : n.depth ≤ 8) (h : q ((valNk kvn n).getD z) O) : get2K2 w p (.tup ds) q z O := ⟨_, look_n e hk h8, h⟩
end
end DL

set_option Elab.async false
set_option linter.all false
set_option maxRecDepth 100000
set_option maxHeartbeats 4000000
/-! # DP: dict comprehensions, walks over dicts, min with default, min of data -/
namespace DL
open PySem PySem.Spec PyProof.Rows L2
/-! ### {k: v for ..} -/
def dcGo (g : DTG) (tt : DTT) (tk tv : DTE) (Gd : Ow → Prop) : List D → Env → List (Key × D) → Ow → (List (Key × D) → Ow → Prop) → Prop
  | [], _, acc, O, q => Gd O ∧ q acc O
  | x :: xs, env, acc, O, q => Gd O ∧ g x env O fun env2 _ => tt env2 O fun b O3 => if b = true then tk env2 O3 fun y O4 => tv env2 O4 fun z O5 => ∃ k o2, keyD y = some k ∧ acc.length < sizeLine ∧ SubO o2 O5 ∧ dcGo g tt tk tv Gd xs env (putKD acc k z) o2 q else ∃ o2, SubO o2 O3 ∧ dcGo g tt tk tv Gd xs env acc o2 q
def dDc (wi : DTI) (g : DTG) (tt : DTT) (tk tv : DTE) (vs : List Nat) : DTE := fun env O q => wi env O fun xs Gd O1 => dcGo g tt tk tv Gd xs (wipeD env vs) [] O1 fun kvs O2 => ∀ p, O2 p = none → q (.ref p) (setO O2 p (.dK kvs))
section
variable {X : Cx} {B : Bd} {pos : Pos} {tg : Expr}
theorem lift_dc {wi : DTI} {g : TG} {dg : DTG} {tt : DTT} {tk tv : DTE} {vs : List Nat} (sg : SimG B.K vs g dg) (σ : St) (H : Hp) (Q : VK) (h : lift B (dDc wi dg tt tk tv vs) σ H Q) : tDc (liftI B wi) g (liftT B tt) (lift B tk) (lift B tv) vs σ H Q := by
  obtain ⟨env, O, F, q, R, h, kfin⟩ := h
  refine ⟨env, O, F, _, R, h, fun xs Gd O1 H1 F1 J a1 hJ h1 p hp => ?_⟩
  have R1 := R.call a1
  obtain ⟨p1, p2⟩ := R1.free hp
  have hp0 : O p ≠ none ∨ H p = none := by
    by_cases ho : O p = none
    · refine .inr ?_
      cases e : H p with
      | none => rfl
      | some o => rw [a1.kp p o e ho] at hp; cases hp
    · exact .inl ho
  refine ⟨fun i n Hc => n = xs.length - i ∧ i ≤ xs.length ∧ ∃ O2 F2 acc av, After B.K O1 H1 F1 O2 Hc F2 ∧ O2 p = none ∧ F2 p = none ∧ RKV B.K F2 acc av ∧ Hc p = some (.dK av) ∧ dcGo dg tt tk tv Gd (xs.drop i) (wipeD env vs) acc O2 fun kvs O3 => ∀ p, O3 p = none → q (.ref p) (setO O3 p (.dK kvs)),
    ⟨xs.length, by simp, Nat.zero_le _, O1, F1, [], [], (After.refl R1).upn p1 p2 (.inr hp), p1, p2, .nil, upd_same, h1⟩, ?_⟩
  rintro i n H2 ⟨rfl, hi, O2, F2, acc, av, a2, e1, e2, ra, e4, h2⟩
  by_cases hlt : i < xs.length
  · refine .inr ?_
    rw [List.drop_eq_getElem_cons hlt] at h2
    obtain ⟨gd, h2⟩ := h2
    obtain ⟨hgo, hy⟩ := (hJ O2 H2 F2 i a2.ff a2.fh a2.ow gd).1 xs[i] (List.getElem?_eq_getElem hlt)
    refine ⟨hgo, fun Hc => ∃ O2 F2 acc av, After B.K O1 H1 F1 O2 Hc F2 ∧ O2 p = none ∧ F2 p = none ∧ RKV B.K F2 acc av ∧ Hc p = some (.dK av) ∧ dcGo dg tt tk tv Gd (xs.drop (i + 1)) (wipeD env vs) acc O2 fun kvs O3 => ∀ p, O3 p = none → q (.ref p) (setO O3 p (.dK kvs)), fun H' n => ⟨xs.length - (i + 1), by omega, rfl, hlt, n⟩, fun v H3 yv => ?_⟩
    obtain ⟨F3, a3, rv⟩ := hy v H3 yv
    obtain ⟨o3, f3, l3⟩ := a3.out e1 e2 e4
    have b3 := a2.trans a3
    refine sg (wipeD env vs) O2 σ (wipe σ vs) H3 F3 v xs[i] _ _ a3.fh (((R1.sl.wiped vs).mono a2.ff).mono a3.ff) wipe_wipe rv h2 fun env' ρ' ew sl' h3 => ⟨ew, ?_⟩
    refine ⟨env', O2, F3, _, ⟨R1.af.trans b3, sl'⟩, h3, fun b O4 H4 F4 a4 h4 => ?_⟩
    obtain ⟨o4, f4, l4⟩ := a4.out o3 f3 l3
    have b4 := b3.trans a4
    cases b with
    | false =>
      rw [if_neg (by decide)] at h4
      obtain ⟨o2, sb, h4⟩ := h4
      exact iteF ⟨o2, F4, acc, av, b4.weak sb, sb.gone o4, f4, (ra.mono a3.ff).mono a4.ff, l4, h4⟩
    | true =>
      rw [if_pos rfl] at h4
      have sl4 := sl'.mono a4.ff
      refine iteT ⟨env', O4, F4, _, ⟨R1.af.trans b4, sl4⟩, h4, fun y yv O5 H5 F5 a5 ry h5 => ?_⟩
      obtain ⟨o5, f5, l5⟩ := a5.out o4 f4 l4
      have b5 := b4.trans a5
      refine ⟨env', O5, F5, _, ⟨R1.af.trans b5, sl4.mono a5.ff⟩, h5, fun z zv O6 H6 F6 a6 rz h6 => ?_⟩
      obtain ⟨o6, f6, l6⟩ := a6.out o5 f5 l5
      have r6 := (((ra.mono a3.ff).mono a4.ff).mono a5.ff).mono a6.ff
      obtain ⟨kk, o2, hk, hl, sb, h6⟩ := h6
      exact ⟨av, kk, keyD_v ry hk, l6, by rw [← r6.klen]; exact hl, o2, F6, _, _, ((b5.trans a6).weak sb).upn (sb.gone o6) f6 (.inr hp), sb.gone o6, f6, r6.kput kk rz, upd_same, h6⟩
  · have e : i = xs.length := by omega
    subst e
    rw [List.drop_length] at h2
    refine .inl ⟨(hJ O2 H2 F2 _ a2.ff a2.fh a2.ow h2.1).2 rfl, ?_⟩
    exact kfin _ _ _ H2 F2 ((a1.trans a2).mine (u := .dK acc) e2 hp0 e4 ⟨av, rfl, ra⟩) (.ref p) (h2.2 p e1)
theorem de_dc {e : Expr} {wi : DTI} {g : TG} {dg : DTG} {tt : DTT} {tk tv : DTE} {vs : List Nat} (sg : SimG B.K vs g dg) (h : PE X e (tDc (liftI B wi) g (liftT B tt) (lift B tk) (lift B tv) vs)) : PE X e (lift B (dDc wi dg tt tk tv vs)) := PE.weak h (lift_dc sg)
theorem i_dc {wi : DTI} {g : DTG} {tt : DTT} {tk tv : DTE} {vs : List Nat} {env : Env} {O : Ow} {q : DQ} (h : wi env O fun xs Gd O1 => dcGo g tt tk tv Gd xs (wipeD env vs) [] O1 fun kvs O2 => ∀ p, O2 p = none → q (.ref p) (setO O2 p (.dK kvs))) : dDc wi g tt tk tv vs env O q := h
/-- by a word over the turn -/
theorem dcGo_inv {g : DTG} {tt : DTT} {tk tv : DTE} {Gd : Ow → Prop} {xs : List D} {env : Env} {O : Ow} {q : List (Key × D) → Ow → Prop} (P : Nat → List (Key × D) → Ow → Prop) (h0 : P 0 [] O) (hg : ∀ i acc O, i ≤ xs.length → P i acc O → Gd O)
    (hs : ∀ (N : List (Key × D) → Ow → Prop) (i : Nat) (x : D) (acc : List (Key × D)) (O : Ow), xs[i]? = some x → P i acc O → (∀ acc' o, P (i + 1) acc' o → N acc' o) →
      g x env O fun env2 _ => tt env2 O fun b O3 => if b = true then tk env2 O3 fun y O4 => tv env2 O4 fun z O5 => ∃ k o2, keyD y = some k ∧ acc.length < sizeLine ∧ SubO o2 O5 ∧ N (putKD acc k z) o2 else ∃ o2, SubO o2 O3 ∧ N acc o2)
    (hd : ∀ acc O, P xs.length acc O → q acc O) : dcGo g tt tk tv Gd xs env [] O q := by
  suffices h : ∀ (ys : List D) (i : Nat) (acc : List (Key × D)) (O : Ow), xs.drop i = ys → i ≤ xs.length → P i acc O → dcGo g tt tk tv Gd ys env acc O q from h xs 0 [] O rfl (Nat.zero_le _) h0
  intro ys
  induction ys with
  | nil =>
    intro i acc O e hi p
    have : xs.length ≤ i := List.drop_eq_nil_iff.mp e
    have : i = xs.length := by omega
    subst this
    exact ⟨hg _ acc O hi p, hd acc O p⟩
  | cons y ys ih =>
    intro i acc O e hi p
    have hlt : i < xs.length := by
      rcases Nat.lt_or_ge i xs.length with h | h
      · exact h
      · rw [List.drop_eq_nil_iff.mpr h] at e; cases e
    rw [List.drop_eq_getElem_cons hlt] at e
    injection e with e1 e2
    exact ⟨hg i acc O hi p, hs _ i y acc O (by rw [← e1]; exact List.getElem?_eq_getElem hlt) p fun acc' o p' => ih (i + 1) acc' o e2 hlt p'⟩
end
/-! ### walks over a dict -/
def tLockP (t : TE) : TE := fun σ H Q => t σ H fun v H1 => ∃ d, v = .ref d ∧ ((∃ kvs, H1 d = some (.dK kvs) ∧ ∀ od, Q v (upd H1 d (.frz od (.dK kvs)))) ∨ ∃ od kvs, H1 d = some (.frz od (.dK kvs)) ∧ Q v H1)
theorem pe_lockP {X : Cx} {e : Expr} {t : TE} (h : PE X e t) : PE X e (tLockP t) := by
  refine ⟨fun pins s σ H Q I hw => ?_⟩
  refine thn (h.run pins s σ H _ I hw) fun v s1 ⟨x, H1, I1, rx, d, ex, q⟩ => ?_
  rcases q with ⟨kvs, hd, q⟩ | ⟨od, kvs, hd, q⟩
  · obtain ⟨od, I2⟩ := I1.lock hd True.intro
    exact ⟨x, _, I2, rx, q od⟩
  · exact ⟨x, H1, I1, rx, q⟩
def keyOfK : Key → D
  | .inl i => .int i
  | .inr s => .str s
theorem keyOfK_rv {K : Frag} {F : Hp} (k : Key) : RV K F (keyOfK k) (kV k) := by
  cases k with
  | inl i => exact .int i
  | inr s => exact .str s
/-- what is walked: the i-th of f kvs -/
def dwK (f : List (Key × D) → List D) (q : List D → (Ow → Prop) → Ow → Prop) : DQ := fun d O1 => ∃ p kvs, d = .ref p ∧ ((O1 p = some (.dK kvs) ∧ ∀ u, q (f kvs) (fun O' => O' p = some (.fK u kvs)) (setO O1 p (.fK u kvs))) ∨ ∃ u, O1 p = some (.fK u kvs) ∧ q (f kvs) (fun O' => O' p = some (.fK u kvs)) O1)
def diDct (f : List (Key × D) → List D) (te : DTE) : DTI := fun env O q => te env O (dwK f q)
section
variable {X : Cx} {B : Bd} {pos apos cpos tpos : Pos} {k : Nat} {wx : DW} {tg e : Expr} {te : DTE}
theorem rkv_get {K : Frag} {F : Hp} : ∀ {kvs : List (Key × D)} {ks : List (Key × V)}, RKV K F kvs ks → ∀ {i : Nat} {p : Key × D}, kvs[i]? = some p → ∃ v, ks[i]? = some (p.1, v) ∧ RV K F p.2 v
  | _, _, .nil, i, p, h => by simp at h
  | _, _, .cons (b := b) h t, 0, p, e => by
    simp at e; subst e
    exact ⟨b.2, by rw [h.1]; rfl, h.2⟩
  | _, _, .cons h t, i + 1, p, e => by simpa using rkv_get t (by simpa using e)
/-- a dict walked, whatever is made of it -/
theorem dct_sim {f : List (Key × D) → List D} {IT : Addr → Obj → List (Key × V) → It}
    (hI : ∀ (d : Addr) (od : Obj) (ks : List (Key × V)) (kvs : List (Key × D)) (O2 : Ow) (H2 F2 : Hp) (i : Nat), Same F2 H2 → OwOk B.K O2 H2 F2 → H2 d = some (.frz od (.dK ks)) → RKV B.K F2 kvs ks →
      (∀ x, (f kvs)[i]? = some x → (IT d od ks).go i H2 ∧ ∀ v H3, (IT d od ks).yld i H2 v H3 → ∃ F3, After B.K O2 H2 F2 O2 H3 F3 ∧ RV B.K F3 x v) ∧ (i = (f kvs).length → (IT d od ks).stop i H2))
    {σ : St} {H : Hp} {R : It → Hp → Prop} (hh : liftI B (diDct f te) σ H R) : tLockP (lift B te) σ H fun x H1 => ∃ d o ks, x = .ref d ∧ H1 d = some (.frz o (.dK ks)) ∧ R (IT d o ks) H1 := by
  obtain ⟨env, O, F, q, R0, hh, kk⟩ := hh
  refine ⟨env, O, F, _, R0, hh, fun d v O1 H1 F1 a1 r1 h1 => ?_⟩
  obtain ⟨p, kvs, rfl, h1⟩ := h1
  cases r1
  have it : ∀ (od : Obj) (ks : List (Key × V)) (F9 : Hp), RKV B.K F9 kvs ks → ItD B (IT p od ks) (f kvs) (fun O' => O' p = some (.fK (.frz od (.dK ks)) kvs)) F9 := fun od ks F9 rk O2 H2 F2 i s2 fh2 ow2 gd => by
    obtain ⟨_, ho, e1, x, e2, e3, rk2⟩ := ow2 _ _ gd
    rw [← e3] at e1
    exact hI p od ks kvs O2 H2 F2 i fh2 ow2 e1 (rk.mono s2)
  refine ⟨p, rfl, ?_⟩
  rcases h1 with ⟨e, h1⟩ | ⟨u, e, h1⟩
  · obtain ⟨_, ho, e1, ks, rfl, rk⟩ := a1.ow _ _ e
    refine .inl ⟨ks, e1, fun od => ⟨p, od, ks, rfl, upd_same, ?_⟩⟩
    have a2 := (R0.call a1).put e (o := .frz od (.dK ks)) (u := .fK (.frz od (.dK ks)) kvs) ⟨(od, ks), rfl, rfl, rk⟩
    exact kk _ _ _ _ F1 _ (a1.trans a2) (it od ks F1 rk) (h1 _)
  · obtain ⟨_, ho, e1, x, e2, e3, rk⟩ := a1.ow _ _ e
    subst e2
    subst e3
    exact .inr ⟨x.1, x.2, e1, ⟨p, x.1, x.2, rfl, e1, kk _ _ O1 H1 F1 _ a1 (it x.1 x.2 F1 rk) h1⟩⟩
/-- d.values() -/
theorem di_values (S : Site X B k wx) (he : PE X e (lift B te)) (hbase : attributeBase e "values" X.env (eval e X.env) = eval e X.env := by rfl) (hline : (apos.endLine == cpos.line) = true := by rfl) :
    PI X tg (.Call (.Attribute e "values" apos) [] [] cpos) (liftI B (diDct (fun kvs => kvs.map (·.2)) te)) := PI.weak (pi_values (pe_lockP he) hbase hline) fun σ H R hh => by
  refine dct_sim (IT := Itd) (fun d od ks kvs O2 H2 F2 i fh ow hd rk => ⟨fun x hx => ?_, fun hi => ⟨hd, ?_⟩⟩) hh
  · rw [List.getElem?_map] at hx
    obtain ⟨p, hp, rfl⟩ := Option.map_eq_some_iff.mp hx
    obtain ⟨v, e1, rv⟩ := rkv_get rk hp
    refine ⟨⟨hd, (List.getElem?_eq_some_iff.mp e1).1⟩, fun v' H3 hy => ?_⟩
    obtain ⟨rfl, k', e2⟩ := hy
    rw [e1] at e2
    cases e2
    exact ⟨F2, .rfl' fh ow, rv⟩
  · rw [hi, List.length_map, rk.klen]
    exact Nat.le_refl _
/-- for k, v in d.items() -/
theorem di_items {elts : List Expr} {kk : Nat} (S : Site X B k wx) (he : PE X e (lift B te)) (hbase : attributeBase e "items" X.env (eval e X.env) = eval e X.env := by rfl) (hline : (apos.endLine == cpos.line) = true := by rfl) :
    PI X (.Tuple elts kk tpos) (.Call (.Attribute e "items" apos) [] [] cpos) (liftI B (diDct (fun kvs => kvs.map fun kv => .tup [keyOfK kv.1, kv.2]) te)) := PI.weak (pi_items (pe_lockP he) hbase hline) fun σ H R hh => by
  refine dct_sim (IT := Iti) (fun d od ks kvs O2 H2 F2 i fh ow hd rk => ⟨fun x hx => ?_, fun hi => ⟨hd, ?_⟩⟩) hh
  · rw [List.getElem?_map] at hx
    obtain ⟨p, hp, rfl⟩ := Option.map_eq_some_iff.mp hx
    obtain ⟨v, e1, rv⟩ := rkv_get rk hp
    refine ⟨⟨hd, (List.getElem?_eq_some_iff.mp e1).1⟩, fun v' H3 hy => ?_⟩
    obtain ⟨T, k', v2, e2, rfl, hT, rfl⟩ := hy
    rw [e1] at e2
    cases e2
    have R2 : Rel ⟨B.K, O2, H2, F2⟩ [] O2 [] H2 F2 := ⟨.rfl' fh ow, rfl, fun j d e => by cases e⟩
    have a := R2.froz hT (.tup [kV p.1, v])
    exact ⟨_, a, .tup (SqT.of upd_same) (.cons (keyOfK_rv _) (.cons (rv.mono a.ff) .nil))⟩
  · rw [hi, List.length_map, rk.klen]
    exact Nat.le_refl _
theorem tLockP_mono {B : Bd} {te : DTE} {σ : St} {H : Hp} {R : It → Hp → Prop} (h : tLockP (lift B te) σ H fun x H1 => ∃ d o ks, x = .ref d ∧ H1 d = some (.frz o (.dK ks)) ∧ R (Itk d o ks) H1) : iKeys (tLockP (lift B te)) σ H R := by
  obtain ⟨env, O, F, q, R0, h, kk⟩ := h
  refine ⟨env, O, F, q, R0, h, fun d v O' H' F' a r hq => ?_⟩
  obtain ⟨d, ev, h⟩ := kk d v O' H' F' a r hq
  refine ⟨d, ev, ?_⟩
  rcases h with ⟨kvs, hd, q⟩ | ⟨od, kvs, hd, q⟩
  · refine .inl ⟨kvs, hd, fun od => ?_⟩
    obtain ⟨d', o, ks, e1, e2, e3⟩ := q od
    exact ⟨d', o, e1, .inl ⟨ks, e2, e3⟩⟩
  · obtain ⟨d', o, ks, e1, e2, e3⟩ := q
    exact .inr ⟨od, kvs, hd, d', o, e1, .inl ⟨ks, e2, e3⟩⟩
/-- for k in d -/
theorem di_keys (S : Site X B k wx) (he : PE X e (lift B te)) : PI X tg e (liftI B (diDct (fun kvs => kvs.map fun kv => keyOfK kv.1) te)) := PI.weak (pi_keys (pe_lockP he)) fun σ H R hh => by
  have key := dct_sim (IT := Itk) (fun d od ks kvs O2 H2 F2 i fh ow hd rk => ⟨fun x hx => ?_, fun hi => ⟨hd, ?_⟩⟩) hh
  · exact tLockP_mono key
  · rw [List.getElem?_map] at hx
    obtain ⟨p, hp, rfl⟩ := Option.map_eq_some_iff.mp hx
    obtain ⟨v, e1, rv⟩ := rkv_get rk hp
    refine ⟨⟨hd, (List.getElem?_eq_some_iff.mp e1).1⟩, fun v' H3 hy => ?_⟩
    obtain ⟨rfl, k', v2, e2, rfl⟩ := hy
    rw [e1] at e2
    cases e2
    exact ⟨F2, .rfl' fh ow, keyOfK_rv _⟩
  · rw [hi, List.length_map, rk.klen]
    exact Nat.le_refl _
theorem i_dct {f : List (Key × D) → List D} {env : Env} {O : Ow} {q : List D → (Ow → Prop) → Ow → Prop} (h : te env O (dwK f q)) : diDct f te env O q := h
theorem i_dwK {f : List (Key × D) → List D} {O : Ow} {q : List D → (Ow → Prop) → Ow → Prop} {p : Addr} {kvs : List (Key × D)} (e : O p = some (.dK kvs)) (h : ∀ u, q (f kvs) (fun O' => O' p = some (.fK u kvs)) (setO O p (.fK u kvs))) : dwK f q (.ref p) O := ⟨p, kvs, rfl, .inl ⟨e, h⟩⟩
theorem i_dwF {f : List (Key × D) → List D} {O : Ow} {q : List D → (Ow → Prop) → Ow → Prop} {p : Addr} {kvs : List (Key × D)} {u : HO} (e : O p = some (.fK u kvs)) (h : q (f kvs) (fun O' => O' p = some (.fK u kvs)) O) : dwK f q (.ref p) O := ⟨p, kvs, rfl, .inr ⟨u, e, h⟩⟩
end
/-! ### min(list, default = x) of ints -/
section
variable {X : Cx} {B : Bd} {pos p : Pos} {k : Nat} {wx : DW} {e : Expr} {kws : List Keyword} {tA tB : DTA}
def rMinDef (K : Frag) : List V → List V → Hp → VK → Prop := fun vs zs H Q => ∃ (a : Addr) (ns : List Int) (d : V), vs = [V.ref a] ∧ zs = [d] ∧ SqL K H a (ns.map V.int) ∧ (ns = [] → Q d H) ∧ ∀ n ms, ns = n :: ms → Q (.int (ms.foldl min n)) H
theorem dpAll_ints {K : Frag} {H : Hp} : ∀ ns : List Int, DpAll K H (ns.map V.int) (ns.map PyData.int)
  | [] => .nil
  | n :: ns => .cons (.int n) (dpAll_ints ns)
theorem depthAll_ints : ∀ ns : List Int, PyData.depthAll (ns.map PyData.int) = 0
  | [] => rfl
  | n :: ns => by simp [PyData.depthAll, PyData.depth, depthAll_ints ns]
theorem crk_minDef (hc : X.calm = true) (hu : X.A.units + 66 < cLine) : CallRK X (.builtin "min") [Str.ofString "default"] (rMinDef X.K) := by
  intro pins s σ H xs zs us ws Q I r rz h
  obtain ⟨a, ns, d, rfl, rfl, hs, h0, h1⟩ := h
  obtain ⟨its, rv, hl, _⟩ := I.list hs
  rw [Vals.ref1 r]
  cases rz with
  | cons rd rn =>
    cases rn
    obtain ⟨as, hr⟩ := Dp.readsAll I (ns.map PyData.int) (ns.map V.int) its (dpAll_ints ns) rv
    show wpAny _ _ (call (.builtin "min") [.ref a] [(Str.ofString "default", _)]) _ _ _
    refine PySem.W.min_list_default (I.ok.hd hc) hl.isList (by simpa using hr) ⟨fun x hx y hy => ?_, fun x hx => ?_⟩ (by rw [depthAll_ints]; omega) (fun hn h' tk hk => ?_) fun y ys i v h' tk bs hxs hv hrd hk => ?_
    · obtain ⟨i, _, rfl⟩ := List.mem_map.mp hx
      obtain ⟨j, _, rfl⟩ := List.mem_map.mp hy
      rfl
    · obtain ⟨i, _, rfl⟩ := List.mem_map.mp hx
      exact fun z => by cases z
    · exact ⟨d, H, I.kept hk, rd, h0 (List.map_eq_nil_iff.mp hn)⟩
    · cases ns with
      | nil => cases hxs
      | cons n ms =>
        cases hxs
        rw [PySem.W.minD_ints] at hrd
        cases hrd
        exact ⟨.int _, H, I.kept hk, ⟨_, rfl⟩, h1 n ms rfl⟩
def dMinDef : List D → List D → Ow → DQ → Prop := fun ds es O q => ∃ (d : D) (ns : List Int) (z : D), ds = [d] ∧ es = [z] ∧ asL O d = some (ns.map D.int) ∧ (ns = [] → q z O) ∧ ∀ n ms, ns = n :: ms → q (.int (ms.foldl min n)) O
theorem rvs_ints {K : Frag} {F : Hp} : ∀ {ns : List Int} {vs : List V}, RVs K F (ns.map D.int) vs → vs = ns.map V.int
  | [], _, h => by cases h; rfl
  | n :: ns, _, h => by
    cases h with
    | cons h1 h2 => cases h1; rw [rvs_ints h2]; rfl
def dCKw (r : List D → List D → Ow → DQ → Prop) (ta tb : DTA) : DTE := fun env O q => ta env O fun ds O1 => tb env O1 fun es O2 => r ds es O2 q
theorem so_minDef (S : Site X B k wx) (hc : X.calm = true) (hg : Gl X "min") (hm : X.mg "min" = none) (ha : PA X [e] (liftA B tA)) (hk : PK X kws (liftA B tB))
    (he : backTo pos (starEach [e] X.env) = (false, eval e X.env) :: backTo pos (starEach [] X.env) := by rfl) (hpl : (backTo pos (starEach [e] X.env)).any (·.1) = false := by rfl)
    (hall : (backToKw pos (keywordEach kws X.env)).all (·.1.isSome) = true := by rfl) (hnone : (backToKw pos (keywordEach kws X.env)).any (·.1.isNone) = false := by rfl) (hks : (backToKw pos (keywordEach kws X.env)).filterMap (·.1) = [Str.ofString "default"] := by rfl) :
    PE X (.Call (.Name "min" p) [e] kws pos) (lift B (dCKw dMinDef tA tB)) := PE.weak (pe_callBK (crk_minDef hc S.u66) hg hm bt_min ha hk (by decide) (by decide) he hpl hall hnone hks) fun σ H Q h => by
  obtain ⟨env, O, F, q, R, h, kk⟩ := h
  refine ⟨env, O, F, _, R, h, fun ds vs O1 H1 F1 a1 r1 h1 => ?_⟩
  have R1 := R.call a1
  refine ⟨env, O1, F1, _, R1, h1, fun es ws O2 H2 F2 a2 r2 h2 => ?_⟩
  obtain ⟨d, ns, z, rfl, rfl, e1, h3, h4⟩ := h2
  obtain ⟨v, rfl, rd⟩ := r1.one
  obtain ⟨zv, rfl, rz⟩ := r2.one
  obtain ⟨a, xs, rfl, hs, hr⟩ := asL_sq a2.fh a2.ow (rd.mono a2.ff) e1
  have := rvs_ints hr
  subst this
  refine ⟨a, ns, zv, rfl, rfl, by rw [S.hK]; exact hs, fun e => kk _ _ O2 H2 F2 (a1.trans a2) rz (h3 e), fun n ms e => kk _ _ O2 H2 F2 (a1.trans a2) (.int _) (h4 n ms e)⟩
theorem i_ckw {r : List D → List D → Ow → DQ → Prop} {env : Env} {O : Ow} {q : DQ} (h : tA env O fun ds O1 => tB env O1 fun es O2 => r ds es O2 q) : dCKw r tA tB env O q := h
theorem i_minDef {O : Ow} {q : DQ} {d z : D} {ns : List Int} (e : asL O d = some (ns.map D.int)) (h0 : ns = [] → q z O) (h1 : ∀ n ms, ns = n :: ms → q (.int (ms.foldl min n)) O) : dMinDef [d] [z] O q := ⟨d, ns, z, rfl, rfl, e, h0, h1⟩
end
end DL

set_option Elab.async false
set_option linter.all false
set_option maxRecDepth 100000
set_option maxHeartbeats 4000000
/-! # DQ: sorted(list, key = f), f a def that gives the first item of a tuple -/
namespace DL
open PySem PySem.Spec PyProof.Rows L2
/-- a def whose body is return x[0] -/
structure Key0 (K : Frag) (f : Addr) : Prop where
  ex : ∃ (x qn : Str) (st : Stmt) (y : Str) (p1 p2 p3 p4 : Pos) (j : Nat) (fd : FuncData), FunD K x qn (defArgs st) (defBody st) (defScope st) [] [] f fd ∧ FnScope [y] [y] (defScope st) ∧ defBody st = [.Return (some (.Subscript (.Name y p1) (.Constant (.int 0) j p2) p3)) p4] ∧ Bd0 x qn st [y] ∧
    (defScope st).names.lookup y = some .local ∧ (y == ("__debug__" : Str)) = false
theorem key0_E {K : Frag} {x qn : Str} {st : Stmt} {y : Str} {p1 p2 p3 p4 : Pos} {j : Nat} {f : Addr} (F : HasD K x qn st [] [] f) (S : FnScope [y] [y] (defScope st)) (hb : defBody st = [.Return (some (.Subscript (.Name y p1) (.Constant (.int 0) j p2) p3)) p4]) (b : Bd0 x qn st [y])
    (hl : (defScope st).names.lookup y = some .local) (hd : (y == ("__debug__" : Str)) = false) : Key0 K f := by
  obtain ⟨fd, F⟩ := F
  exact ⟨x, qn, st, y, p1, p2, p3, p4, j, fd, F, S, hb, b, hl, hd⟩
theorem key0_run {P : Program} {w : World} {K : Frag} {f a : Addr} {A : Around} {s : Shared} {its : List Value} {i : Int} {t : Tok} (k : Key0 K f) (hK : K.In s.heap) (hlim : s.heap.NoLimit) (hdp : A.depth < recursionLimit) (ht : IsTup s.heap a (Value.int i t :: its).toArray) :
    wpAny (model P w) A (call (.ref f) [.ref a]) (PySem.W.KeyPure (.int i) s) (fun _ _ => False) s := by
  obtain ⟨x, qn, st, y, p1, p2, p3, p4, j, fd, F, S, hb, bd, hl, hdb⟩ := k.ex
  have hbn := FunD.b0 F bd
  obtain ⟨_, _, _, _, _, _, _, cdv, _, _, rfl, lk, hcd, _, _⟩ := F.ex
  refine wpAny_call ?_
  have bnd := hbn s [.ref a] hK rfl
  have hkind : ∀ z ∈ [y].zip ([Value.ref a] ++ []), (defScope st).names.lookup z.1 = some .local ∨ ((defScope st).names.lookup z.1 = some .cell ∧ ((cellsFrom (s.heap.objs.size + 1) (defScope st).names []).lookup z.1).isSome = true) := fun z hz => by
    simp only [List.append_nil, List.zip_cons_cons, List.zip_nil_right, List.mem_cons, List.mem_nil_iff, or_false] at hz
    subst hz
    exact .inl hl
  refine codeAny_call_function hdp (hK _ _ lk) rfl S.co S.gen rfl (PySem.W.codeRec_of hK hcd) (bnd _ _ _ _ (wpAny_newFunctionEnv_cells S.kind hkind ?_))
  rintro env rfl s1 inn
  refine ⟨hlim.keeps inn.toInCall.keep, codeAny_func ?_⟩
  rw [hb]
  refine wpAny_execs_cons ?_
  have hloc : ∀ e : PySem.Env, e.kindOf y = some .local → bindL e.kindOf ([y].zip ([Value.ref a] ++ [])) (fun _ => none) y = some (.ref a) := fun e he => by
    simp only [List.append_nil, List.zip_cons_cons, List.zip_nil_right, bindL, he, if_true]
  refine wpAny_Return_some (Subscript_ (wpAny_Name (wpAny_loadName_local S.kind hl inn.toInCall.ns (hloc _ hl) (wpAny_Constant_int ?_)) hdb))
  obtain ⟨h1, tk, rfl, hk⟩ := inn.toInCall.done
  have ht1 : IsTup h1 a (Value.int i t :: its).toArray := ht.keeps hk
  refine subscriptTail_builtinR (x := .int i t) ht1.typeIs slot_tuple_getitem.lookup (getItem_tuple (j := 0) ht1 (by decide) (by decide) (by simp [seqIndex?]) rfl ⟨rfl, ?_⟩)
  exact ⟨h1, _, rfl, hk, .int i t⟩
/-! ### sorted(list, key = f) -/
section
variable {X : Cx} {B : Bd} {pos p : Pos} {k : Nat} {wx : DW} {e : Expr} {kws : List Keyword} {tA tB : DTA}
/-- the first item of a tuple -/
def kI : D → Int
  | .tup (.int i :: _) => i
  | _ => 0
abbrev VD := V × D
def leK (b : VD) : PyData := .int (kI b.2)
def rSortK (K : Frag) (f : Addr) : List V → List V → Hp → VK → Prop := fun vs zs H Q => ∃ (a : Addr) (bs : List VD), vs = [.ref a] ∧ zs = [.ref f] ∧ SqL K H a (bs.map (·.1)) ∧ (∀ b ∈ bs, ∃ p xs, b.1 = .ref p ∧ SqT K H p (.int (kI b.2) :: xs)) ∧
  ∀ q, H q = none → Q (.ref q) (upd H q (.lst ((bs.mergeSort (PySem.W.dataLe false leK)).map (·.1))))
theorem alike_ints (ns : List Int) : PySem.W.AllAlike (ns.map PyData.int) := by
  intro x hx y hy
  obtain ⟨i, _, rfl⟩ := List.mem_map.mp hx
  obtain ⟨j, _, rfl⟩ := List.mem_map.mp hy
  rfl
theorem sortable_ints (ns : List Int) : PySem.W.Sortable (ns.map PyData.int) := by
  refine .inr fun d hd => ?_
  obtain ⟨i, _, rfl⟩ := List.mem_map.mp hd
  simp
theorem crk_sortK {f : Addr} (hr : Room 3 X.A) (kf : Key0 X.K f) : CallRK X (.builtin "sorted") [Str.ofString "key"] (rSortK X.K f) := by
  intro pins s σ H xs zs us ws Q I r rz h
  obtain ⟨a, bs, rfl, rfl, hs, hb, q⟩ := h
  obtain ⟨u, rfl, ru⟩ := vals1 r
  cases ru
  obtain ⟨w1, rfl, rw1⟩ := vals1 rz
  cases rw1
  obtain ⟨its, rv, pl, hz⟩ := I.list hs
  have e1 := vals_eachIs rv
  have hlen : bs.length ≤ sizeLine := by simpa using hz
  have em : bs.map leK = (bs.map fun b => kI b.2).map PyData.int := by rw [List.map_map]; rfl
  have hun := hr.un
  have hdp := hr.dp
  have hlim : s.heap.NoLimit := I.mod.nolimit.keeps I.bk
  show wpAny _ _ (call (.builtin "sorted") [.ref a] [(Str.ofString "key", .ref f)]) _ _ _
  refine PySem.W.sorted_key_data (bs := bs) (b := false) (f := .ref f) (R := fun u (b : VD) => RelV b.1 u) (vs := its) leK pl.isList e1 (by rw [em]; exact alike_ints _) (by rw [em]; exact sortable_ints _) hlen (fun b _ => by simp only [leK, PyData.depth]; omega) (ksk_s1 _ _) (fun x => ksk_l1 _ _) (fun x => ksk_t1 _ _) (fun v b hR hm h tk keep => ?_) fun out c h' tk keep fresh hat hol eo => ?_
  · obtain ⟨p, xs, e, ht⟩ := hb b hm
    rw [e] at hR
    cases hR
    obtain ⟨its2, rv2, ht2, _⟩ := I.tuple ht
    cases rv2 with
    | cons h1 h2 =>
      obtain ⟨t, rfl⟩ := h1
      exact key0_run kf (I.kIn.keeps keep) (hlim.keeps keep) (show X.A.depth < _ by omega) (ht2.keeps keep)
  · refine ⟨.ref (s.heap.objs.size + 1), _, I.laid (t' := tk) (a := s.heap.objs.size + 1) (o := .lst ((bs.mergeSort (PySem.W.dataLe false leK)).map (·.1))) keep (Nat.le_succ _) ?_, rfl, q _ (I.hok.fresh (Nat.le_succ _))⟩
    exact ⟨by simpa using hlen, out, c, eachIs_vals eo, hat⟩
abbrev srtK (ds : List D) : List D := ds.mergeSort (PySem.W.dataLe false fun d => PyData.int (kI d))
def dSortK (f : Addr) : List D → List D → Ow → DQ → Prop := fun ds es O q => ∃ (d : D) (xs : List D), ds = [d] ∧ es = [.ref f] ∧ asL O d = some xs ∧ (∀ x ∈ xs, ∃ i r, x = .tup (.int i :: r)) ∧ q (.lst (srtK xs)) O
theorem so_sortK {f : Addr} (S : Site X B k wx) (hk3 : 3 ≤ k) (kf : Key0 X.K f) (hg : Gl X "sorted") (hm : X.mg "sorted" = none) (ha : PA X [e] (liftA B tA)) (hk : PK X kws (liftA B tB))
    (he : backTo pos (starEach [e] X.env) = (false, eval e X.env) :: backTo pos (starEach [] X.env) := by rfl) (hpl : (backTo pos (starEach [e] X.env)).any (·.1) = false := by rfl)
    (hall : (backToKw pos (keywordEach kws X.env)).all (·.1.isSome) = true := by rfl) (hnone : (backToKw pos (keywordEach kws X.env)).any (·.1.isNone) = false := by rfl) (hks : (backToKw pos (keywordEach kws X.env)).filterMap (·.1) = [Str.ofString "key"] := by rfl) :
    PE X (.Call (.Name "sorted" p) [e] kws pos) (lift B (dCKw (dSortK f) tA tB)) := PE.weak (pe_callBK (crk_sortK (S.rm.mono hk3) kf) hg hm bt_sorted ha hk (by decide) (by decide) he hpl hall hnone hks) fun σ H Q h => by
  obtain ⟨env, O, F, q, R, h, kk⟩ := h
  refine ⟨env, O, F, _, R, h, fun ds vs O1 H1 F1 a1 r1 h1 => ?_⟩
  have R1 := R.call a1
  refine ⟨env, O1, F1, _, R1, h1, fun es ws O2 H2 F2 a2 r2 h2 => ?_⟩
  have R2 := R1.call a2
  obtain ⟨d, xs, rfl, rfl, e1, h3, h4⟩ := h2
  obtain ⟨v, rfl, rd⟩ := r1.one
  obtain ⟨zv, rfl, rz⟩ := r2.one
  cases rz
  obtain ⟨a, ys, rfl, hs, hr⟩ := asL_sq a2.fh a2.ow (rd.mono a2.ff) e1
  obtain ⟨bs, rfl, rfl, hb⟩ := zipRV hr
  refine ⟨a, bs, rfl, rfl, by rw [S.hK]; exact hs, fun b hm => ?_, ?_⟩
  · obtain ⟨i, r, e⟩ := h3 b.2 (List.mem_map.mpr ⟨b, hm, rfl⟩)
    have rb := hb b hm
    rw [e] at rb
    cases hbv : b.1 with
    | ref p0 =>
      rw [hbv] at rb
      cases rb with
      | tup h1 h2 =>
        cases h2 with
        | cons h5 h6 =>
          cases h5
          exact ⟨_, _, rfl, by rw [S.hK, e]; exact same_tup a2.fh h1⟩
    | _ => rw [hbv] at rb; cases rb
  · have hmap : (bs.mergeSort (PySem.W.dataLe false leK)).map (·.2) = srtK (bs.map (·.2)) := List.map_mergeSort fun _ _ _ _ => rfl
    refine fresh_lst (ds := srtK (bs.map (·.2))) R2 ?_ h4 fun d v O' H' F' a => kk d v O' H' F' ((a1.trans a2).trans a)
    rw [← hmap]
    exact rvs_of_zip _ fun b hm => hb b (List.mem_mergeSort.mp hm)
theorem i_sortK {f : Addr} {O : Ow} {q : DQ} {d : D} {xs : List D} (e : asL O d = some xs) (h : ∀ x ∈ xs, ∃ i r, x = .tup (.int i :: r)) (hq : q (.lst (srtK xs)) O) : dSortK f [d] [.ref f] O q := ⟨d, xs, rfl, rfl, e, h, hq⟩
/-- by first items -/
theorem srtK_eq (ds : List D) : srtK ds = ds.mergeSort fun a b => decide (kI a ≤ kI b) := by
  unfold srtK
  rw [PySem.W.dataLe_int]
end
end DL

set_option Elab.async false
set_option linter.all false
set_option maxRecDepth 100000
set_option maxHeartbeats 4000000
/-! # DR: own lists, nested in one another, become data at once -/
namespace DL
open PySem PySem.Spec PyProof.Rows L2
/-- the own lists at the addresses of A as data, n levels deep -/
def dv (A : Addr → Bool) (O : Ow) : Nat → D → D
  | 0, d => d
  | n + 1, .ref p => if A p then (match O p with | some (.lst ds) => .lst (ds.map (dv A O n)) | _ => .ref p) else .ref p
  | n + 1, .tup ds => .tup (ds.map (dv A O n))
  | n + 1, .lst ds => .lst (ds.map (dv A O n))
  | _ + 1, d => d
def cutA (A : Addr → Bool) (O : Ow) : Ow := fun a => if A a then none else O a
def icedF (A : Addr → Bool) (H F : Hp) : Hp := fun a => if A a then H a else F a
section
variable {K : Frag} {O : Ow} {H F : Hp} {A : Addr → Bool}
theorem iced_same (ow : OwOk K O H F) (hA : ∀ a, A a = true → ∃ ds, O a = some (.lst ds)) : Same F (icedF A H F) := fun b u e => by
  unfold icedF
  by_cases h : A b = true
  · obtain ⟨ds, hd⟩ := hA b h
    obtain ⟨h1, _⟩ := ow b _ hd
    rw [h1] at e; cases e
  · rw [if_neg h]; exact e
theorem rvs_map {F' : Hp} {f : D → D} (hf : ∀ d v, RV K F d v → RV K F' (f d) v) : ∀ {ds : List D} {vs : List V}, RVs K F ds vs → RVs K F' (ds.map f) vs
  | _, _, .nil => .nil
  | _, _, .cons h t => .cons (hf _ _ h) (rvs_map hf t)
theorem dv_rv (fh : Same F H) (ow : OwOk K O H F) (hA : ∀ a, A a = true → ∃ ds, O a = some (.lst ds)) : ∀ (n : Nat) (d : D) (v : V), RV K F d v → RV K (icedF A H F) (dv A O n d) v
  | 0, d, v, r => by simp only [dv]; exact r.mono (iced_same ow hA)
  | n + 1, d, v, r => by
    have s := iced_same ow hA
    have ih := dv_rv fh ow hA n
    cases d with
    | ref p =>
      cases r
      simp only [dv]
      by_cases h : A p = true
      · rw [if_pos h]
        obtain ⟨ds, hd⟩ := hA p h
        rw [hd]
        obtain ⟨h1, ho, e1, vs, rfl, rr⟩ := ow p _ hd
        refine .lst (SqL.of ?_) (rvs_map ih rr)
        unfold icedF
        rw [if_pos h]
        exact e1
      · rw [if_neg h]; exact .ref p
    | tup ds =>
      simp only [dv]
      cases r with
      | tup h1 h2 => exact .tup (same_tup s h1) (rvs_map ih h2)
    | lst ds =>
      simp only [dv]
      cases r with
      | lst h1 h2 => exact .lst (s.seq h1) (rvs_map ih h2)
    | non => exact r.mono s
    | bl b => exact r.mono s
    | int i => exact r.mono s
    | str x => exact r.mono s
    | ty x => exact r.mono s
    | ins C ns ds => exact r.mono s
theorem iced_after (fh : Same F H) (ow : OwOk K O H F) (hA : ∀ a, A a = true → ∃ ds, O a = some (.lst ds)) : After K O H F (cutA A O) H (icedF A H F) := by
  have s := iced_same ow hA
  refine ⟨s, fun b u e => ?_, fun _ _ e _ => e, fun a _ ho h0 => ?_, fun q u e => ?_, fun q u e => ?_⟩
  · unfold icedF at e
    split at e
    · exact e
    · exact fh b u e
  · unfold icedF
    rw [if_neg fun h => by obtain ⟨ds, hd⟩ := hA a h; rw [hd] at ho; cases ho]
    exact h0
  · unfold cutA at e
    split at e
    · cases e
    · rename_i h
      obtain ⟨h1, ho, h3, h4⟩ := ow q u e
      exact ⟨by unfold icedF; rw [if_neg h]; exact h1, ho, h3, h4.mono s⟩
  · unfold cutA at e
    split at e
    · cases e
    · exact .inl (by rw [e]; simp)
end
def iceA (q : DQ) : DQ := fun d O1 => ∃ (A : Addr → Bool) (n : Nat), (∀ a, A a = true → ∃ ds, O1 a = some (.lst ds)) ∧ q (dv A O1 n d) (cutA A O1)
def dIceA (t : DTE) : DTE := fun env O q => t env O (iceA q)
theorem de_iceA {X : Cx} {B : Bd} {e : Expr} {t : DTE} (h : PE X e (lift B t)) : PE X e (lift B (dIceA t)) := PE.weak h fun σ H Q hh => by
  obtain ⟨env, O, F, q, R, h, kk⟩ := hh
  refine ⟨env, O, F, _, R, h, fun d v O1 H1 F1 a1 r1 h1 => ?_⟩
  obtain ⟨A, n, hA, h1⟩ := h1
  exact kk _ _ _ _ _ (a1.trans (iced_after a1.fh a1.ow hA)) (dv_rv a1.fh a1.ow hA n d v r1) h1
theorem i_iceA {t : DTE} {env : Env} {O : Ow} {q : DQ} (h : t env O (iceA q)) : dIceA t env O q := h
/-- the addresses of a list -/
def inA (ps : List Addr) (a : Addr) : Bool := ps.contains a
theorem i_iceB {O : Ow} {q : DQ} {d : D} (ps : List Addr) (n : Nat) (h : ∀ a ∈ ps, ∃ ds, O a = some (.lst ds)) (hq : q (dv (inA ps) O n d) (cutA (inA ps) O)) : iceA q d O :=
  ⟨inA ps, n, fun a ha => h a (by simpa [inA] using ha), hq⟩
theorem cutA_sub {A : Addr → Bool} {O : Ow} : SubO (cutA A O) O := fun a o e => by
  unfold cutA at e
  split at e
  · cases e
  · exact e
theorem cutA_ne {ps : List Addr} {O : Ow} {a : Addr} (h : a ∉ ps) : cutA (inA ps) O a = O a := by
  unfold cutA inA
  rw [if_neg]
  simpa using h
mutual
/-- data without addresses stays -/
theorem dv_pd {A : Addr → Bool} {O : Ow} : ∀ (n : Nat) {d : D}, pd d = true → dv A O n d = d
  | 0, d, _ => by simp only [dv]
  | n + 1, .non, _ => by simp only [dv]
  | n + 1, .bl b, _ => by simp only [dv]
  | n + 1, .int b, _ => by simp only [dv]
  | n + 1, .str b, _ => by simp only [dv]
  | n + 1, .lst ds, h => by
    simp only [dv]
    rw [dvs_pd n (by simpa [pd] using h)]
  | n + 1, .tup ds, h => by
    simp only [dv]
    rw [dvs_pd n (by simpa [pd] using h)]
  | n + 1, .ref _, h => by simp [pd] at h
  | n + 1, .ty _, h => by simp [pd] at h
  | n + 1, .ins _ _ _, h => by simp [pd] at h
theorem dvs_pd {A : Addr → Bool} {O : Ow} : ∀ (n : Nat) {ds : List D}, pds ds = true → ds.map (dv A O n) = ds
  | n, [], _ => rfl
  | n, d :: ds, h => by
    simp only [pds, Bool.and_eq_true] at h
    rw [List.map_cons, dv_pd n h.1, dvs_pd n h.2]
end
end DL

set_option Elab.async false
set_option linter.all false
set_option maxRecDepth 100000
set_option maxHeartbeats 4000000
/-! # DS: what is owned beside a bag; getters with a body; small words -/
namespace DL
open PySem PySem.Spec PyProof.Rows L2
theorem del_set {O : Ow} {p : Addr} {o : OD} : delO (setO O p o) p = delO O p := by
  funext b; unfold delO setO; split <;> rfl
theorem del_set_ne {O : Ow} {p r : Addr} {o : OD} (h : r ≠ p) : delO (setO O r o) p = setO (delO O p) r o := by
  funext b; unfold delO setO
  by_cases h1 : b = p
  · simp only [h1, if_true, if_neg (Ne.symm h)]
  · simp only [if_neg h1]
/-- what is owned beside p stays -/
def Ex (p : Addr) (O O' : Ow) : Prop := SubO (delO O p) (delO O' p)
section
variable {p r : Addr} {O O' O2 : Ow} {o : OD} {m m' : Int}
theorem Ex.refl : Ex p O O := SubO.refl _
theorem Ex.trans (h : Ex p O O') (h' : Ex p O' O2) : Ex p O O2 := SubO.trans h h'
theorem Ex.at (h : Ex p O O') (hr : r ≠ p) (e : O r = some o) : O' r = some o := by
  have := h r o (by rw [delO_ne hr]; exact e)
  rw [delO_ne hr] at this
  exact this
theorem Ex.set (h : Ex p O O') : Ex p O (setO O' p o) := by
  unfold Ex
  rw [del_set]
  exact h
/-- a thing that the first moment did not know -/
theorem Ex.mine (h : Ex p O O') (h0 : O r = none) : Ex p O (setO O' r o) := fun a x e => by
  have h1 : a ≠ p := fun z => by unfold delO at e; rw [if_pos z] at e; cases e
  have h2 : a ≠ r := fun z => by rw [delO_ne h1, z, h0] at e; cases e
  have := h a x e
  rw [delO_ne h1] at this ⊢
  rw [setO_ne h2]
  exact this
theorem Ex.fresh (h : Ex p O O') (hr : r ≠ p) (h0 : O' r = none) : Ex p O (setO O' r o) := by
  refine h.mine ?_
  cases e : O r with
  | none => rfl
  | some x => rw [h.at hr e] at h0; cases h0
theorem Ex.gone (h : Ex p O O') (hr : r ≠ p) (h0 : O' r = none) : O r = none := by
  cases e : O r with
  | none => rfl
  | some x => rw [h.at hr e] at h0; cases h0
theorem Ex.sub (h : Ex p O O') (s : SubO (delO O p) (delO O2 p)) (hs : SubO O2 O') : Ex p O O2 := s
theorem Ex.del (h : Ex p O O') (h0 : O r = none) : Ex p O (delO O' r) := fun a x e => by
  have h1 : a ≠ p := fun z => by unfold delO at e; rw [if_pos z] at e; cases e
  have h2 : a ≠ r := fun z => by rw [delO_ne h1, z, h0] at e; cases e
  have := h a x e
  rw [delO_ne h1] at this ⊢
  rw [delO_ne h2]
  exact this
theorem Ex.cut {A : Addr → Bool} (h : Ex p O O') (h0 : ∀ a, A a = true → O a = Option.none) : Ex p O (cutA A O') := fun a x e => by
  have h1 : a ≠ p := fun z => by unfold delO at e; rw [if_pos z] at e; cases e
  have := h a x e
  rw [delO_ne h1] at this e ⊢
  unfold cutA
  rw [if_neg]
  · exact this
  · intro z
    rw [h0 a z] at e
    cases e
theorem Ex.weak (h : Ex p O O') (h2 : SubO O2 O) : Ex p O2 O' := fun a x e => by
  have h1 : a ≠ p := fun z => by unfold delO at e; rw [if_pos z] at e; cases e
  refine h a x ?_
  rw [delO_ne h1] at e ⊢
  exact h2 a x e
theorem Bag.off (hb : Bag O p m) (hr : O r = Option.none) : r ≠ p := fun z => by
  obtain ⟨_, _, _, e, _⟩ := hb
  rw [z, e] at hr; cases hr
theorem Bag.put (hb : Bag O p m) (hr : r ≠ p) : Bag (setO O r o) p m := by
  obtain ⟨a, b, c, e, h⟩ := hb
  exact ⟨a, b, c, by rw [setO_ne (Ne.symm hr)]; exact e, h⟩
theorem Bag.del (hb : Bag O p m) (hr : r ≠ p) : Bag (delO O r) p m := by
  obtain ⟨a, b, c, e, h⟩ := hb
  exact ⟨a, b, c, by rw [delO_ne (Ne.symm hr)]; exact e, h⟩
theorem Bag.cut {A : Addr → Bool} (hb : Bag O p m) (hr : A p = false) : Bag (cutA A O) p m := by
  obtain ⟨a, b, c, e, h⟩ := hb
  exact ⟨a, b, c, by unfold cutA; rw [if_neg (by rw [hr]; simp)]; exact e, h⟩
end
theorem joinO {te : DTE} {env : Env} {O : Ow} {q : DQ} (V : D → Ow → Prop) (hk : ∀ d o, V d o → q d o) (h : ∀ q' : DQ, (∀ d o, V d o → q' d o) → te env O q') : te env O q := h q hk
/-! ### a getter with a body of its own -/
section
variable {X : Cx} {B : Bd} {pos : Pos} {k j n : Nat} {wx : DW} {e : Expr} {C g pa : Addr} {f x qn : Str} {ta : DTE} {st : Stmt} {kws : List (Str × V)} {ps : List Str} {fn : DF}
def propK (C : Addr) (fn : DF) (q : DQ) : DQ := fun d O1 => ∃ fs, InsAt C O1 d fs ∧ fn [d] O1 q fun _ _ _ => False
def dProp (C : Addr) (fn : DF) (ta : DTE) : DTE := fun env O q => ta env O (propK C fn q)
theorem getpropG {pins : List (Addr × Obj)} {σ : St} {H : Hp} {s : Shared} {Q : VK} {b : Bool} {E' : Value → Shared → Prop} {a dx : Addr} {fs : List (Str × V)} {fd : FuncData} {sp : Sp} (I : Inv X pins σ H s) (ea : H a = some (.ins C dx fs)) (c : Cls X.K C) (hp : PropOf X.K C f pa g)
    (F : FnG X.prog X.w X.K X.mg X.base (L2.CX X.prog X.w) j g fd ps sp) (hgd : X.A.guards = some []) (hr : Room (j + 1) X.A) (hb : Binds X.K fd ps []) (h : sp [.ref a] H Q (fun _ _ _ => False)) :
    wpAny (model X.prog X.w) X.A (getAttr (.ref a) f b) (EP X pins σ Q) E' s := by
  obtain ⟨mA, O, _, _, _, _⟩ := ins_get I.hok ea
  obtain ⟨od, J, _⟩ := O.look
  obtain ⟨rest, hrec⟩ := hp.rec_
  have I1 := I.tok (s.toks + 1)
  have hc : (PySem.W.clsIn X.K C).isSome = true := by
    obtain ⟨cd, hc, _⟩ := PySem.W.any_some c.hd
    rw [hc]
    rfl
  refine PySem.W.get_bind I.kIn J (PySem.W.plainGet_of (c.get f)).1 (PySem.W.findObj_data hc hp.at_ hp.get hp.tak) (PySem.W.plainGet_of (c.get f)).2 (wpAny_call (PySem.W.prop_get (s := { s with toks := s.toks + 1 }) I.kIn hrec ?_))
  have hl : ([Value.ref a] ++ []).length = ps.length := by rw [← F.len _ _ _ _ h]; rfl
  refine codeAny_mono (F.run X.A.in1 X.stack { s with toks := s.toks + 1 } H ⟨[.ref a], []⟩ [.ref a] [.ref a] Q (fun _ _ _ => False) hgd hr.in1 I1.env0.in1 (by simpa using hb _ [.ref a] I1.kIn hl) (show Vals [V.ref a] [Value.ref a] from .cons rfl .nil) h) fun r s' hq => ?_
  match r, hq with
  | .error er, hq =>
    obtain ⟨_, _, _, _, _, _, _, _, _, _, _, _, z⟩ := hq
    exact z.elim
  | .ok (.ret u), hq =>
    obtain ⟨v, H', I3, rv, q3⟩ := I1.after hq
    show wpAny _ _ (handedOut u) _ _ _
    rw [PySem.W.handedOut_of (handed_of rv)]
    exact wpAny_pure ⟨v, H', I3, rv, q3⟩
  | .ok .next, hq => exact False.elim hq
  | .ok .brk, hq => exact False.elim hq
  | .ok .cont, hq => exact False.elim hq
theorem so_propG (S : Site X B k wx) (c : Cls X.K C) (hp : PropOf X.K C f pa g) (Cl : Fn X.prog X.w X.K X.mg X.base x qn st [] kws ps 1 j fn g) (hj : j + 1 ≤ k) (hb : Bd0 x qn st ps) (he : PE X e (lift B ta)) (hab : attributeBase e f X.env (eval e X.env) = eval e X.env := by rfl) :
    PE X (.Attribute e f pos) (lift B (dProp C fn ta)) := by
  obtain ⟨fd, G, F⟩ := Cl.ex
  refine ⟨fun pins s σ H Q I h => ?_⟩
  obtain ⟨env, O, F0, q, R, h, kk⟩ := h
  refine attr_of hab (thn (he.run pins s σ H (fun v H1 => ∃ a dx gs, v = .ref a ∧ H1 a = some (.ins C dx gs) ∧ spD B.K 1 fn [.ref a] H1 Q (fun _ _ _ => False)) I ⟨env, O, F0, _, R, h, ?_⟩) fun u s1 ⟨x, H1, I1, rx, a, dx, gs, ex, ea, q1⟩ => ?_)
  · intro d v O1 H1 F1 a1 r1 ⟨fs, h1, h2⟩
    obtain ⟨a, dx, gs, rfl, e3, rk⟩ := h1.ok a1.fh a1.ow r1
    exact ⟨a, dx, gs, rfl, e3, F1, O1, [d], _, _, a1.fh, a1.ow, .cons r1 .nil, rfl, h2, fun d v O' H' F' a' r' hq => kk d v O' H' F' (a1.trans a') r' hq, fun _ _ _ _ _ _ _ _ z => z⟩
  subst ex
  obtain rfl : u = Value.ref a := rx
  exact getpropG I1 ea c hp G S.gd (S.rm.mono hj) (FunD.b0 F hb) (S.hK ▸ q1)
theorem i_prop {env : Env} {O : Ow} {q : DQ} (h : ta env O (propK C fn q)) : dProp C fn ta env O q := h
theorem i_propI {O : Ow} {q : DQ} {ns : List Str} {zs : List D} (h : fn [.ins C ns zs] O q fun _ _ _ => False) : propK C fn q (.ins C ns zs) O := ⟨_, ⟨rfl, rfl⟩, h⟩
theorem i_propO {O : Ow} {q : DQ} {p dx : Addr} {fs : List (Str × D)} (e : O p = some (.ins C dx fs)) (h : fn [.ref p] O q fun _ _ _ => False) : propK C fn q (.ref p) O := ⟨fs, ⟨dx, e⟩, h⟩
end
end DL

set_option Elab.async false
set_option linter.all false
set_option maxRecDepth 100000
set_option maxHeartbeats 4000000
/-! # DT: sendings, in plain words -/
namespace DL
open PySem PySem.Spec PyProof.Rows L2
def isRw : D → Bool
  | .int _ => true
  | _ => false
def rowAt (ms : List D) : D → D
  | .int i => (ms[i.toNat]?).getD .non
  | _ => .non
def putOf : D → Int
  | .tup [.int b, _, _] => b
  | _ => 1
def nxtOf (e : Int) : D → D
  | .tup [_, p, q] => if e = 0 then p else q
  | _ => .non
/-- the machines of the hearers and of the sender -/
structure Mc where
  hs : List D
  ss : List D
def Mc.m (M : Mc) (k : Nat) : List D := if k = 0 then M.ss else M.hs
/-- a place of the k-th station -/
def PlOk (M : Mc) (k : Nat) (d : D) : Prop := (∃ i : Int, d = .int i ∧ 0 ≤ i ∧ i < ((M.m k).length : Int)) ∨ (∃ s, d = .str s ∧ s ∈ (["taken", "lost", "done", "again"] : List Str)) ∨ d = .non
def McOk (M : Mc) : Prop := 1 ≤ M.ss.length ∧ 2 ≤ M.hs.length ∧ M.hs.length ≤ 100 ∧ M.ss.length ≤ 100 ∧ Mach ["taken", "lost"] M.hs ∧ Mach ["done", "again"] M.ss
def PsOk (M : Mc) (ps : List D) : Prop := ∀ (k : Nat) (d : D), ps[k]? = some d → PlOk M k d
/-- the bits that the stations on their way put -/
def puts (M : Mc) (ps : List D) : List Int := (ps.zipIdx.filter fun x => isRw x.1).map fun x => putOf (rowAt (M.m x.2) x.1)
def bitL (M : Mc) (ps : List D) : Int := if (0 : Int) ∈ puts M ps then 0 else 1
def silL (S : Nat → Bool) (ps : List D) : List D := ps.mapIdx fun k d => if S k then D.non else d
def earK (W : Nat → Bool) (b : Int) (k : Nat) : Int := if W k then 1 - b else b
def nxtL (M : Mc) (W : Nat → Bool) (b : Int) (ps : List D) : List D := ps.mapIdx fun k d => if isRw d then nxtOf (earK W b k) (rowAt (M.m k) d) else d
def stepL (M : Mc) (W S : Nat → Bool) (ps : List D) : List D := nxtL M W (bitL M (silL S ps)) (silL S ps)
def hearL (M : Mc) (W S : Nat → Bool) (ps : List D) (es : List (List Int)) : List (List Int) := es.mapIdx fun k e => if isRw ((silL S ps).getD k .non) then e ++ [earK W (bitL M (silL S ps)) k] else e
def atRest (ps : List D) : Bool := ps.all fun d => !isRw d
/-- a sending's moment -/
structure Mo where
  ps : List D
  es : List (List Int)
  bits : List Int
def stepM (M : Mc) (W S : Nat → Bool) (x : Mo) : Mo := ⟨stepL M W S x.ps, hearL M W S x.ps x.es, x.bits ++ [bitL M (silL S x.ps)]⟩
/-- the moments; W t k: the k-th station hears bit t wrongly; S t k: it falls silent at it -/
def moAt (M : Mc) (W S : Nat → Nat → Bool) (x : Mo) : Nat → Mo
  | 0 => x
  | t + 1 => stepM M (W (t + 1)) (S (t + 1)) (moAt M W S x t)
section
variable {M : Mc} {W S : Nat → Bool} {ps : List D}
theorem isRw_iff {d : D} : isRw d = true ↔ ∃ i, d = .int i := by
  cases d <;> simp [isRw]
theorem silL_len : (silL S ps).length = ps.length := by simp [silL]
theorem nxtL_len {b : Int} : (nxtL M W b ps).length = ps.length := by simp [nxtL]
theorem stepL_len : (stepL M W S ps).length = ps.length := by simp [stepL, nxtL_len, silL_len]
theorem hearL_len {es : List (List Int)} : (hearL M W S ps es).length = es.length := by simp [hearL]
theorem silL_get {k : Nat} : (silL S ps)[k]? = (ps[k]?).map fun d => if S k then D.non else d := by simp [silL, List.getElem?_mapIdx]
theorem nxtL_get {b : Int} {k : Nat} : (nxtL M W b ps)[k]? = (ps[k]?).map fun d => if isRw d then nxtOf (earK W b k) (rowAt (M.m k) d) else d := by simp [nxtL, List.getElem?_mapIdx]
/-- a row that is there -/
theorem row_of {M : Mc} (h : McOk M) {k : Nat} {i : Int} (h0 : 0 ≤ i) (h1 : i < ((M.m k).length : Int)) : ∃ b p q, (M.m k)[i.toNat]? = some (.tup [.int b, p, q]) ∧ rowAt (M.m k) (.int i) = .tup [.int b, p, q] ∧ (b = 0 ∨ b = 1) ∧ PlOk M k p ∧ PlOk M k q := by
  obtain ⟨r, e1, _⟩ := atI_in (ds := M.m k) h0 h1
  have key : ∀ (ws : List Str), (∀ s ∈ ws, s ∈ (["taken", "lost", "done", "again"] : List Str)) → rowB (M.m k).length ws r = true → ∃ b p q, (M.m k)[i.toNat]? = some (.tup [.int b, p, q]) ∧ rowAt (M.m k) (.int i) = .tup [.int b, p, q] ∧ (b = 0 ∨ b = 1) ∧ PlOk M k p ∧ PlOk M k q := by
    intro ws hw hr
    obtain ⟨b, p, q, rfl, hb, hp, hq⟩ := rowB_cases hr
    have pl : ∀ d, plB (M.m k).length ws d = true → PlOk M k d := fun d hd => by
      rcases plB_cases hd with ⟨j, rfl, j0, j1⟩ | ⟨s, rfl, hs⟩
      · exact .inl ⟨j, rfl, j0, j1⟩
      · exact .inr (.inl ⟨s, rfl, hw s hs⟩)
    exact ⟨b, p, q, e1, by simp only [rowAt, e1, Option.getD_some], hb, pl p hp, pl q hq⟩
  have hm := List.mem_of_getElem? e1
  by_cases hk : k = 0
  · have e : M.m k = M.ss := by simp [Mc.m, hk]
    refine key ["done", "again"] (by decide +kernel) ?_
    rw [e] at hm ⊢
    exact h.2.2.2.2.2 r hm
  · have e : M.m k = M.hs := by simp [Mc.m, hk]
    refine key ["taken", "lost"] (by decide +kernel) ?_
    rw [e] at hm ⊢
    exact h.2.2.2.2.1 r hm
theorem puts_bits (h : McOk M) (hp : PsOk M ps) : ∀ b ∈ puts M ps, b = 0 ∨ b = 1 := by
  intro b hb
  simp only [puts, List.mem_map, List.mem_filter] at hb
  obtain ⟨⟨d, k⟩, ⟨hm, hr⟩, rfl⟩ := hb
  obtain ⟨i, rfl⟩ := isRw_iff.mp hr
  have hk := List.mem_zipIdx_iff_getElem?.mp hm
  rcases hp k _ hk with ⟨j, e, j0, j1⟩ | ⟨s, e, _⟩ | e
  · cases e
    obtain ⟨b, p, q, _, e2, hb, _⟩ := row_of h j0 j1
    rw [e2]
    exact hb
  · cases e
  · cases e
theorem bitL_bit : bitL M ps = 0 ∨ bitL M ps = 1 := by
  unfold bitL
  split <;> simp
theorem fold_min {n : Int} : ∀ {ms : List Int}, (∀ b ∈ n :: ms, b = 0 ∨ b = 1) → ms.foldl min n = if (0 : Int) ∈ n :: ms then 0 else 1
  | [], h => by
    rcases h n List.mem_cons_self with rfl | rfl <;> simp
  | m :: ms, h => by
    rw [List.foldl_cons]
    have hm : min n m = 0 ∨ min n m = 1 := by
      rcases h n List.mem_cons_self with rfl | rfl <;> rcases h m (by simp) with rfl | rfl <;> decide
    rw [fold_min (n := min n m) fun b hb => by
      rcases List.mem_cons.mp hb with rfl | hb
      · exact hm
      · exact h b (by simp [hb])]
    have m01 : min (0 : Int) 1 = 0 := by decide
    have m10 : min (1 : Int) 0 = 0 := by decide
    rcases h n List.mem_cons_self with rfl | rfl <;> rcases h m (by simp) with rfl | rfl <;> simp [m01, m10]
/-- min of what is put -/
theorem min_puts (h : McOk M) (hp : PsOk M ps) {n : Int} {ms : List Int} (e : puts M ps = n :: ms) : ms.foldl min n = bitL M ps := by
  unfold bitL
  rw [e, fold_min fun b hb => puts_bits h hp b (by rw [e]; exact hb)]
theorem min_nil (e : puts M ps = []) : bitL M ps = 1 := by simp [bitL, e]
theorem min_puts1 (h : McOk M) (hp : PsOk M ps) {n : Int} {ms : List Int} (e : puts M ps ++ [1] = n :: ms) : ms.foldl min n = bitL M ps := by
  rw [fold_min fun b hb => by
    rw [← e] at hb
    rcases List.mem_append.mp hb with hb | hb
    · exact puts_bits h hp b hb
    · right; simpa using hb, ← e]
  unfold bitL
  simp
theorem nxt_ok (h : McOk M) {k : Nat} {i e : Int} (h0 : 0 ≤ i) (h1 : i < ((M.m k).length : Int)) : PlOk M k (nxtOf e (rowAt (M.m k) (.int i))) := by
  obtain ⟨b, p, q, _, e2, _, hp, hq⟩ := row_of h h0 h1
  rw [e2]
  simp only [nxtOf]
  split
  · exact hp
  · exact hq
theorem sil_ok (hp : PsOk M ps) : PsOk M (silL S ps) := fun k d hd => by
  rw [silL_get] at hd
  obtain ⟨d', e, rfl⟩ := Option.map_eq_some_iff.mp hd
  split
  · exact .inr (.inr rfl)
  · exact hp k d' e
theorem step_ok (h : McOk M) (hp : PsOk M ps) : PsOk M (stepL M W S ps) := fun k d hd => by
  unfold stepL at hd
  rw [nxtL_get] at hd
  obtain ⟨d', e, rfl⟩ := Option.map_eq_some_iff.mp hd
  have := sil_ok (S := S) hp k d' e
  split
  · rename_i hr
    obtain ⟨i, rfl⟩ := isRw_iff.mp hr
    rcases this with ⟨j, e, j0, j1⟩ | ⟨s, e, _⟩ | e
    · cases e
      exact nxt_ok h j0 j1
    · cases e
    · cases e
  · exact this
end
/-! ### no moment comes again before the end -/
theorem mo_shift {M : Mc} {W S : Nat → Nat → Bool} {x : Mo} {t0 : Nat} (hW : ∀ t k, t0 < t → W t k = false) (hS : ∀ t k, t0 < t → S t k = false) {i j : Nat} (hi : t0 ≤ i) (hij : i ≤ j) (e : (moAt M W S x i).ps = (moAt M W S x j).ps) : ∀ d, (moAt M W S x (i + d)).ps = (moAt M W S x (j + d)).ps
  | 0 => e
  | d + 1 => by
    have ih := mo_shift hW hS hi hij e d
    show stepL M (W (i + d + 1)) (S (i + d + 1)) (moAt M W S x (i + d)).ps = stepL M (W (j + d + 1)) (S (j + d + 1)) (moAt M W S x (j + d)).ps
    have e1 : W (i + d + 1) = W (j + d + 1) := funext fun k => by rw [hW _ k (by omega), hW _ k (by omega)]
    have e2 : S (i + d + 1) = S (j + d + 1) := funext fun k => by rw [hS _ k (by omega), hS _ k (by omega)]
    rw [ih, e1, e2]
theorem mo_new {M : Mc} {W S : Nat → Nat → Bool} {x : Mo} {t0 n : Nat} (hW : ∀ t k, t0 < t → W t k = false) (hS : ∀ t k, t0 < t → S t k = false) (hn : atRest (moAt M W S x n).ps = true) (hlt : ∀ t, t < n → atRest (moAt M W S x t).ps = false) {i j : Nat} (hi : t0 ≤ i) (hij : i < j) (hj : j ≤ n) :
    (moAt M W S x i).ps ≠ (moAt M W S x j).ps := fun e => by
  have := mo_shift hW hS hi (Nat.le_of_lt hij) e (n - j)
  rw [show j + (n - j) = n by omega] at this
  have h1 := hlt (i + (n - j)) (by omega)
  rw [this, hn] at h1
  cases h1
end DL

set_option Elab.async false
set_option linter.all false
set_option maxRecDepth 100000
set_option maxHeartbeats 4000000
/-! # DU: dicts by labels; the places on the way -/
namespace DL
open PySem PySem.Spec PyProof.Rows L2
theorem i_inI {O : Ow} {q : DQ} {i : Int} {ws : List Int} (h : q (.bl (ws.contains i)) O) : dIn (.int i) (.lst (ws.map D.int)) O q := by
  obtain ⟨h1, h2, h3⟩ := pds_nums ws
  refine ⟨_, _, asP_pd rfl, asPs_L h1, good_sh (good_int _), shaped_nums ws, ?_⟩
  rw [any_ints, if_neg (by decide)]
  exact h
theorem i_notinI {O : Ow} {q : DQ} {i : Int} {ws : List Int} (h : q (.bl (!ws.contains i)) O) : dNotIn (.int i) (.lst (ws.map D.int)) O q := by
  obtain ⟨h1, h2, h3⟩ := pds_nums ws
  refine ⟨_, _, asP_pd rfl, asPs_L h1, good_sh (good_int _), shaped_nums ws, ?_⟩
  rw [any_ints, if_pos rfl]
  exact h
/-! ### dicts at a site, the world told apart -/
section
variable {X : Cx} {B : Bd} {pos pos' p apos cpos : Pos} {k : Nat} {wx : DW} {o i e f value : Expr} {td ty tv tx : DTE} {w : World}
theorem so_dgetW (hw : X.w = w) (S : Site X B k wx) (ho : PE X o (lift B td)) (hi : PE X i (lift B ty)) (hs : NoSl i := by intro _ _; rfl) : PE X (.Subscript o i pos) (lift B (dOp (dDIx w) td ty)) := hw ▸ so_dget S ho hi hs
theorem so_dinW (hw : X.w = w) (S : Site X B k wx) (ha : PE X i (lift B ty)) (hb : PE X o (lift B td)) (hm : behindInMarks .In o = false := by rfl) : PE X (.Compare i [.In] [o] pos) (lift B (dOp (dDIn w false) ty td)) := hw ▸ so_din S ha hb hm
theorem so_dnotinW (hw : X.w = w) (S : Site X B k wx) (ha : PE X i (lift B ty)) (hb : PE X o (lift B td)) (hm : behindInMarks .NotIn o = false := by rfl) : PE X (.Compare i [.NotIn] [o] pos) (lift B (dOp (dDIn w true) ty td)) := hw ▸ so_dnotin S ha hb hm
theorem st_dinW (hw : X.w = w) (S : Site X B k wx) (ha : PE X i (lift B ty)) (hb : PE X o (lift B td)) (hm : behindInMarks .In o = false := by rfl) : PT X (.Compare i [.In] [o] pos) (liftT B (dTest (dOp (dDIn w false) ty td))) := hw ▸ st_din S ha hb hm
theorem st_dnotinW (hw : X.w = w) (S : Site X B k wx) (ha : PE X i (lift B ty)) (hb : PE X o (lift B td)) (hm : behindInMarks .NotIn o = false := by rfl) : PT X (.Compare i [.NotIn] [o] pos) (liftT B (dTest (dOp (dDIn w true) ty td))) := hw ▸ st_dnotin S ha hb hm
theorem ds_dputW (hw : X.w = w) (S : Site X B k wx) (ho : PE X o (lift B td)) (hi : PE X i (lift B ty)) (hv : PE X value (lift B tv)) (hs : swapsWith value (some (.Subscript o i pos')) pos.line X.env = pure false := by rfl) :
    PS X (.Assign [.Subscript o i pos'] value pos) (liftS B (dDPut w td ty tv)) := hw ▸ ds_dput S ho hi hv hs
theorem so_dict0NW (hw : X.w = w) : PE X (.Dict [] [] pos) (lift B (dDict0N w)) := hw ▸ so_dict0N
theorem so_dget2W (hw : X.w = w) (S : Site X B k wx) (ho : PE X o (lift B td)) (he : PE X e (lift B ty)) (hf : PE X f (lift B tx)) (hb : attributeBase o "get" X.env (eval o X.env) = eval o X.env := by rfl)
    (hfew : ((backTo cpos (starEach [e, f] X.env)).all (fun x => !x.1) && (backToKw cpos (keywordEach [] X.env)).all (fun x => x.1.isSome) && decide (([e, f] : List Expr).length + ([] : List Keyword).length + (if ([] : List Keyword).isEmpty then 0 else 1) < 30)) = true := by rfl)
    (hl : (apos.endLine == cpos.line) = true := by rfl) (ht : backTo cpos (starEach [e, f] X.env) = [(false, eval e X.env), (false, eval f X.env)] := by rfl) :
    PE X (.Call (.Attribute o "get" apos) [e, f] [] cpos) (lift B (dGet2 w td ty tx)) := hw ▸ so_dget2 S ho he hf hb hfew hl ht
end
/-! ### dicts by labels -/
def zipK (L : List Int) (vs : List D) : List (Key × D) := (L.map Sum.inl).zip vs
section
variable {L : List Int} {vs : List D} {l : Int} {v : D} {k : Nat}
theorem zipK_cons {l : Int} {v : D} : zipK (l :: L) (v :: vs) = (Sum.inl l, v) :: zipK L vs := rfl
theorem zipK_len (h : L.length = vs.length) : (zipK L vs).length = L.length := by simp [zipK, h]
theorem zipK_snoc (h : L.length = vs.length) : zipK (L ++ [l]) (vs ++ [v]) = zipK L vs ++ [(Sum.inl l, v)] := by
  unfold zipK
  rw [List.map_append, List.zip_append (by simpa using h)]
  rfl
theorem val_zip_none : ∀ {L : List Int} {vs : List D}, l ∉ L → valD (zipK L vs) (Sum.inl l : Key) = none
  | [], _, _ => by simp [zipK, valD_nil]
  | _ :: _, [], _ => by simp [zipK, valD_nil]
  | l' :: L, v :: vs, h => by
    rw [zipK_cons, valD_cons, if_neg, val_zip_none fun z => h (List.mem_cons_of_mem _ z)]
    intro z
    exact h (by cases z; exact List.mem_cons_self)
theorem val_zip : ∀ {L : List Int} {vs : List D} {k : Nat}, L.Nodup → L[k]? = some l → vs[k]? = some v → valD (zipK L vs) (Sum.inl l : Key) = some v
  | [], _, _, _, e, _ => by simp at e
  | _ :: _, [], _, _, _, e => by simp at e
  | l' :: L, v' :: vs, 0, _, e, e2 => by
    simp at e e2
    subst e; subst e2
    rw [zipK_cons, valD_cons, if_pos rfl]
  | l' :: L, v' :: vs, k + 1, nd, e, e2 => by
    have hm : l ∈ L := List.mem_of_getElem? (by simpa using e)
    rw [zipK_cons, valD_cons, if_neg, val_zip (k := k) (List.nodup_cons.mp nd).2 (by simpa using e) (by simpa using e2)]
    intro z
    cases z
    exact (List.nodup_cons.mp nd).1 hm
theorem map_zip_set : ∀ {L : List Int} {vs : List D} {k : Nat}, L.Nodup → L[k]? = some l → (zipK L vs).map (fun kv => if kv.1 = (Sum.inl l : Key) then (kv.1, v) else kv) = zipK L (vs.set k v)
  | [], _, _, _, e => by simp at e
  | l' :: L, [], k, _, _ => by simp [zipK]
  | l' :: L, v' :: vs, 0, nd, e => by
    simp at e
    subst e
    have : ∀ {vs : List D}, (zipK L vs).map (fun kv => if kv.1 = (Sum.inl l' : Key) then (kv.1, v) else kv) = zipK L vs := fun {vs} => by
      apply (List.map_congr_left ?_).trans (List.map_id _)
      intro kv hkv
      have h1 := (List.of_mem_zip hkv).1
      obtain ⟨j, hj, e⟩ := List.mem_map.mp h1
      rw [if_neg]
      · rfl
      · intro z
        rw [← e] at z
        cases z
        exact (List.nodup_cons.mp nd).1 hj
    rw [zipK_cons, List.map_cons, if_pos rfl, this]
    rfl
  | l' :: L, v' :: vs, k + 1, nd, e => by
    have hm : l ∈ L := List.mem_of_getElem? (by simpa using e)
    rw [zipK_cons, List.map_cons, if_neg, map_zip_set (k := k) (List.nodup_cons.mp nd).2 (by simpa using e)]
    · rfl
    · intro z
      cases z
      exact (List.nodup_cons.mp nd).1 hm
theorem put_zip (nd : L.Nodup) (e : L[k]? = some l) (h : L.length = vs.length) : putKD (zipK L vs) (Sum.inl l : Key) v = zipK L (vs.set k v) := by
  have hk : k < vs.length := by rw [← h]; exact (List.getElem?_eq_some_iff.mp e).1
  unfold putKD
  rw [valD_any, val_zip nd e (List.getElem?_eq_getElem hk)]
  exact map_zip_set nd e
end
/-- a place of any station -/
def plK : D → Bool
  | .int _ => true
  | .str _ => true
  | .non => true
  | _ => false
theorem val_mem {L : List Int} {ps : List D} {k : Key} {d : D} (h : valD (zipK L ps) k = some d) : d ∈ ps := by
  unfold valD at h
  obtain ⟨kv, h1, rfl⟩ := Option.map_eq_some_iff.mp h
  exact (List.of_mem_zip (List.mem_of_find?_eq_some h1)).2
theorem plOk_plK {M : Mc} {k : Nat} {d : D} (h : PlOk M k d) : plK d = true := by
  rcases h with ⟨i, rfl, _⟩ | ⟨s, rfl, _⟩ | rfl <;> rfl
theorem psOk_plK {M : Mc} {ps : List D} (h : PsOk M ps) : ∀ d ∈ ps, plK d = true := fun d hd => by
  obtain ⟨k, hk⟩ := List.mem_iff_getElem?.mp hd
  exact plOk_plK (h k d hk)
/-! ### the stations on their way -/
theorem getD_range {α : Type} (d : α) (l : List α) : (List.range l.length).map (fun k => l.getD k d) = l := by
  apply List.ext_getElem?
  intro i
  rw [List.getElem?_map]
  by_cases h : i < l.length
  · rw [List.getElem?_range h]
    simp [h]
  · rw [List.getElem?_eq_none (by simpa using h), List.getElem?_eq_none (by omega)]
    rfl
/-- their positions -/
def goZ (ps : List D) : List Nat := (List.range ps.length).filter fun k => isRw (ps.getD k .non)
theorem puts_goZ (M : Mc) (ps : List D) : puts M ps = (goZ ps).map fun k => putOf (rowAt (M.m k) (ps.getD k .non)) := by
  unfold puts goZ
  have e : ps.zipIdx = (List.range ps.length).map fun k => (ps.getD k .non, k) := by
    apply List.ext_getElem?
    intro i
    rw [List.getElem?_zipIdx, List.getElem?_map]
    by_cases h : i < ps.length
    · rw [List.getElem?_range h]
      simp [h]
    · rw [List.getElem?_eq_none (by omega), List.getElem?_eq_none (by simpa using h)]
      rfl
  rw [e, List.filter_map, List.map_map]
  rfl
theorem filter_goZ {L : List Int} {ps : List D} {p : Int → Bool} (hl : ps.length = L.length) (hp : ∀ k, k < L.length → p (L.getD k 0) = isRw (ps.getD k .non)) : L.filter p = (goZ ps).map fun k => L.getD k 0 := by
  conv => lhs; rw [← getD_range 0 L]
  rw [List.filter_map]
  unfold goZ
  rw [hl]
  congr 1
  apply List.filter_congr
  intro k hk
  exact hp k (List.mem_range.mp hk)
theorem goZ_mem {ps : List D} {k : Nat} : k ∈ goZ ps ↔ ∃ i : Int, ps[k]? = some (.int i) := by
  unfold goZ
  rw [List.mem_filter, List.mem_range]
  constructor
  · rintro ⟨h, hr⟩
    obtain ⟨i, e⟩ := isRw_iff.mp hr
    refine ⟨i, ?_⟩
    rw [List.getElem?_eq_getElem h]
    simp only [List.getD_eq_getElem?_getD, List.getElem?_eq_getElem h, Option.getD_some] at e
    rw [e]
  · rintro ⟨i, e⟩
    have h := (List.getElem?_eq_some_iff.mp e).1
    refine ⟨h, ?_⟩
    simp [e, isRw]
theorem goZ_nodup (ps : List D) : (goZ ps).Nodup := List.Pairwise.filter _ List.nodup_range
theorem goZ_nil {ps : List D} : goZ ps = [] ↔ atRest ps = true := by
  unfold goZ atRest
  rw [List.filter_eq_nil_iff, List.all_eq_true]
  constructor
  · intro h d hd
    obtain ⟨k, hk⟩ := List.mem_iff_getElem?.mp hd
    have hl := (List.getElem?_eq_some_iff.mp hk).1
    have := h k (List.mem_range.mpr hl)
    simp only [List.getD_eq_getElem?_getD, hk, Option.getD_some] at this
    simpa using this
  · intro h k hk
    have hl := List.mem_range.mp hk
    have := h ps[k] (List.getElem_mem _)
    simp only [List.getD_eq_getElem?_getD, List.getElem?_eq_getElem hl, Option.getD_some]
    simpa using this
/-- whether the station with the label l is on its way -/
def goL (L : List Int) (ps : List D) (l : Int) : Bool := match valD (zipK L ps) (Sum.inl l : Key) with
  | some d => isRw d
  | none => false
theorem goL_at {L : List Int} {ps : List D} {k : Nat} (nd : L.Nodup) (hl : ps.length = L.length) (hk : k < L.length) : goL L ps (L.getD k 0) = isRw (ps.getD k .non) := by
  have e1 : L[k]? = some (L.getD k 0) := by simp [hk]
  have e2 : ps[k]? = some (ps.getD k .non) := by simp [show k < ps.length by omega]
  unfold goL
  rw [val_zip nd e1 e2]
theorem filter_goL {L : List Int} {ps : List D} (nd : L.Nodup) (hl : ps.length = L.length) : L.filter (goL L ps) = (goZ ps).map fun k => L.getD k 0 := filter_goZ hl fun k hk => goL_at nd hl hk
end DL

set_option Elab.async false
set_option linter.all false
set_option maxRecDepth 100000
set_option maxHeartbeats 4000000
/-! # DV: name = {.. for ..} on one line -/
namespace DL
open PySem PySem.Spec PyProof.Rows L2
section
variable {X : Cx}
theorem ps_setDc {i : Nat} {y : Str} {py : Pos} {kx vx tg iter : Expr} {ifs : List Expr} {scope : Scope} {own : List (Str × Nat)} {pos spos : Pos} {wi : TI} {g : TG} {tt : TT} {tk tv : TE} (hc : X.calm = true) (hN : X.N.Nodup) (hy : X.N[i]? = some y) (hyl : X.env.scope.names.lookup y = some .local)
    (hsw : swapsWith (.DictComp kx vx [⟨tg, iter, ifs, 0⟩] scope pos) (some (.Name y py)) spos.line X.env = pure true) (hi : PI X tg iter wi) (ok : BlkOk X.N X.env.scope scope own)
    (hg : ∀ (s : Shared) (H : Hp) (C : Addr) (cl : List (Str × Addr)) (fp : List Addr), PG (X.blk s H scope (compEnvC scope cl C X.env) fp) tg g) (ht : ∀ (s : Shared) (H : Hp) (C : Addr) (cl : List (Str × Addr)) (fp : List Addr), PTs (X.blk s H scope (compEnvC scope cl C X.env) fp) ifs tt)
    (hk : ∀ (s : Shared) (H : Hp) (C : Addr) (cl : List (Str × Addr)) (fp : List Addr), PE (X.blk s H scope (compEnvC scope cl C X.env) fp) kx tk)
    (he : ∀ (s : Shared) (H : Hp) (C : Addr) (cl : List (Str × Addr)) (fp : List Addr), PE (X.blk s H scope (compEnvC scope cl C X.env) fp) vx tv) (hs : ∀ x, foldedSetIterable iter X.env x = pure x := by intro _; rfl) :
    PS X (.Assign [.Name y py] (.DictComp kx vx [⟨tg, iter, ifs, 0⟩] scope pos) spos) (tAsg (tDc wi g tt tk tv (own.map (·.2))) (gName i)) := by
  refine ⟨fun pins s σ H D I h => ?_⟩
  rw [exec_Assign_Name_used _ _ _ _ hsw]
  refine wpAny_bind (wpAny_standAt (wpAny_bind ?_))
  show wpAny _ X.A (do let _ ← comprehension (.DictComp kx vx [⟨tg, iter, ifs, 0⟩] scope pos) scope X.env (firstIterPos [⟨tg, iter, ifs, 0⟩] pos) newDict false (eval iter X.env) (some (assign (.Name y py) X.env))) _ _ s
  have h : tDc wi g tt tk tv (own.map (·.2)) σ H (fun x H1 => gName i x σ H1 D.nx) := h
  refine wpAny_bind (thn (dc_core (Qf := fun _ s' => SP X pins D .next s') hc hN I hi ok hg ht hk he hs h fun L C s' m H' I' q hn f => ?_) fun _ s' hq => wpAny_pure (wpAny_pure hq))
  show wpAny _ _ (assign (.Name y py) X.env (.ref L)) _ _ _
  refine wpAny_assign_Name (store_ok2 (v := V.ref L) I' hN hy (.inl hyl) rfl (fun s2 I2 ⟨a, sb, ha⟩ => ?_) (.inr hyl))
  obtain ⟨f0, f1, f2, f3, f4, f5⟩ := f
  have haC : C ≠ a := by
    rcases ha with z | z
    · rw [z]; exact f1
    · exact fun e => f4 y a z e.symm
  refine ⟨m, hn.sameBut sb haC, fun h3 sb3 => ?_⟩
  exact ⟨_, H', I2.turned (t' := s2.toks) (fun b o hb e => (sb3.2 b hb).trans e) f0 f1 f3 f4 f5, q⟩
theorem sw_trueD {kx vx : Expr} {gs : List Comprehension} {scope : Scope} {pos py : Pos} {y : Str} {l : Nat} {env : PySem.Env} (hk : env.scope.kind = .function) (hy : env.scope.names.lookup y = some .local) (hl : (py.line == pos.line) = true)
    (ha : (scope.names.any fun (n, k) => n == y && (k == .local || k == .cell)) = false) : swapsWith (.DictComp kx vx gs scope pos) (some (.Name y py)) l env = pure true := by
  have ky : env.kindOf y = some .local := hy
  have hb : env.blockKind = .function := by unfold Env.blockKind; rw [hk]; rfl
  unfold swapsWith
  simp only [hb, ky, ha, Expr.pos, hl]
  rfl
variable {B : Bd}
theorem ds_setDc {st : Stmt} {i : Nat} {wi : DTI} {g : TG} {dg : DTG} {tt : DTT} {tk tv : DTE} {vs : List Nat} (sg : SimG B.K vs g dg) (h : PS X st (tAsg (tDc (liftI B wi) g (liftT B tt) (lift B tk) (lift B tv) vs) (gName i))) : PS X st (liftS B (dAsg (dDc wi dg tt tk tv vs) (dgName i))) :=
  ds_set (PS.weak h fun E σ H q => lift_dc sg σ H _ q)
end
/-! ### min(list) of ints -/
section
variable {X : Cx} {B : Bd} {pos p : Pos} {k : Nat} {wx : DW} {e : Expr} {tA : DTA}
def dMin1 : List D → Ow → DQ → Prop := fun ds O q => ∃ (d : D) (ns : List Int), ds = [d] ∧ asL O d = some (ns.map D.int) ∧ 0 < ns.length ∧ ∀ m, m ∈ ns → (∀ y, y ∈ ns → m ≤ y) → q (.int m) O
theorem sim_min1 : SimC B (rMin B.K) dMin1 := by
  intro env O σ H F vs ds q Q R r h kk
  obtain ⟨d, ns, rfl, e1, hn, h1⟩ := h
  obtain ⟨v, rfl, rd⟩ := r.one
  obtain ⟨a, xs, rfl, hs, hr⟩ := asL_sq R.fh R.ow rd e1
  have := rvs_ints hr
  subst this
  exact ⟨a, ns, rfl, hs, hn, fun m h2 h3 => kk _ _ O H F (.refl R) (.int _) (h1 m h2 h3)⟩
theorem so_min1 (S : Site X B k wx) (hc : X.calm = true) (hg : Gl X "min") (hm : X.mg "min" = none) (ha : PA X [e] (liftA B tA)) (he : starEach [e] X.env = (false, eval e X.env) :: starEach [] X.env := by rfl) (hpl : (backTo pos (starEach [] X.env)).any (·.1) = false := by rfl) : PE X (.Call (.Name "min" p) [e] [] pos) (lift B (dCB dMin1 tA)) :=
  de_cb (by rw [S.hK]; exact sim_min1) (pe_callB (cr_min hc) hg hm bt_min ha (by decide) (by decide) he hpl)
theorem i_min1 {O : Ow} {q : DQ} {d : D} {ns : List Int} (e : asL O d = some (ns.map D.int)) (h0 : 0 < ns.length) (h1 : ∀ m, m ∈ ns → (∀ y, y ∈ ns → m ≤ y) → q (.int m) O) : dMin1 [d] O q := ⟨d, ns, rfl, e, h0, h1⟩
end
end DL

set_option Elab.async false
set_option linter.all false
set_option maxRecDepth 100000
set_option maxHeartbeats 4000000
/-! # DW: sendings with faults, in plain words -/
namespace DL
open PySem PySem.Spec PyProof.Rows L2
/-- who has a fault at bit t -/
def wOf (L : List Int) (wr : List (Int × Int)) : Nat → Nat → Bool := fun t k => wr.contains ((t : Int), L.getD k 0)
def mo0 (L : List Int) (wr : List (Int × Int)) : Mo := ⟨L.map fun l => .int (if wr.contains (0, l) then 1 else 0), L.map fun _ => [], []⟩
def moR (M : Mc) (L : List Int) (wr si : List (Int × Int)) (t : Nat) : Mo := moAt M (wOf L wr) (wOf L si) (mo0 L wr) t
structure Poss (M : Mc) (L : List Int) (wr si : List (Int × Int)) (n : Nat) : Prop where
  rest : atRest (moR M L wr si n).ps = true
  way : ∀ t, t < n → atRest (moR M L wr si t).ps = false
  wt : ∀ p ∈ wr, 0 ≤ p.1 ∧ p.1 ≤ n
  st : ∀ p ∈ si, 1 ≤ p.1 ∧ p.1 ≤ n
  body : ∀ p ∈ wr, p.1 = 0 → p.2 ∈ L.tail
  wg : ∀ (t : Nat) l, ((t : Int) + 1, l) ∈ wr → goL L (moR M L wr si t).ps l = true
  sg : ∀ (t : Nat) l, ((t : Int) + 1, l) ∈ si → goL L (moR M L wr si t).ps l = true
  nw : wr.Nodup
  ns : si.Nodup
  dj : ∀ p ∈ wr, p ∉ si
section
variable {M : Mc} {L : List Int} {wr si : List (Int × Int)}
theorem moR_succ {t : Nat} : moR M L wr si (t + 1) = stepM M (wOf L wr (t + 1)) (wOf L si (t + 1)) (moR M L wr si t) := rfl
theorem moR_bits : ∀ t, (moR M L wr si t).bits.length = t
  | 0 => rfl
  | t + 1 => by
    rw [moR_succ]
    simp only [stepM, List.length_append, List.length_cons, List.length_nil, moR_bits t]
theorem moR_len : ∀ t, (moR M L wr si t).ps.length = L.length
  | 0 => by simp [moR, moAt, mo0]
  | t + 1 => by
    rw [moR_succ]
    simp only [stepM, stepL_len, moR_len t]
theorem moR_eslen : ∀ t, (moR M L wr si t).es.length = L.length
  | 0 => by simp [moR, moAt, mo0]
  | t + 1 => by
    rw [moR_succ]
    simp only [stepM, hearL_len, moR_eslen t]
theorem moR_es : ∀ t, ∀ e ∈ (moR M L wr si t).es, e.length ≤ t
  | 0, e, he => by
    simp only [moR, moAt, mo0, List.mem_map] at he
    obtain ⟨_, _, rfl⟩ := he
    simp
  | t + 1, e, he => by
    rw [moR_succ] at he
    simp only [stepM, hearL] at he
    obtain ⟨k, hk⟩ := List.mem_iff_getElem?.mp he
    rw [List.getElem?_mapIdx] at hk
    obtain ⟨e', h1, rfl⟩ := Option.map_eq_some_iff.mp hk
    have := moR_es t e' (List.mem_of_getElem? h1)
    split
    · simp; omega
    · omega
theorem moR_ok (hM : McOk M) (nd : L.Nodup) (hb : ∀ p ∈ wr, p.1 = 0 → p.2 ∈ L.tail) : ∀ t, PsOk M (moR M L wr si t).ps
  | 0 => fun k d hd => by
    simp only [moR, moAt, mo0, List.getElem?_map] at hd
    obtain ⟨l, hl, rfl⟩ := Option.map_eq_some_iff.mp hd
    refine .inl ⟨_, rfl, by split <;> omega, ?_⟩
    by_cases hk : k = 0
    · subst hk
      have hn : wr.contains (0, l) = false := by
        rw [Bool.eq_false_iff]
        intro hc
        have hm := hb _ (List.contains_iff_mem.mp hc) rfl
        cases L with
        | nil => simp at hl
        | cons a L =>
          simp at hl
          subst hl
          exact (List.nodup_cons.mp nd).1 hm
      rw [hn]
      have := hM.1
      simp only [Mc.m, if_true]
      simp
      omega
    · have := hM.2.1
      simp only [Mc.m, hk, if_false]
      split <;> omega
  | t + 1 => by
    rw [moR_succ]
    exact step_ok hM (moR_ok hM nd hb t)
/-- behind the last fault there is none -/
theorem wOf_none {t0 : Nat} (h : ∀ p ∈ wr, p.1 ≤ (t0 : Int)) : ∀ t k, t0 < t → wOf L wr t k = false := fun t k ht => by
  unfold wOf
  rw [Bool.eq_false_iff]
  intro hc
  have := h _ (List.contains_iff_mem.mp hc)
  simp only at this
  omega
end
/-! ### places as keys -/
theorem nkeys_pl : ∀ {ps : List D}, (∀ d ∈ ps, plK d = true) → ∃ ks, nkey.nkeys ps = some ks ∧ NestedKey.depth (.tup ks) ≤ 8
  | [], _ => ⟨[], rfl, by decide⟩
  | d :: ps, h => by
    obtain ⟨ks, h1, h2⟩ := nkeys_pl (ps := ps) fun x hx => h x (List.mem_cons_of_mem _ hx)
    have hd := h d List.mem_cons_self
    cases d <;> simp only [plK] at hd <;> first | cases hd | skip
    all_goals
      simp only [nkey.nkeys, nkey, h1]
      refine ⟨_, rfl, ?_⟩
      simp only [NestedKey.depth, NestedKey.depthAll] at h2 ⊢
      omega
theorem nkeys_inj : ∀ {ps rs : List D} {ks : List NestedKey}, (∀ d ∈ ps, plK d = true) → (∀ d ∈ rs, plK d = true) → nkey.nkeys ps = some ks → nkey.nkeys rs = some ks → ps = rs
  | [], [], _, _, _, _, _ => rfl
  | [], r :: rs, ks, _, h2, e1, e2 => by
    simp only [nkey.nkeys] at e1 e2
    cases e1
    split at e2 <;> cases e2
  | p :: ps, [], ks, _, h2, e1, e2 => by
    simp only [nkey.nkeys] at e1 e2
    cases e2
    split at e1 <;> cases e1
  | p :: ps, r :: rs, ks, h1, h2, e1, e2 => by
    have hp := h1 p List.mem_cons_self
    have hr := h2 r List.mem_cons_self
    simp only [nkey.nkeys] at e1 e2
    split at e1
    · rename_i k1 ks1 a1 b1
      split at e2
      · rename_i k2 ks2 a2 b2
        cases e1
        cases e2
        have := nkeys_inj (fun x hx => h1 x (List.mem_cons_of_mem _ hx)) (fun x hx => h2 x (List.mem_cons_of_mem _ hx)) b1 b2
        subst this
        congr 1
        cases p <;> simp only [plK] at hp <;> first | cases hp | skip
        all_goals
          cases r <;> simp only [plK] at hr <;> first | cases hr | skip
          all_goals
            simp only [nkey] at a1 a2
            cases a1
            first | (cases a2; rfl) | cases a2
      · cases e2
    · cases e1
theorem nkey_tup {ps : List D} {ks : List NestedKey} (h : nkey.nkeys ps = some ks) : nkey (.tup ps) = some (.tup ks) := by
  simp only [nkey, h, Option.map_some]
end DL

set_option Elab.async false
set_option linter.all false
set_option maxRecDepth 100000
set_option maxHeartbeats 4000000
/-! # DX: a slice as an own list -/
namespace DL
open PySem PySem.Spec PyProof.Rows L2
section
variable {X : Cx} {B : Bd} {pos : Pos}
def slKO (q : DQ) (x : D) (l : Option Int) : Option Int → Ow → Prop := fun u O3 => ∃ ds, asL O3 x = some ds ∧ ∀ r, O3 r = none → q (.ref r) (setO O3 r (.lst (cutD ds l u)))
def dSlO (te : DTE) (tl th : DTO) : DTE := fun env O q => te env O fun x O1 => tl env O1 fun l O2 => th env O2 (slKO q x l)
theorem de_sliceO {e : Expr} {lo hi : Option Expr} {p2 : Pos} {te : DTE} {tl th : DTO} (hK : X.K = B.K) (he : PE X e (lift B te)) (hl : PO X lo (liftO B tl)) (hu : PO X hi (liftO B th)) : PE X (.Subscript e (.Slice lo hi none p2) pos) (lift B (dSlO te tl th)) :=
  PE.weak (pe_slice (sl_list.or sl_tupA) he hl hu) fun σ H Q h => by
    obtain ⟨env, O, F, q, R, h, k⟩ := h
    refine ⟨env, O, F, _, R, h, fun x v O1 H1 F1 a1 r1 h1 => ?_⟩
    have R1 := R.call a1
    refine ⟨env, O1, F1, _, R1, h1, fun l O2 H2 F2 a2 h2 => ?_⟩
    have R2 := R1.call a2
    refine ⟨env, O2, F2, _, R2, h2, fun u O3 H3 F3 a3 h3 => ?_⟩
    have R3 := R2.call a3
    have r3 := (r1.mono a2.ff).mono a3.ff
    have k' : ∀ d v O' H' F', After B.K O3 H3 F3 O' H' F' → RV B.K F' d v → q d O' → Q v H' := fun d v O' H' F' a => k d v O' H' F' (a1.trans (a2.trans (a3.trans a)))
    obtain ⟨ds, e1, h3⟩ := h3
    obtain ⟨p, xs, rfl, s1, rr⟩ := asL_sq R3.fh R3.ow r3 e1
    exact .inl ⟨p, xs, rfl, by rw [hK]; exact s1, fun c hc => k' _ _ _ _ F3 (R3.own hc (u := .lst _) ⟨_, rfl, rr.cut l u⟩) (.ref c) (h3 c (R3.free hc).1)⟩
theorem i_slOw {te : DTE} {tl th : DTO} {env : Env} {O : Ow} {q : DQ} (h : te env O fun x O1 => tl env O1 fun l O2 => th env O2 (slKO q x l)) : dSlO te tl th env O q := h
theorem i_slKO {q : DQ} {p : Addr} {ds : List D} {l u : Option Int} {O : Ow} (hp : O p = some (.lst ds)) (h : ∀ r, O r = none → q (.ref r) (setO O r (.lst (cutD ds l u)))) : slKO q (.ref p) l u O := ⟨ds, asL_ref hp, h⟩
end
theorem lcGo_invZ {g : DTG} {tt : DTT} {te : DTE} {Gd : Ow → Prop} {env : Env} {O : Ow} {xs : List D} {q : List D → Ow → Prop} (P : Nat → List D → Ow → Prop) (h0 : P 0 [] O) (hG : ∀ i ys O, P i ys O → Gd O)
    (hs : ∀ (i : Nat) (x : D) (ys : List D) (O : Ow) (k : DQ) (z : Ow → Prop), xs[i]? = some x → P i ys O → (∀ y o o2, SubO o2 o → P (i + 1) (ys ++ [y]) o2 → k y o) → (∀ o o2, SubO o2 o → P (i + 1) ys o2 → z o) → g x env O fun env2 _ => tt env2 O fun b O3 => if b = true then te env2 O3 k else z O3)
    (hd : ∀ ys O, P xs.length ys O → q ys O) : lcGo g tt te Gd xs env O q := by
  suffices h : ∀ (zs : List D) (i : Nat) (acc : List D) (O : Ow), xs.drop i = zs → i ≤ xs.length → P i acc O → lcGo g tt te Gd zs env O fun ys O => q (acc ++ ys) O from h xs 0 [] O rfl (Nat.zero_le _) h0
  intro zs
  induction zs with
  | nil =>
    intro i acc O e hi hp
    have : i = xs.length := Nat.le_antisymm hi (List.drop_eq_nil_iff.mp e)
    subst this
    exact ⟨hG _ _ _ hp, by show q (acc ++ []) O; rw [List.append_nil]; exact hd _ _ hp⟩
  | cons x zs ih =>
    intro i acc O e hi hp
    have hx : xs[i]? = some x := by
      have := congrArg (·[0]?) e
      simpa using this
    have hi' : i < xs.length := (List.getElem?_eq_some_iff.mp hx).1
    have e2 : xs.drop (i + 1) = zs := by
      have := congrArg List.tail e
      simpa using this
    refine ⟨hG _ _ _ hp, hs i x acc O _ _ hx hp (fun y o o2 sb hp2 => ⟨o2, sb, ?_⟩) fun o o2 sb hp2 => ⟨o2, sb, ?_⟩⟩
    · have := ih (i + 1) (acc ++ [y]) o2 e2 hi' hp2
      simpa [List.append_assoc] using this
    · exact ih (i + 1) acc o2 e2 hi' hp2
end DL

set_option Elab.async false
set_option linter.all false
set_option maxRecDepth 100000
set_option maxHeartbeats 4000000
/-! # DY: != of own instances that have only __eq__ -/
namespace DL
open PySem PySem.Spec PyProof.Rows L2 PySem.W
section
variable {prog : Program} {w : World} {A A₀ : Around} {E : Value → Shared → Prop} {s : Shared} {K : Frag} {x C L f : Addr} {h₀ : Heap} {m : Str → Option Value} {ox : Obj} {od : Option Obj} {name : Str} {b tb : Value}
theorem ne_check {M : Model} {Q : Unit → Shared → Prop} (X : K.In s.heap) (I : InstAt s.heap x ox C od) (hsub : subIn K (.ref C) (.type "object") = some true) (hq : Q () s) : wpAny M A (checkBuiltinCall "object.__ne__" ⟨[.ref x, b], []⟩) Q E s := by
  have ha := F.cmpArgs_ne (.ref x) b
  simp only [checkBuiltinCall, F.cmpKind_ne, F.cmpSplit_ne]
  refine wpAny_bind ?_
  unfold isInstance
  refine wpAny_bind (I.type.here ((looks_subIn X hsub).here ?_))
  simp only [Bool.not_true, Bool.false_eq_true, if_false]
  cases hsig : Manifest.signature? "object.__ne__" with
  | none => exact wpAny_pure hq
  | some sig =>
    simp only [argsOk, hsig] at ha
    have h2 : Bind.checkArgs "object.__ne__" sig ⟨[.ref x, b], []⟩ = pure () := ha
    show wpAny M A (Bind.checkArgs "object.__ne__" sig ⟨[.ref x, b], []⟩) Q E _
    rw [h2]; exact wpAny_pure hq
theorem slotBound_K {M : Model} {args : List Value} {Q : Option Value → Shared → Prop} (X : K.In s.heap) (I : InstAt s.heap x ox C od) (hs : findIn K (.ref C) "__ne__" = some (some (.builtin "object.__ne__")))
    (h : wpAny M A (call (.builtin "object.__ne__") (.ref x :: args)) (fun v => Q (some v)) E s) : wpAny M A (callSpecialIfBound? (.ref x) "__ne__" args) Q E s := by
  simp only [callSpecialIfBound?, bindSpecialIfBound?]
  refine wpAny_holding (wpAny_bind (wpAny_bind (wpAny_bind (I.type.here ((looks_findIn X hs).here ?_)))))
  refine wpAny_bind (wpAny_askSetting (wpAny_ite ?_))
  have fin : wpAny M A (call (.builtin "object.__ne__") ([.ref x] ++ args) >>= fun v => pure (some v)) Q E s := wpAny_bind (wpAny_mono h (fun v s' h' => wpAny_pure h') fun _ _ h' => h')
  simp only [F.slot_object_ne.bind]
  split
  · exact wpAny_bind (wpAny_pure (wpAny_pure fin))
  · exact wpAny_tryCatch (wpAny_bind (wpAny_pure (wpAny_pure fin)))
theorem ne_entry {Q : Fin → Shared → Prop} (X : K.In s.heap) (I : InstAt s.heap x ox C od) (hs : findIn K (.ref C) "__eq__" = some (some (.ref f))) (hf : isFn K (.ref f) = true) (hu : A.units < cLine)
    (hcall : wpAny (model prog w) A (call (.ref f) [.ref x, b]) (fun v s' => ∃ c, v = .bool c ∧ Q (.done (.ret (.bool (!c)))) s') E s) :
    wpAny (model prog w) A (Builtin.«object.__ne__» ⟨[.ref x, b], []⟩) Q E s := by
  unfold Builtin.«object.__ne__»
  repeat (first
    | with_reducible refine wpAny_cRoomFor hu ?_
    | (refine wpAny_bind (m := callSpecialIfBound? (.ref x) (Str.ofString "__eq__") [b])
        (ifBound_K X I hs hf (wpAny_mono hcall (fun r s' hr => by
          obtain ⟨b, rfl, hq⟩ := hr
          repeat (first | exact hq | exact wpAny_pure hq | exact wpAny_truthy_bool hq | (refine wpAny_bind (m := truthy (.bool _)) (wpAny_truthy_bool ?_)) | wp_step)) fun _ _ e => e)))
    | wp_step)
/-- != by __eq__ -/
theorem cmpNe_K {Q : Value → Shared → Prop} (hu : A.units + 1 < cLine) (F0 : Fr h₀ L s.heap m) (X₀ : K.In h₀) (I : InstAt s.heap x ox C od) (hb : Looks (model prog w) s.heap (typeOf b) tb) (hn : notFirst K C tb = true)
    (hs : findIn K (.ref C) "__eq__" = some (some (.ref f))) (hf : isFn K (.ref f) = true) (hne : findIn K (.ref C) "__ne__" = some (some (.builtin "object.__ne__"))) (hsub : subIn K (.ref C) (.type "object") = some true)
    (h : wpAny (model prog w) A.in1 (call (.ref f) [.ref x, b]) (fun v s' => ∃ c, v = .bool c ∧ Q (.bool (!c)) s') E s) : wpAny (model prog w) A (richCompare .NotEq (.ref x) b) Q E s := by
  have X := X₀.keeps F0.keep
  have one : wpAny (model prog w) A (tryCompare (.ref x) "__ne__" b) (fun r s' => ∃ v, r = some v ∧ Q v s') E s := by
    unfold tryCompare
    refine wpAny_bind (slotBound_K X I hne (wpAny_call (codeAny_call_builtin F.slot_object_ne.plain F.cmpEntry_ne (ne_check X I hsub (ne_entry (A := A.in1) X I hs hf hu (wpAny_mono h (fun v s' hv => ?_) fun _ _ e => e))))))
    obtain ⟨c, rfl, hq⟩ := hv
    exact ⟨c, rfl, wpAny_pure ⟨_, rfl, hq⟩⟩
  unfold richCompare
  simp only [oneThing_ref]
  refine wpAny_holding (wpAny_bind (wpAny_cRoomFor (by omega) ?_))
  rw [cmpInfo_NotEq]
  dsimp only
  refine wpAny_bind (I.type.here (wpAny_bind (hb.here ?_)))
  split
  · rename_i q
    have e : subIn K tb (.ref C) = some false := by
      rcases Bool.or_eq_true_iff.mp hn with e | e
      · rw [beq_iff_eq.mp e] at q; simp at q
      · exact beq_iff_eq.mp e
    refine wpAny_bind ((looks_subIn X e).here ?_)
    simp only [Bool.false_eq_true, if_false]
    refine wpAny_bind (wpAny_mono one (fun r s' z => ?_) fun _ _ e => e)
    obtain ⟨v, rfl, hq⟩ := z
    exact wpAny_pure hq
  · refine wpAny_bind (wpAny_pure ?_)
    simp only [Bool.false_eq_true, if_false]
    refine wpAny_bind (wpAny_mono one (fun r s' z => ?_) fun _ _ e => e)
    obtain ⟨v, rfl, hq⟩ := z
    exact wpAny_pure hq
end
section
variable {X : Cx} {B : Bd} {k j : Nat} {wx : DW} {C f : Addr} {fd : FuncData} {ps : List Str} {sp : Sp} {a b : Expr} {ta tb : DTE} {pos : Pos} {x qn : Str} {st : Stmt} {kws : List (Str × V)} {fn : DF}
/-- != is by object's -/
def NeObj (K : Frag) (C : Addr) : Prop := findIn K (.ref C) "__ne__" = some (some (.builtin "object.__ne__")) ∧ subIn K (.ref C) (.type "object") = some true
def neB (x : Str) : Fac := fun K => (findIn K (.ref (He.ga K x)) "__ne__" == some (some (.builtin "object.__ne__"))) && (subIn K (.ref (He.ga K x)) (.type "object") == some true)
theorem neB_ok {K : Frag} {x : Str} (h : neB x K = true) : NeObj K (He.ga K x) := by
  obtain ⟨h1, h2⟩ := Bool.and_eq_true_iff.mp h
  exact ⟨beq_iff_eq.mp h1, beq_iff_eq.mp h2⟩
def rOwnNeA (K : Frag) (C : Addr) (sp : Sp) : R2 := fun x y H Q => ∃ a dx fs, x = .ref a ∧ H a = some (.ins C dx fs) ∧ ((∃ b dy gs, y = .ref b ∧ H b = some (.ins C dy gs)) ∨ ∃ t, t ∈ tyKnown ∧ TyX K H y (.type t)) ∧ sp [.ref a, y] H (fun v H' => ∃ c, v = .bl c ∧ Q (.bl (!c)) H') (fun _ _ _ => False)
theorem op_ownNeA (nf : ∀ a ∈ tyKnown, PySem.W.notFirst X.K C (.type a) = true) (sc : Meth X.K C "__eq__" f) (ne : NeObj X.K C) (Fn : FnG X.prog X.w X.K X.mg X.base (L2.CX X.prog X.w) k f fd ps sp) (hgd : X.A.guards = some []) (hr : Room (k + 1) X.A) (hb : Binds X.K fd ps []) : OpR X (compareOp .NotEq) (rOwnNeA X.K C sp) := by
  intro pins s σ H x y v u Q I rx ry h
  obtain ⟨a, dx, fs, rfl, ea, hy, h⟩ := h
  obtain rfl : v = Value.ref a := rx
  obtain ⟨mA, Oo, _⟩ := ins_get I.hok ea
  obtain ⟨od, J, _⟩ := Oo.look
  obtain ⟨m, fr⟩ := I.fr
  have fin := run_G0 (A := X.A.in1) (vs := [.ref a, y]) (us := [.ref a, u]) (E := X.xe) Fn hgd hr.in1 hb I.env0.in1 I (.cons rfl (.cons ry .nil)) h
  have fin2 : wpAny (model X.prog X.w) X.A.in1 (call (.ref f) [.ref a, u]) (fun v s' => ∃ c, v = .bool c ∧ EP X pins σ Q (.bool (!c)) s') X.xe s := thn fin fun r s' z => by
    obtain ⟨w, H', I', rw', c, rfl, q⟩ := z
    obtain rfl : r = Value.bool c := rw'
    exact ⟨c, rfl, .bl (!c), H', I', rfl, q⟩
  rcases hy with ⟨b, dy, gs, rfl, eb⟩ | ⟨t, ht, ty⟩
  · obtain rfl : u = Value.ref b := ry
    obtain ⟨mB, O2, _⟩ := ins_get I.hok eb
    obtain ⟨od2, J2, _⟩ := O2.look
    exact cmpNe_K (tb := .ref C) (by have := hr.un; omega) fr I.ok.mod.kin J J2.type (by simp [PySem.W.notFirst]) sc.at_ sc.fn ne.1 ne.2 fin2
  · obtain ⟨P, Z, p, _⟩ := kit_of I ry ty
    exact cmpNe_K (tb := .type t) (by have := hr.un; omega) fr I.ok.mod.kin J (Z.ty _ _ I.kIn p) (nf t ht) sc.at_ sc.fn ne.1 ne.2 fin2
def dOwnNeA (C : Addr) (fn : DF) : DR2 := fun x y O q => ∃ fs, InsAt C O x fs ∧ AnyI C O y ∧ fn [x, y] O (fun d O' => ∃ c, d = .bl c ∧ q (.bl (!c)) O') (fun _ _ _ => False)
theorem sim_ownNeA : Sim2 B (rOwnNeA B.K C (spD B.K 2 fn)) (dOwnNeA C fn) := by
  intro env O σ H F x y dx dy q Q R rx ry h kk
  obtain ⟨fs, i1, i2, h⟩ := h
  obtain ⟨a, d1, fs', rfl, e1, _⟩ := i1.ok R.fh R.ow rx
  refine ⟨a, d1, fs', rfl, e1, ?_, F, O, [dx, dy], _, _, R.fh, R.ow, .cons rx (.cons ry .nil), rfl, h, fun d v O' H' F' a rr hq => ?_, fun _ _ _ _ _ _ _ _ z => z⟩
  · rcases i2 with ⟨gs, i2⟩ | ⟨t, e⟩
    · obtain ⟨b, d2, gs', rfl, e2, _⟩ := i2.ok R.fh R.ow ry
      exact .inl ⟨b, d2, gs', rfl, e2⟩
    · exact .inr ⟨t, tyN_mem e, tyN_ok R.fh R.ow ry e⟩
  · obtain ⟨b, rfl, hq⟩ := hq
    cases rr
    exact ⟨b, rfl, kk _ _ O' H' F' a (.bl _) hq⟩
theorem so_ownNeA (S : Site X B j wx) (nf : ∀ a ∈ tyKnown, PySem.W.notFirst X.K C (.type a) = true) (ne : NeObj X.K C) (sc : Meth X.K C "__eq__" f) (Cl : Fn X.prog X.w X.K X.mg X.base x qn st [] kws ps 2 k fn f) (hj : k + 1 ≤ j) (hb : Bd0 x qn st ps) (ha : PE X a (lift B ta)) (hb2 : PE X b (lift B tb)) : PE X (.Compare a [.NotEq] [b] pos) (lift B (dOp (dOwnNeA C fn) ta tb)) := by
  obtain ⟨fd, G, F⟩ := Cl.ex
  exact de_cmp (op_ownNeA nf sc ne G S.gd (S.rm.mono hj) (FunD.b0 F hb)) (by rw [S.hK]; exact sim_ownNeA) ha hb2 (nomark _)
theorem st_ownNeA (S : Site X B j wx) (nf : ∀ a ∈ tyKnown, PySem.W.notFirst X.K C (.type a) = true) (ne : NeObj X.K C) (sc : Meth X.K C "__eq__" f) (Cl : Fn X.prog X.w X.K X.mg X.base x qn st [] kws ps 2 k fn f) (hj : k + 1 ≤ j) (hb : Bd0 x qn st ps) (ha : PE X a (lift B ta)) (hb2 : PE X b (lift B tb)) : PT X (.Compare a [.NotEq] [b] pos) (liftT B (dTest (dOp (dOwnNeA C fn) ta tb))) := by
  obtain ⟨fd, G, F⟩ := Cl.ex
  exact dt_cmp (op_ownNeA nf sc ne G S.gd (S.rm.mono hj) (FunD.b0 F hb)) (by rw [S.hK]; exact sim_ownNeA) ha hb2 (nomark _)
theorem i_ownNeA {O : Ow} {q : DQ} {ns : List Str} {ds : List D} {y : D} (hy : AnyI C O y) (h : fn [.ins C ns ds, y] O (fun d O' => ∃ c, d = .bl c ∧ q (.bl (!c)) O') (fun _ _ _ => False)) : dOwnNeA C fn (.ins C ns ds) y O q := ⟨_, ⟨rfl, rfl⟩, hy, h⟩
end
end DL

set_option Elab.async false
set_option linter.all false
set_option maxRecDepth 100000
set_option maxHeartbeats 4000000
/-! # DZ: a walk over an own instance whose __iter__ is iter(self.f), f a tuple; list(o) of such an instance -/
namespace DL
open PySem PySem.Spec PyProof.Rows L2 ItX
/-! ### the tuple's iterator -/
def itTup (l : Addr) : Obj := { cls := .type "tuple_iterator", data := .fields #[.ref l, .int 0 0] }
def ItT (l it : Addr) : HO := .ext fun h => h.get? it = some (itTup l)
theorem itT_ok {P : Program} {w : World} {H : Hp} {h : Heap} {l it : Addr} (e : h.get? it = some (itTup l)) : ObjOk P w H h it (ItT l it) := ⟨e, ⟨_, e⟩, fun h1 h2 q k => k _ q⟩
theorem itT_get {X : Cx} {pins : List (Addr × Obj)} {σ : St} {H : Hp} {s : Shared} {l it : Addr} (I : Inv X pins σ H s) (e : H it = some (ItT l it)) : s.heap.get? it = some (itTup l) := (I.hok it _ e).1
theorem call_iterT0 {prog : Program} {w : World} {A : Around} {E : Value → Shared → Prop} {s : Shared} {l : Addr} {items : Array Value} {Q : Value → Shared → Prop} (hl : s.heap.IsTuple l items) (h : Q (.ref s.heap.objs.size) { s with heap := s.heap.push (itTup l) }) : wpAny (model prog w) A (call (.builtin "iter") [.ref l]) Q E s := by
  refine Calls.call_function_entry (by decide +kernel) (by decide +kernel) PySem.W.kdk_entry_iter (PySem.W.kdk_args_iter _) ?_
  unfold Builtin.«iter»
  refine wpAny_bind (m := someArgs "iter" 1 2 _) (wpAny_of_eq (a := [Value.ref l]) (by first | rfl | kernel_rfl!) ?_)
  show wpAny _ _ (pyIter (.ref l) >>= _) _ _ _
  refine wpAny_bind (wpAny_pyIter_tuple hl ?_)
  exact wpAny_pure ⟨_, rfl, h⟩
def rIterT (K : PySem.W.Frag) (n : Nat) : List V → Hp → VK → Prop := fun xs H Q => ∃ (l : Addr) (zs : List V), xs = [.ref l] ∧ SqT K H l zs ∧ ∀ it, H it = Option.none → n ≤ it → Q (.ref it) (upd H it (ItT l it))
theorem call_iterT {X : Cx} : CallR X (.builtin "iter") (rIterT X.K X.s_0.heap.objs.size) := by
  intro pins s σ H xs us Q I r h
  obtain ⟨l, zs, rfl, hq, q⟩ := h
  obtain ⟨u, rfl, ru⟩ := vals1 r
  cases ru
  obtain ⟨its, rv, pl, hz⟩ := I.tuple hq
  refine call_iterT0 (show s.heap.IsTuple l its.toArray from pl) ?_
  exact ⟨.ref s.heap.objs.size, _, I.laid (t' := s.toks) (fun b u e => Heap.get?_push_of_some _ e) (Nat.le_refl _) (itT_ok (Heap.get?_push_size _ rfl)), rfl, q _ (I.hok.fresh (Nat.le_refl _)) I.sz⟩
/-! ### __iter__ -/
structure ItFnT (P : Program) (w : World) (K : Frag) (mg : Str → Option Value) (base : Heap) (C : Addr) (f : Str) (fa : Addr) : Prop where
  run : ∀ (A : Around) (outer : List PySem.Env) (s : Shared) (H : Hp) (a dx : Addr) (gs : List (Str × V)) (l : Addr) (zs : List V), Room 1 A → Env0 P w K mg base A outer s H → H a = some (.ins C dx gs) → gs.lookup f = some (.ref l) → SqT K H l zs →
    codeAny (model P w) A (.call (.ref fa) ⟨[.ref a], []⟩) (fun r s' => match r with
      | .ok (.ret u) => ∃ it, u = .ref it ∧ s.heap.objs.size ≤ it ∧ H it = none ∧ CE outer P w H s (fun v H' => v = .ref it ∧ H' = upd H it (ItT l it)) (.ref it) s'
      | .ok _ => False
      | .error e => CX0 outer H s (fun _ _ _ => False) e s') s
theorem itfnT_E {P : Program} {w : World} {K : Frag} {mg : Str → Option Value} {base : Heap} {x qual : Str} {st : Stmt} {C fa : Addr} {f : Str} {p1 p2 p3 p4 p5 : Pos} (F : HasD K x qual st [] [] fa) (S : FnScope ["self"] ["self"] (defScope st))
    (hb : defBody st = [.Return (some (.Call (.Name "iter" p1) [.Attribute (.Name "self" p2) f p3] [] p4)) p5]) (b : Bd0 x qual st ["self"]) (c : Cls K C) (n : NoAttr K C f) (hm : mg "iter" = none)
    (hg : ∀ (s : Shared) (H : Hp) (cdv : Value) (A : Around) (outer : List PySem.Env) (E : XK), Gl (cxOf CX0 P w K mg base ["self"] qual (defScope st) fa cdv A outer s H E) "iter") : ItFnT P w K mg base C f fa := by
  obtain ⟨fd, F⟩ := F
  have bnd := FunD.b0 F b
  obtain ⟨oc, od, dV, kV, doc, pm, an, cdv, ct, osl, rfl, lk, hcd, hD, hK2⟩ := F.ex
  refine ⟨fun A outer s H a dx gs l zs room e0 ha hf hs => ?_⟩
  have hK : K.In s.heap := e0.mod.kin.keeps fun b o z => (e0.bs b o z).1
  have hkind : ∀ y ∈ (["self"] : List Str).zip [Value.ref a], (defScope st).names.lookup y.1 = some .local ∨ ((defScope st).names.lookup y.1 = some .cell ∧ ((cellsFrom (s.heap.objs.size + 1) (defScope st).names []).lookup y.1).isSome = true) := by
    rintro ⟨nm, v⟩ hy
    have := S.par nm (List.of_mem_zip hy).1
    exact this.imp id fun q => ⟨q, PySem.W.cellsFrom_some _ _ _ (.inl q)⟩
  have hlim : s.heap.NoLimit := e0.mod.nolimit.keeps fun b o z => (e0.bs b o z).1
  have hbb := bnd s [.ref a] hK rfl
  refine codeAny_call_function room.depth (hK _ _ lk) rfl S.co S.gen rfl (PySem.W.codeRec_of hK hcd) (hbb _ _ _ _ (wpAny_newFunctionEnv_cells S.kind hkind ?_))
  rintro env rfl s1 inn
  refine ⟨hlim.keeps inn.toInCall.keep, codeAny_func ?_⟩
  have J := inv_start (CX := CX0) (E := fun _ _ _ => False) (vs := [.ref a]) S room.hd e0 rfl (.cons rfl .nil) inn
  obtain ⟨t, ht, hq⟩ : ∃ t, PSs (cxOf CX0 P w K mg base ["self"] qual (defScope st) fa cdv A outer s H (fun _ _ _ => False)) (defBody st) t ∧
      t { nx := fun _ _ => False, rt := fun v H' => ∃ it, v = .ref it ∧ s.heap.objs.size ≤ it ∧ H it = none ∧ H' = upd H it (ItT l it) } (start ["self"] [.ref a]) H := by
    rw [hb]
    refine ⟨_, pss_one (ps_ret (pe_callB call_iterT (hg _ _ _ _ _ _) hm (by decide +kernel) (pa_cons (pe_fld (pe_var (i := 0) rfl ((S.par "self" (List.Mem.head _)).elim (fun z => .inl z) (fun z => .inr (.inl z)))) rfl) pa_nil) (by decide) (by decide) rfl rfl)), ?_⟩
    refine ⟨.ref a, rfl, a, C, dx, gs, .ref l, rfl, ha, c, n, hf, ?_⟩
    exact ⟨l, zs, rfl, hs, fun it h1 h2 => ⟨it, rfl, h2, h1, rfl⟩⟩
  refine wpAny_mono (ht.run [] s1 _ H _ J hq) (fun fl s' z => ?_) fun _ _ z => ?_
  · rcases fl with _ | _ | _ | u
    · obtain ⟨_, _, _, q⟩ := z
      exact q.elim
    · obtain ⟨_, _, _, q⟩ := z
      exact q.elim
    · obtain ⟨_, _, _, q⟩ := z
      exact q.elim
    · obtain ⟨v, σ', H', J', rv, it, rfl, q1, q2, rfl⟩ := z
      obtain rfl : u = Value.ref it := rv
      exact ⟨it, rfl, q1, q2, .ref it, _, J'.os, J'.bare, J'.base, J'.hok, rfl, rfl, rfl⟩
  · exact z
section
variable {X : Cx} {B : Bd} {k : Nat} {wx : DW} {tg e : Expr} {C fa : Addr} {f : Str} {te : DTE} {pos : Pos}
/-- iter(o), at any depth -/
theorem iter_own {A : Around} {pins : List (Addr × Obj)} {s : Shared} {σ : L2.St} {H : Hp} {a dx l : Addr} {gs : List (Str × V)} {zs : List V} {Q : Value → Shared → Prop} {E : Value → Shared → Prop} (M : Meth X.K C "__iter__" fa) (F : ItFnT X.prog X.w X.K X.mg X.base C f fa) (hr : Room 1 A) (e0 : Env0 X.prog X.w X.K X.mg X.base A X.stack s H)
    (I : Inv X pins σ H s) (ea : H a = some (.ins C dx gs)) (el : gs.lookup f = some (.ref l)) (hs : SqT X.K H l zs)
    (q : ∀ it s', s.heap.objs.size ≤ it → H it = none → Inv X pins σ H s' → s'.heap.IsTupleIter it l 0 → FpOk X pins H it → Un (frs X.stack) [] H H s.heap s'.heap → Q (.ref it) s') : wpAny (model X.prog X.w) A (pyIter (.ref a)) Q E s := by
  obtain ⟨mA, Oo, _⟩ := ins_get I.hok ea
  obtain ⟨od, J, _⟩ := Oo.look
  obtain ⟨m, fr⟩ := I.fr
  refine PySem.W.owit_iter fr I.ok.mod.kin J M.at_ M.fn (wpAny_call (codeAny_mono (F.run A X.stack s H a dx gs l zs hr e0 ea el hs) fun r s' hq => ?_))
  match r, hq with
  | .error e, hq => exact hq.elim
  | .ok (.ret u), hq =>
    obtain ⟨it, rfl, hsz, hn, ce⟩ := hq
    have un : Un (frs X.stack) [] H H s.heap s'.heap := by
      obtain ⟨v, H', _, _, un, _⟩ := ce
      exact ⟨un.keep, un.slot, fun _ _ _ z _ => z, un.there, fun _ _ z => z, fun _ _ _ z => z, fun b ps z => ⟨#[], by rw [z]; simp⟩⟩
    obtain ⟨v2, H2, I2, rv2, rfl, rfl⟩ := I.after ce
    have hi : (upd H it (ItT l it)) it = some (ItT l it) := upd_same
    have eo := itT_get I2 hi
    have st : s'.heap.IsTupleIter it l 0 := ⟨_, eo, rfl, rfl⟩
    have hT : s'.TypeIs (.ref it) "tuple_iterator" := ⟨_, eo, rfl⟩
    unfold PySem.W.OwitIt
    refine wpAny_specialOf (name := Str.ofString "__next__") hT slot_tupleiter_next.lookup ?_
    have hi' := hi
    unfold ItT at hi'
    have I3 := inv_drop I2 hi'
    have hfp := inv_fp I2 hi (Nat.le_trans I.sz hsz)
    have eD : dropH (upd H it (HO.ext fun h => h.get? it = some (itTup l))) it = H := dropH_upd hn
    have eD2 : dropH (upd H it (ItT l it)) it = H := dropH_upd hn
    rw [eD2] at I3 hfp
    exact q it s' hsz hn I3 st hfp un
  | .ok .next, hq => exact False.elim hq
  | .ok .brk, hq => exact False.elim hq
  | .ok .cont, hq => exact False.elim hq
theorem pi_ownT {te : TE} (M : Meth X.K C "__iter__" fa) (F : ItFnT X.prog X.w X.K X.mg X.base C f fa) (hr : Room 1 X.A) (he : PE X e te) :
    PI X tg e (fun σ H R => te σ H fun x H1 => ∃ a dx gs l zs, x = .ref a ∧ H1 a = some (.ins C dx gs) ∧ gs.lookup f = some (.ref l) ∧ SqT X.K H1 l zs ∧ R (Itt X.K l) H1) := by
  refine ⟨fun pins s σ H R I h => thn (he.run pins s σ H _ I h) fun v s1 hh => ?_⟩
  obtain ⟨x, H1, I1, r1, a, dx, gs, l, zs, rfl, ea, el, hs, q⟩ := hh
  obtain rfl : v = Value.ref a := r1
  refine iter_own M F hr I1.env0 I1 ea el hs fun it s' hsz hn I3 st hfp un => ?_
  refine ⟨it, [it], _, _, H1, rfl, I3, turn_tuple l it, st, fun b hb => ?_, q⟩
  have e : b = it := by simpa using hb
  rw [e]
  exact hfp
end
end DL

set_option Elab.async false
set_option linter.all false
set_option maxRecDepth 100000
set_option maxHeartbeats 4000000
/-! # EA: for x in o, list(o) of own instances whose __iter__ is iter(self.f), f a tuple, and that have a __len__ -/
namespace DL
open PySem PySem.Spec PyProof.Rows L2 ItX
section
variable {X : Cx} {B : Bd} {k j : Nat} {wx : DW} {tg e : Expr} {C fa fl : Addr} {f : Str} {te : DTE} {tA : DTA} {pos p : Pos} {A1 : Around} {pins : List (Addr × Obj)} {σ : L2.St} {fd : FuncData} {ps : List Str} {sp : Sp}
theorem sqT_upd {K : Frag} {H : Hp} {q l : Addr} {o : HO} {ys zs : List V} (hq : H q = some (.lst ys)) (h : SqT K H l zs) : SqT K (upd H q o) l zs := by
  rcases h with (h | ⟨u, h⟩) | h
  · have : l ≠ q := fun z => by rw [z, hq] at h; cases h
    exact .inl (.inl (by rw [upd_ne this]; exact h))
  · have : l ≠ q := fun z => by rw [z, hq] at h; cases h
    exact .inl (.inr ⟨u, by rw [upd_ne this]; exact h⟩)
  · exact .inr h
theorem sqT_new {K : Frag} {H : Hp} {q l : Addr} {o : HO} {zs : List V} (hq : H q = none) (h : SqT K H l zs) : SqT K (upd H q o) l zs :=
  same_tup (fun b u e => by rw [upd_ne (ne_of_none e hq)]; exact e) h
theorem loopT {l it q : Addr} {zs : List V} {Rs : Result → Shared → Prop} {res : Value} (hh : A1.handled = none) (hlen : zs.length ≤ sizeLine) : ∀ (j i : Nat) (H : Hp) (s : Shared), zs.length = i + j → Inv X pins σ H s → H q = some (.lst (zs.take i)) → SqT X.K H l zs → s.heap.IsTupleIter it l i → FpOk X pins H it →
    (∀ s', Inv X pins σ (upd H q (.lst zs)) s' → Rs (.ok (.ret res)) s') → codeAny (model X.prog X.w) A1 (.builtin "list.extend.loop" ⟨[.ref q, .ref it, res], []⟩) Rs s
  | 0, i, H, s, hl, I, hq, hs, st, fp, hR => by
    refine codeAny_builtin PySem.F.entry_extend_loop ?_
    rw [Around.under_plainId PySem.F.plain_extend_loop _]
    show wpAny _ A1.in1 (pyNext (.ref it) >>= _) _ _ s
    obtain ⟨its, rv, p, hz⟩ := I.tuple hs
    obtain ⟨f0, f1, f2, f3, f4, f5⟩ := fp
    have hll := rv.length
    refine wpAny_bind (wpAny_pyNext_tuple_end hh st (show s.heap.IsTuple l its.toArray from p) (by simp; omega) fun h' eb => ?_)
    have I1 : Inv X pins σ H { s with heap := h' } := I.turned (t' := s.toks) (fun b o hb e => eb b o hb e) f0 f1 f3 f4 f5
    refine wpAny_pure (hR _ ?_)
    have : upd H q (.lst zs) = H := by
      funext b
      by_cases hb : b = q
      · rw [hb, upd_same, hq, List.take_of_length_le (by omega)]
      · rw [upd_ne hb]
    rw [this]
    exact I1
  | j + 1, i, H, s, hl, I, hq, hs, st, fp, hR => by
    refine codeAny_builtin PySem.F.entry_extend_loop ?_
    rw [Around.under_plainId PySem.F.plain_extend_loop _]
    show wpAny _ A1.in1 (pyNext (.ref it) >>= _) _ _ s
    obtain ⟨its, rv, p, hz⟩ := I.tuple hs
    obtain ⟨x, hx⟩ : ∃ x, zs[i]? = some x := ⟨_, List.getElem?_eq_getElem (by omega)⟩
    obtain ⟨u, hu, ru⟩ := rv.get hx
    obtain ⟨f0, f1, f2, f3, f4, f5⟩ := id fp
    refine wpAny_bind (wpAny_pyNext_tuple_item st (show s.heap.IsTuple l its.toArray from p) (x := u) (by simpa using hu) fun h' st' sb => ?_)
    have I1 : Inv X pins σ H { s with heap := h' } := I.turned (t' := s.toks) (fun b o hb e => (sb.2 b hb).trans e) f0 f1 f3 f4 f5
    show wpAny _ A1.in1 (updateSeq q (·.push u) >>= _) _ _ _
    obtain ⟨z, it2, k2, r2, hl2, e2⟩ := I1.lstM hq
    have hqi : q ≠ it := fun z => by rw [z, f0] at hq; cases hq
    have hlt : (zs.take i).length = i := by rw [List.length_take]; omega
    refine wpAny_bind (wpAny_updateSeq e2 rfl (wpAny_pure ⟨plainId_quiet PySem.F.plain_extend_loop _, ?_⟩) (by rw [List.size_toArray]; omega) (by show (it2.toArray.push u).size ≤ sizeLine + 1; rw [Array.size_push, List.size_toArray]; omega))
    have I2 := I1.lset (f := (·.push u)) (its' := it2 ++ [u]) (ys := zs.take (i + 1)) (t' := s.toks) hq e2 (by simp) (by rw [List.take_add_one, hx]; exact r2.append (.cons ru .nil)) (by rw [List.length_take]; omega)
    refine loopT hh hlen j (i + 1) _ _ (by omega) I2 upd_same (sqT_upd hq hs) (st'.at fun o e => (Heap.get?_update_other _ _ hqi).trans e) ⟨by rw [upd_ne (Ne.symm hqi)]; exact f0, f1, f2, f3, f4, f5⟩ fun s' I3 => hR s' ?_
    rw [upd_upd] at I3
    exact I3
def rListOwn (K : Frag) (C : Addr) (f : Str) (sp : Sp) : List V → Hp → VK → Prop := fun xs H Q => ∃ a dx gs l zs, xs = [.ref a] ∧ H a = some (.ins C dx gs) ∧ gs.lookup f = some (.ref l) ∧ SqT K H l zs ∧
  ∀ q, H q = none → sp [.ref a] (upd H q (.lst [])) (fun v H1 => ∃ n : Int, v = .int n ∧ (0 ≤ n ∧ n ≤ 16777216) ∧ H1 q = some (.lst []) ∧ SqT K H1 l zs ∧ Q (.ref q) (upd H1 q (.lst zs))) (fun _ _ _ => False)
theorem call_listOwnT (M : Meth X.K C "__iter__" fa) (F : ItFnT X.prog X.w X.K X.mg X.base C f fa) (ML : Meth X.K C "__len__" fl) (Fn : FnG X.prog X.w X.K X.mg X.base (L2.CX X.prog X.w) k fl fd ps sp) (hgd : X.A.guards = some []) (hr : Room (k + 4) X.A) (hb : Binds X.K fd ps []) : CallR X (.type "list") (rListOwn X.K C f sp) := by
  intro pins s σ H xs us Q I rv h
  obtain ⟨a, dx, gs, l, zs, rfl, ha, hf, hs, h⟩ := h
  obtain ⟨u, rfl, ru⟩ := rv.one
  cases ru
  refine callType_codes (Q₁ := fun obj s₁ => obj = .ref s.heap.objs.size ∧ s₁ = { s with heap := s.heap.push { cls := .type "list", data := .seq #[] } }) PySem.F.called_list (PySem.F.typeCall_list_1 _) PySem.F.entry_list_init
    (code_list_new _ ⟨rfl, rfl⟩) fun obj s₁ h₁ => ?_
  obtain ⟨rfl, rfl⟩ := h₁
  have hS : (s.heap.push { cls := .type "list", data := .seq #[] }).get? s.heap.objs.size = some { cls := .type "list", data := .seq #[] } := Heap.get?_push_size _ rfl
  refine ⟨⟨_, hS, rfl⟩, PySem.F.args_list_init_2 _ _, ?_⟩
  have fr : H s.heap.objs.size = none := I.hok.fresh (Nat.le_refl _)
  have hsp := h _ fr
  have I1 : Inv X pins σ (upd H s.heap.objs.size (.lst [])) { s with heap := s.heap.push { cls := .type "list", data := .seq #[] } } := I.lnew (its := []) (t' := s.toks) .nil (Nat.zero_le _)
  show wpAny _ _ (do let old ← Builtin.List.listItems (.ref s.heap.objs.size); Builtin.List.listUpdate (.ref s.heap.objs.size) (fun _ => #[]); letGo old.toList.reverse; Builtin.List.listExtendWith (.ref s.heap.objs.size) (.ref a) .none) _ _ _
  refine wpAny_bind ?_
  unfold Builtin.List.listItems
  refine wpAny_bind (wpAny_seqItems hS rfl (wpAny_pure ?_))
  show wpAny _ _ (updateSeq s.heap.objs.size (fun _ => #[]) >>= fun _ => letGo (#[] : Array Value).toList.reverse >>= fun _ => Builtin.List.listExtendWith (.ref s.heap.objs.size) (.ref a) .none) _ _ _
  refine wpAny_bind (wpAny_updateSeq hS rfl ?_)
  have I2 := I1.lset (f := fun _ => #[]) (its := []) (its' := []) (ys := []) (t' := s.toks) upd_same hS rfl .nil (Nat.zero_le _)
  rw [upd_upd] at I2
  refine wpAny_bind (wpAny_letGo ?_)
  have ha2 : upd H s.heap.objs.size (.lst []) a = some (.ins C dx gs) := by rw [upd_ne (ne_of_none ha fr)]; exact ha
  have hs2 : SqT X.K (upd H s.heap.objs.size (.lst [])) l zs := sqT_new fr hs
  have hq2 : upd H s.heap.objs.size (.lst []) s.heap.objs.size = some (.lst []) := upd_same
  generalize upd H s.heap.objs.size (.lst []) = H2 at I2 ha2 hs2 hq2 hsp
  generalize hqq : s.heap.objs.size = q at I2 hq2 hsp ⊢
  generalize hss : ({ s with heap := (s.heap.push { cls := .type "list", data := .seq #[] }).update q (Obj.mapSeq fun _ => #[]) } : Shared) = s2 at I2 ⊢
  have hne : q ≠ a := ne_of hq2 ha2 (fun z => nomatch z)
  have hr2 : Room (k + 2) X.A.in1.in1 := (Room.in1 hr).in1
  have hh : X.A.handled = none := hr.hd
  obtain ⟨mA, J, _⟩ := ins_get I2.hok ha2
  obtain ⟨od, J, _⟩ := J.look
  obtain ⟨m0, hF⟩ := I2.fr
  unfold Builtin.List.listExtendWith
  refine wpAny_bind (J.type.here ?_)
  have h1 : Builtin.List.listSameRef (.ref q) (.ref a) = false := by simp [Builtin.List.listSameRef, hne]
  have h2 : (Value.ref C == Value.type "list") = false := rfl
  have h3 : (Value.ref C == Value.type "tuple") = false := rfl
  simp only [h1, h2, h3, Bool.or_false, Bool.false_eq_true, if_false]
  refine wpAny_bind (iter_own M F (hr2.mono (by omega)) I2.env0.in1.in1 I2 ha2 hf hs2 fun it s3 hsz hn I3 st hfp un => ?_)
  refine wpAny_bind (wpAny_holding ?_)
  have I4 := I3.pinned (fp := [it]) (fun b hb => by
    have e : b = it := by simpa using hb
    rw [e]; exact hfp) (fun b hb => by
    have e : b = it := by simpa using hb
    rw [e]
    obtain ⟨o, e1, c, d⟩ := st
    exact ⟨o, e1, fun v z => by rw [d] at z; cases z⟩)
  obtain ⟨mB, J3, _⟩ := ins_get I4.hok ha2
  obtain ⟨od3, J3, _⟩ := J3.look
  obtain ⟨m3, hF3⟩ := I4.fr
  unfold Builtin.List.listLengthHint
  refine wpAny_bind (wpAny_bind (J3.type.here ((PySem.W.looks_findIn I4.kIn ML.at_).here ?_)))
  refine PySem.W.KFB.if_not rfl ?_
  refine wpAny_ite_split (fun _ => ?_) (fun z => absurd rfl z)
  refine wpAny_bind (wpAny_rule ?_)
  refine wpAny_bind (wpAny_attempt ?_)
  refine PySem.W.len_K hF3 I4.ok.mod.kin J3 ML.at_ ML.fn (thn (run_G0 (vs := [.ref a]) (us := [.ref a]) Fn hgd ((hr2.mono (by omega : k + 1 ≤ k + 2)).in1) hb I4.env0.in1.in1.in1 I4 (.cons rfl .nil) hsp) fun r s5 z => ?_)
  obtain ⟨w5, H5, I5, rw5, n, rfl, hn5, hq5, hs5, hQ⟩ := z
  obtain ⟨t5, rfl⟩ := rw5
  refine ⟨⟨hn5.1, by have := hn5.2; omega⟩, ?_⟩
  have hlong : Builtin.List.listTooLong n.toNat = false := by
    unfold Builtin.List.listTooLong
    rw [sizeLine_eq]
    exact decide_eq_false (by have := hn5.1; have := hn5.2; omega)
  refine wpAny_bind (wpAny_pure ?_)
  show wpAny _ _ (if Builtin.List.listTooLong n.toNat = true then _ else _) _ _ _
  rw [hlong]
  refine wpAny_ite_split (fun z => absurd z (by decide)) (fun _ => wpAny_pure ?_)
  -- the iterator is still there
  have I6 : L2.Inv X (pins ++ pinsAt [it] s3.heap) σ H5 { s5 with toks := s5.toks + 1 } := I5.tok _
  generalize ({ s5 with toks := s5.toks + 1 } : Shared) = s6 at I6 ⊢
  obtain ⟨o, ho, hc, hd⟩ := id st
  have pin := I6.pin (it, o) (List.mem_append_right _ (List.mem_append_right _ (by simp [pinsAt, ho])))
  have st6 : s6.heap.IsTupleIter it l 0 := ⟨o, pin.1, hc, hd⟩
  have fp6 : FpOk X pins H5 it := ⟨pin.2.1, hfp.2⟩
  have I7 := I6.unpinned
  have hlen : zs.length ≤ sizeLine := by
    obtain ⟨its, rv, p, hz⟩ := I7.tuple hs5
    exact hz
  have fin : ∀ s', L2.Inv X pins σ (upd H5 q (.lst zs)) s' → wants (fun r s₂ => r = Value.none ∧ EP X pins σ Q (Value.ref q) s₂) X.xe (.ok (.ret .none)) s' := fun s' I' => ⟨rfl, .ref q, _, I', rfl, hQ⟩
  refine wpAny_ite_split (fun _ => ?_) (fun _ => wpAny_pure ⟨plainId_quiet PySem.F.plain_extend_loop _, loopT (A1 := X.A.in1) hh hlen zs.length 0 H5 s6 (by omega) I7 hq5 hs5 st6 fp6 fin⟩)
  obtain ⟨z, its, k3, r3, hl3, e3⟩ := I7.lstM hq5
  cases r3
  refine wpAny_bind (wpAny_rule ?_)
  refine wpAny_bind ?_
  show wpAny _ _ (updateSeq q (·.push .none) >>= fun _ => updateSeq q (·.pop)) _ _ _
  refine wpAny_bind (wpAny_updateSeq e3 rfl ?_)
  have I8 := I7.lset (f := (·.push Value.none)) (its' := [Value.none]) (ys := [.non]) (t' := s6.toks) hq5 e3 (by simp) (.cons rfl .nil) (by rw [List.length_singleton, sizeLine_eq]; decide)
  obtain ⟨z4, its4, k4, r4, hl4, e4⟩ := I8.lstM upd_same
  obtain ⟨u4, rfl, ru4⟩ := r4.one
  refine wpAny_updateSeq e4 rfl ?_ (by show 1 ≤ sizeLine; rw [sizeLine_eq]; decide) (by show 0 ≤ sizeLine + 1; exact Nat.zero_le _)
  have I9 := I8.lset (f := (·.pop)) (its := [u4]) (its' := []) (ys := []) (t' := s6.toks) upd_same e4 (by rfl) .nil (Nat.zero_le _)
  rw [upd_upd] at I9
  have hH : upd H5 q (.lst []) = H5 := by
    funext b
    by_cases hb : b = q
    · rw [hb, upd_same, hq5]
    · rw [upd_ne hb]
  rw [hH] at I9
  have hqi : q ≠ it := fun z => by rw [z, pin.2.1] at hq5; cases hq5
  exact wpAny_pure ⟨plainId_quiet PySem.F.plain_extend_loop _, loopT (A1 := X.A.in1) hh hlen zs.length 0 H5 _ (by omega) I9 hq5 hs5 (st6.at fun o e => (Heap.get?_update_other _ _ hqi).trans ((Heap.get?_update_other _ _ hqi).trans e)) fp6 fin⟩
def diOwnT (C : Addr) (f : Str) (te : DTE) : DTI := fun env O q => te env O fun d O1 => ∃ fs ds, InsAt C O1 d fs ∧ fs.lookup f = some (.tup ds) ∧ q ds (fun _ => True) O1
theorem di_ownT (S : Site X B k wx) (hk : 1 ≤ k) (M : Meth X.K C "__iter__" fa) (F : ItFnT X.prog X.w X.K X.mg X.base C f fa) (h : PE X e (lift B te)) : PI X tg e (liftI B (diOwnT C f te)) := PI.weak (pi_ownT M F (S.rm.mono hk) h) fun σ H R hh => by
  have hK := S.hK
  obtain ⟨env, O, F, q, R0, hh, kk⟩ := hh
  refine ⟨env, O, F, _, R0, hh, fun d v O1 H1 F1 a1 r1 h1 => ?_⟩
  obtain ⟨fs, ds, hi, hz, h1⟩ := h1
  obtain ⟨a, dx, gs, rfl, ea, rk⟩ := hi.ok a1.fh a1.ow r1
  obtain ⟨vz, el, rz⟩ := rk.look hz
  cases rz with
  | tup hs hr =>
    rename_i l xs
    refine ⟨a, dx, gs, l, xs, rfl, ea, el, by rw [hK]; exact same_tup a1.fh hs, kk ds _ O1 H1 F1 _ a1 ?_ h1⟩
    intro O2 H2 F2 i s2 fh2 ow2 _
    have hs' : SqT B.K H2 l xs := same_tup (s2.trans fh2) hs
    rw [hK]
    refine ⟨fun x hx => ?_, fun hi => ⟨xs, hs', by rw [hi, hr.length]; exact Nat.le_refl _⟩⟩
    obtain ⟨v', e1, r'⟩ := hr.get hx
    refine ⟨⟨xs, v', hs', e1⟩, fun v H3 hy => ?_⟩
    obtain ⟨rfl, hy⟩ := hy
    obtain rfl : v = v' := Option.some.inj ((hy xs hs').symm.trans e1)
    exact ⟨F2, .rfl' fh2 ow2, r'.mono s2⟩
theorem i_ownT {env : Env} {O : Ow} {q : List D → (Ow → Prop) → Ow → Prop} (h : te env O fun d O1 => ∃ fs ds, InsAt C O1 d fs ∧ fs.lookup f = some (.tup ds) ∧ q ds (fun _ => True) O1) : diOwnT C f te env O q := h
/-- list(o) -/
def dListOwn (C : Addr) (f : Str) (fn : DF) : List D → Ow → DQ → Prop := fun ds O q => match ds with
  | [y] => ∃ fs es, InsAt C O y fs ∧ fs.lookup f = some (.tup es) ∧ fn [y] O (fun d O' => O' = O ∧ ∃ n : Int, d = .int n ∧ (0 ≤ n ∧ n ≤ 16777216)) (fun _ _ _ => False) ∧ q (.lst es) O
  | _ => False
theorem sim_listOwn {fn : DF} : SimC B (rListOwn B.K C f (spD B.K 1 fn)) (dListOwn C f fn) := by
  intro env O σ H F vs ds q Q R r h kk
  match ds, r, h with
  | [y], r, ⟨fs, es, hi, hz, h, hq⟩ =>
    obtain ⟨v, rfl, ry⟩ := r.one
    obtain ⟨a, d0, gs, rfl, e1, rk⟩ := hi.ok R.fh R.ow ry
    obtain ⟨vz, el, rz⟩ := rk.look hz
    cases rz with
    | tup hs hr =>
      rename_i l xs
      refine ⟨a, d0, gs, l, xs, rfl, e1, el, same_tup R.fh hs, fun p hp => ?_⟩
      have b1 := R.junk hp (.lst [])
      have R1 := R.call b1
      obtain ⟨hO, hF⟩ := R.free hp
      refine ⟨F, O, [y], _, _, R1.fh, R1.ow, .cons ry .nil, rfl, h, fun d v O' H' F' a r hq2 => ?_, fun _ _ _ _ _ _ _ _ z => z⟩
      obtain ⟨rfl, n, rfl, hn⟩ := hq2
      cases r
      have hp2 : H' p = some (.lst []) := a.kp p _ upd_same hO
      have hF2 : F' p = none := a.fr p (by rw [upd_same]; simp) hO hF
      refine ⟨n, rfl, hn, hp2, same_tup a.fh (same_tup a.ff hs), ?_⟩
      have s2 : Same F' (upd F' p (.lst xs)) := fun b u e => by rw [upd_ne (ne_of_none e hF2)]; exact e
      have c := b1.trans a
      refine kk (.lst es) (.ref p) O' (upd H' p (.lst xs)) (upd F' p (.lst xs)) ⟨c.ff.trans s2, fun b u e => ?_, fun b u e ho => ?_, fun b h1 h2 h3 => ?_, fun r o e => ?_, fun r o e => .inl (by rw [e]; simp)⟩ (.lst (SqL.of upd_same) ((hr.mono a.ff).mono s2)) hq
      · by_cases hb : b = p
        · subst hb; rw [upd_same] at e ⊢; exact e
        · rw [upd_ne hb] at e ⊢; exact a.fh b u e
      · rw [upd_ne (ne_of_none e hp)]
        exact c.kp b u e ho
      · have : b ≠ p := fun z => h1 (z ▸ hp)
        rw [upd_ne this]
        exact c.fr b h1 h2 h3
      · have hrp : r ≠ p := fun z => by rw [z, hO] at e; cases e
        obtain ⟨h1, ho, h3, h4⟩ := a.ow r o e
        exact ⟨by rw [upd_ne hrp]; exact h1, ho, by rw [upd_ne hrp]; exact h3, h4.mono s2⟩
theorem so_listOwnT {x qn : Str} {st : Stmt} {kws : List (Str × V)} {fn : DF} (S : Site X B j wx) (hj : k + 4 ≤ j) (M : Meth X.K C "__iter__" fa) (F : ItFnT X.prog X.w X.K X.mg X.base C f fa) (ML : Meth X.K C "__len__" fl) (Cl : Fn X.prog X.w X.K X.mg X.base x qn st [] kws ps 1 k fn fl) (hb : Bd0 x qn st ps)
    (hg : Gl X "list") (hm : X.mg "list" = none) (ha : PA X [e] (liftA B tA)) (he : starEach [e] X.env = (false, eval e X.env) :: starEach [] X.env := by rfl) (hpl : (backTo pos (starEach [] X.env)).any (·.1) = false := by rfl) : PE X (.Call (.Name "list" p) [e] [] pos) (lift B (dCB (dListOwn C f fn) tA)) := by
  obtain ⟨fd, G, F2⟩ := Cl.ex
  exact de_cb (by rw [S.hK]; exact sim_listOwn) (pe_callTy (call_listOwnT M F ML G S.gd (S.rm.mono hj) (FunD.b0 F2 hb)) hg hm bt_list ha (by decide) (by decide) he hpl)
theorem i_listOwn {fn : DF} {O : Ow} {q : DQ} {ns : List Str} {ds es : List D} (hf : (ns.zip ds).lookup f = some (.tup es)) (h : fn [.ins C ns ds] O (fun d O' => O' = O ∧ ∃ n : Int, d = .int n ∧ (0 ≤ n ∧ n ≤ 16777216)) (fun _ _ _ => False)) (hq : q (.lst es) O) : dListOwn C f fn [.ins C ns ds] O q := ⟨_, es, ⟨rfl, rfl⟩, hf, h, hq⟩
end
end DL

set_option Elab.async false
set_option linter.all false
set_option maxRecDepth 100000
set_option maxHeartbeats 4000000
/-! # EB: sets of ints and texts in the heap: made, filled, walked; their number, sorted -/
namespace DL
open PySem PySem.Spec PyProof.Rows L2
/-! ### what every set of the layer is -/
/-- the set at a: the values of its entries are xs, in the table's order -/
def SetBase (w : World) (h : Heap) (a : Addr) (us : List Value) : Prop :=
  ∃ o es ep t, h.get? a = some o ∧ o.ExactSet ∧ o.data = .set es ep t ∧ es.toList.map (·.2) = us ∧ es.size < 64 ∧ t.fits es.size = true ∧ Ris t.place.toList ∧ (w.params.followText "set-order" = true ∨ t.led = true)
theorem SetBase.at {w : World} {h h' : Heap} {a : Addr} {us : List Value} (R : SetBase w h a us) (k : ∀ o, h.get? a = some o → h'.get? a = some o) : SetBase w h' a us := by
  obtain ⟨o, es, ep, t, ho, r⟩ := R
  exact ⟨o, es, ep, t, k o ho, r⟩
/-! ### sets of keys -/
def keyM (v : Value) : Key := match v with | .int k _ => .inl k | .str x _ => .inr x | _ => .inl 0
def GoodM (w : World) (e : Int × Value) : Prop := ∃ k, keyIs k e.2 = true ∧ e.1 = keyH w k
theorem keyM_is {k : Key} {v : Value} (h : keyIs k v = true) : keyM v = k := by
  rcases keyIs_shape h with ⟨i, t, rfl, rfl⟩ | ⟨x, t, rfl, rfl⟩ <;> rfl
theorem keyM_scan {k : Key} {v : Value} (h : keyIs k v = true) : v.scannable = true := by
  rcases keyIs_shape h with ⟨i, t, rfl, rfl⟩ | ⟨x, t, rfl, rfl⟩ <;> rfl
theorem goodM_key {w : World} {e : Int × Value} (g : GoodM w e) : keyIs (keyM e.2) e.2 = true := by
  obtain ⟨k, h, _⟩ := g
  rw [keyM_is h]; exact h
/-- the set of keys at a -/
def SetM (w : World) (h : Heap) (a : Addr) (ks : List Key) : Prop :=
  ∃ o es ep t, h.get? a = some o ∧ o.ExactSet ∧ o.data = .set es ep t ∧ (∀ e ∈ es.toList, GoodM w e) ∧ es.toList.map (fun e => keyM e.2) = ks ∧ ks.Nodup ∧ es.size < 64 ∧ t.fits es.size = true ∧ Ris t.place.toList ∧ (w.params.followText "set-order" = true ∨ t.led = true)
theorem SetM.at {w : World} {h h' : Heap} {a : Addr} {ks : List Key} (R : SetM w h a ks) (k : ∀ o, h.get? a = some o → h'.get? a = some o) : SetM w h' a ks := by
  obtain ⟨o, es, ep, t, ho, r⟩ := R
  exact ⟨o, es, ep, t, k o ho, r⟩
theorem key_rel {k : Key} {v : Value} (h : keyIs k v = true) : RelV (kV k) v := by
  rcases keyIs_shape h with ⟨i, t, rfl, rfl⟩ | ⟨x, t, rfl, rfl⟩
  · exact ⟨t, rfl⟩
  · exact ⟨t, rfl⟩
theorem SetM.base {w : World} {h : Heap} {a : Addr} {ks : List Key} (R : SetM w h a ks) : ∃ us, SetBase w h a us ∧ Vals (ks.map kV) us := by
  obtain ⟨o, es, ep, t, ho, hx, hd, g, hk, nd, hb, hf, hr, hl⟩ := R
  refine ⟨_, ⟨o, es, ep, t, ho, hx, hd, rfl, hb, hf, hr, hl⟩, ?_⟩
  rw [← hk]
  have : ∀ l : List (Int × Value), (∀ e ∈ l, GoodM w e) → Vals ((l.map fun e => keyM e.2).map kV) (l.map (·.2)) := by
    intro l
    induction l with
    | nil => intro _; exact .nil
    | cons e l ih => intro g; exact .cons (key_rel (goodM_key (g e List.mem_cons_self))) (ih fun e he => g e (List.mem_cons_of_mem _ he))
  exact this _ g
/-- k goes into ks -/
def Adds {ε : Type} (eqv : ε → ε → Prop) (ks : List ε) (k : ε) (ks' : List ε) : Prop := ((∃ e ∈ ks, eqv e k) ∧ ks' = ks) ∨ ((∀ e ∈ ks, ¬ eqv e k) ∧ ks'.Perm (k :: ks))
section
variable {P : Program} {w : World} {A : Around} {E : Value → Shared → Prop} {s : Shared} {a : Addr} {ks : List Key}
theorem goodM_elems {l : List (Int × Value)} (g : ∀ e ∈ l, GoodM w e) : ElemsOf (mixKind P w) l := fun e he => by
  obtain ⟨k, h1, h2⟩ := g e he
  exact ⟨⟨k, h1, h2⟩, keyM_scan h1⟩
theorem goodM_mem {l : List (Int × Value)} (g : ∀ e ∈ l, GoodM w e) (k : Key) : k ∈ l.map (fun e => keyM e.2) ↔ ∃ e ∈ l, (mixKind P w).is k e.2 = true := by
  rw [List.mem_map]
  constructor
  · rintro ⟨e, he, q⟩
    exact ⟨e, he, by rw [← q]; exact goodM_key (g e he)⟩
  · rintro ⟨e, he, q⟩
    exact ⟨e, he, keyM_is q⟩
theorem setM_add_tail {g : Bool → Sem Unit} (hg : ∀ (b : Bool) (s₁ : Shared) (Q' : Unit → Shared → Prop), Q' () s₁ → wpAny (model P w) A (g b) Q' E s₁)
    {o : Obj} {es : Array (Int × Value)} {ep : Nat} {t : SetTable} (ho : s.heap.get? a = some o) (hex : o.ExactSet) (hd : o.data = .set es ep t)
    {es1 : Array (Int × Value)} {t2 : SetTable} (g1 : ∀ e ∈ es1.toList, GoodM w e) (nd1 : (es1.toList.map fun e => keyM e.2).Nodup)
    (hb1 : es1.size < 64) (hf2 : t2.fits es1.size = true) (hr : Ris t2.place.toList) (hl : w.params.followText "set-order" = true ∨ t2.led = true) {wasDummy : Bool} {R : Option Bool → Shared → Prop}
    (hR : ∀ h' ks', Heap.SameBut a s.heap h' → ks'.Perm (es1.toList.map fun e => keyM e.2) → SetM w h' a ks' → R (some true) { s with heap := h' }) :
    wpAny (model P w) A (do
        storeSet a es1 t2
        if (!wasDummy && t2.tooFull) = true then do
            g (relayAll t2 es1 (SetTable.grown es1.size)).2.2
            storeSet a (relayAll t2 es1 (SetTable.grown es1.size)).1 (relayAll t2 es1 (SetTable.grown es1.size)).2.1
            pure (some true)
          else pure (some true)) R E s := by
  have hb1' : es1.size < scanBound := Nat.lt_of_lt_of_le hb1 (by decide)
  refine wpAny_bind (wpAny_storeSet_of ho hd ?_ (fits_of_scanBound hb1'))
  have ho1 := PpSet.storeB_at (es' := es1) (t' := t2) ho hd
  have sb1 := Heap.SameBut.update s.heap a (Obj.putSet es1 t2)
  split
  · have pm := relayAll_perm t2 es1 (SetTable.grown es1.size)
    have hf3 := relayAll_fits t2 es1 (SetTable.grown es1.size)
    have hr3 := relayAll_ris t2 es1 (SetTable.grown es1.size)
    have hl3 := relayAll_led t2 es1 (SetTable.grown es1.size)
    generalize relayAll t2 es1 (SetTable.grown es1.size) = Z at pm hf3 hr3 hl3 ⊢
    obtain ⟨es2, t3, gave⟩ := Z
    dsimp only at pm hf3 hr3 hl3 ⊢
    have hsz : es2.size = es1.size := by rw [← Array.length_toList, pm.length_eq, Array.length_toList]
    have hb2 : es2.size < 64 := by rw [hsz]; exact hb1
    have hb2' : es2.size < scanBound := Nat.lt_of_lt_of_le hb2 (by decide)
    refine wpAny_bind (hg _ _ _ ?_)
    refine wpAny_bind (wpAny_storeSet_of ho1 rfl ?_ (fits_of_scanBound hb2'))
    have ho2 := PpSet.storeB_at (es' := es2) (t' := t3) ho1 rfl
    refine wpAny_pure (hR _ _ (sb1.trans (Heap.SameBut.update _ a _)) (pm.map _) ?_)
    exact ⟨_, es2, _, t3, ho2, hex, rfl, fun e he => g1 e (pm.mem_iff.mp he), rfl, (pm.map _).nodup_iff.mpr nd1, hb2, hf3, hr3, hl.imp id fun z => by rw [hl3]; exact z⟩
  · exact wpAny_pure (hR _ _ sb1 (List.Perm.refl _) ⟨_, es1, _, t2, ho1, hex, rfl, g1, rfl, nd1, hb1, hf2, hr, hl⟩)
theorem setM_add_hashed {k : Key} {v : Value} {Q : Bool → Shared → Prop} (hkey : keyIs k v = true) (R : SetM w s.heap a ks) (room : ks.length + 1 < 64)
    (hQ : ∀ h' b ks', Heap.SameBut a s.heap h' → Adds Eq ks k ks' → SetM w h' a ks' → Q b { s with heap := h' }) :
    wpAny (model P w) A (setAddHashed a v ((mixKind P w).hash k)) Q E s := by
  obtain ⟨o, es, ep, t, ho, hex, hd, g, hks, nd, hb, hf, hr, hl⟩ := R
  have hb' : es.size < scanBound := Nat.lt_of_lt_of_le hb (by decide)
  have hn : es.size = ks.length := by rw [← hks, List.length_map, Array.length_toList]
  have hsc : v.scannable = true := keyM_scan hkey
  have hel : ElemsOf (mixKind P w) es.toList := goodM_elems g
  unfold setAddHashed setAddHashedIn
  refine wpAny_holding (wpAny_bind (wpAny_setState_of ho hd hf ?_))
  dsimp only
  rw [byScan_of hsc hb' hel]
  simp only [↓reduceIte]
  unfold setAddByScan
  refine wpAny_bind ?_
  refine wpAny_bind (wpAny_rule ?_)
  refine wpAny_bind (wpAny_setScan_of (knd := mixKind P w) hkey ho hd hf hel ?_)
  cases hfi : List.findIdx? (fun e => (mixKind P w).is k e.2) es.toList with
  | some j =>
    dsimp only
    obtain ⟨hj, pj, _⟩ := List.findIdx?_eq_some_iff_getElem.mp hfi
    have hSk : k ∈ ks := by rw [← hks]; exact (goodM_mem (P := P) (w := w) g k).2 ⟨es.toList[j], List.getElem_mem hj, pj⟩
    refine wpAny_pure (wpAny_pure ?_)
    exact hQ s.heap _ ks (Heap.SameBut.refl a s.heap) (.inl ⟨⟨k, hSk, rfl⟩, rfl⟩) ⟨o, es, ep, t, ho, hex, hd, g, hks, nd, hb, hf, hr, hl⟩
  | none =>
    dsimp only
    have hnk : k ∉ ks := fun z => by
      rw [← hks] at z
      obtain ⟨e, he, q⟩ := (goodM_mem (P := P) (w := w) g k).1 z
      have c := List.findIdx?_eq_none_iff.mp hfi e he
      rw [q] at c
      cases c
    have hgw : ∀ (b : Bool) {s₁ : Shared} {Q' : Unit → Shared → Prop}, Q' () s₁ → wpAny (model P w) A (match b with | true => rule "set.scan.the-table-gave-way" | false => pure ()) Q' E s₁ :=
      fun b s₁ Q' q => by cases b <;> first | exact wpAny_pure q | exact wpAny_rule q
    have pm := layNew_perm t es ((mixKind P w).hash k) v
    have hf1 := layNew_fits t es ((mixKind P w).hash k) v
    have hr1 := layNew_ris t es ((mixKind P w).hash k) v hr
    have hl1 := layNew_led t es ((mixKind P w).hash k) v
    generalize layNew t es ((mixKind P w).hash k) v = Z at pm hf1 hr1 hl1 ⊢
    obtain ⟨es1, t1, wasDummy, gave⟩ := Z
    dsimp only at pm hf1 hr1 hl1 ⊢
    rw [Array.toList_push] at pm
    have pc : es1.toList.Perm (((mixKind P w).hash k, v) :: es.toList) := pm.trans (List.perm_append_singleton _ _)
    have pk : (es1.toList.map fun e => keyM e.2).Perm (k :: ks) := by
      have := pc.map fun e : Int × Value => keyM e.2
      rw [List.map_cons, hks] at this
      rw [show keyM ((mixKind P w).hash k, v).2 = k from keyM_is hkey] at this
      exact this
    have g1 : ∀ e ∈ es1.toList, GoodM w e := fun e he => by
      rcases List.mem_cons.mp (pc.mem_iff.mp he) with z | z
      · rw [z]; exact ⟨k, hkey, rfl⟩
      · exact g e z
    have nd1 : (es1.toList.map fun e => keyM e.2).Nodup := pk.nodup_iff.mpr (List.nodup_cons.mpr ⟨hnk, nd⟩)
    have hsz : es1.size = ks.length + 1 := by rw [← Array.length_toList, pc.length_eq, List.length_cons, Array.length_toList, hn]
    have hb1 : es1.size < 64 := by rw [hsz]; exact room
    have hled : w.params.followText "set-order" = true ∨ t1.led = true := hl.imp id fun z => by rw [hl1]; exact z
    have fin : ∀ h' ks', Heap.SameBut a s.heap h' → ks'.Perm (es1.toList.map fun e => keyM e.2) → SetM w h' a ks' → ∀ b, Q b { s with heap := h' } := fun h' ks' sb p r b =>
      hQ h' b ks' sb (.inr ⟨fun e he z => hnk (z ▸ he), p.trans pk⟩) r
    refine wpAny_bind (hgw _ ?_)
    split
    · refine wpAny_bind ?_
      rw [hashByValue_scannable 8 hsc]
      refine wpAny_pure ?_
      refine setM_add_tail ?_ ho hex hd g1 nd1 hb1 ?_ ?_ ?_ ?_
      · intro b s₁ Q' q; cases b <;> first | exact wpAny_pure q | exact wpAny_rule q
      · first | (split <;> first | exact hf1 | exact SetTable.fits_plain_off hf1) | exact hf1
      · first | (split <;> exact hr1) | exact hr1
      · first | (split <;> exact hled) | exact hled
      · intro h' ks' sb p r; dsimp only; exact wpAny_pure (fin h' ks' sb p r _)
    · refine wpAny_bind (wpAny_pure ?_)
      simp only [↓reduceIte]
      refine setM_add_tail ?_ ho hex hd g1 nd1 hb1 hf1 hr1 hled ?_
      · intro b s₁ Q' q; cases b <;> first | exact wpAny_pure q | exact wpAny_rule q
      · intro h' ks' sb p r; dsimp only; exact wpAny_pure (fin h' ks' sb p r _)
theorem SetM.typeIs (R : SetM w s.heap a ks) : s.TypeIs (.ref a) "set" := by
  obtain ⟨o, es, ep, t, ho, hex, _⟩ := R
  exact ⟨o, ho, hex.1⟩
theorem setM_add {k : Key} {v : Value} {Q : Value → Shared → Prop} (hkey : keyIs k v = true) (R : SetM w s.heap a ks) (room : ks.length + 1 < 64)
    (hQ : ∀ h' ks', Heap.SameBut a s.heap h' → Adds Eq ks k ks' → SetM w h' a ks' → Q .none { s with heap := h', toks := s.toks + 1 }) :
    wpAny (model P w) A (call (.builtin "set.add") [.ref a, v]) Q E s := by
  refine wpAny_call_entry F.slot_set_add R.typeIs F.entry_set_add ?_ (F.args_set_add_2 _ _)
  unfold Builtin.«set.add» Builtin.Frozenset.oneOther
  simp only [List.isEmpty_nil, bind_assoc]
  unfold Builtin.Frozenset.addrOf setAdd
  refine wpAny_bind (wpAny_pure ?_)
  try dsimp only
  refine wpAny_bind (wpAny_pure ?_)
  try dsimp only
  refine wpAny_bind ?_
  refine wpAny_holding ?_
  refine wpAny_bind ((mixKind P w).pyHash (k := k) hkey ?_)
  refine setM_add_hashed (s := { s with toks := s.toks + 1 }) hkey R room fun h' b ks' sb ad r => ?_
  show wpAny _ _ (ret Value.none) _ _ _
  exact wpAny_pure ⟨_, rfl, hQ h' ks' sb ad r⟩
theorem setM_fresh {h : Heap} {a : Addr} (ho : h.get? a = some { cls := .type "set", dict := none, data := .set #[] 0 (.fresh 0 0 (!w.params.followText "set-order")) }) : SetM w h a [] :=
  ⟨_, #[], 0, _, ho, ⟨rfl, rfl, rfl⟩, rfl, (fun e he => by simp at he), rfl, List.nodup_nil, (by decide), (by rfl), List.Pairwise.nil, by
    show _ ∨ (!w.params.followText "set-order") = true
    cases w.params.followText "set-order"
    · exact .inr rfl
    · exact .inl rfl⟩
end
end DL

set_option Elab.async false
set_option linter.all false
set_option maxRecDepth 100000
set_option maxHeartbeats 4000000
/-! # EC: len(set), sorted(set), set(list of keys) over the layer -/
namespace DL
open PySem PySem.Spec PyProof.Rows L2
/-! ### as tracked things -/
def SetMO (w : World) (a : Addr) (ks : List Key) : HO := .ext fun h => SetM w h a ks
theorem setMO_new {w : World} {P : Program} {H : Hp} {h : Heap} {a : Addr} {ks : List Key} (R : SetM w h a ks) : ObjOk P w H h a (SetMO w a ks) := by
  have ⟨o, _, _, _, ho, _⟩ := R
  exact ⟨R, ⟨o, ho⟩, fun h1 h2 p k => SetM.at p k⟩
/-- at a stands a set with the members xs, each once -/
def IsZ (X : Cx) (H : Hp) (a : Addr) (xs : List V) : Prop := ∀ pins σ s, Inv X pins σ H s → ∃ us, SetBase X.w s.heap a us ∧ Vals xs us
section
variable {X : Cx} {H : Hp} {a : Addr}
theorem isZ_M {ks : List Key} (h : H a = some (SetMO X.w a ks)) : IsZ X H a (ks.map kV) := fun pins σ s I => SetM.base (I.hok a _ h).1
theorem isZ_T {L : List (Addr × List Int)} (h : H a = some (SetTO X.prog X.w a L)) (hk : ∀ p ∈ L, SqT X.K H p.1 (p.2.map V.int)) : IsZ X H a (L.map fun p => V.ref p.1) := fun pins σ s I => by
  have R0 : SetT0 X.prog X.w s.heap a L := (I.hok a _ h).1
  obtain ⟨es, ep, t, R⟩ := R0.full fun p hp => I.isT (hk p hp)
  obtain ⟨o, ho, hex, hd⟩ := R.ob
  refine ⟨_, ⟨o, es, ep, t, ho, hex, hd, rfl, by rw [R.size]; exact R.few, R.fits, R.tab.ris, R.led⟩, ?_⟩
  rw [R.rows]
  unfold rowsOf
  rw [List.map_map]
  exact vals_of_refs L
/-! ### len -/
def rLenZ (X : Cx) : List V → Hp → VK → Prop := fun vs H Q => ∃ a xs, vs = [.ref a] ∧ IsZ X H a xs ∧ Q (.int (xs.length : Nat)) H
theorem cr_lenZ : CallR X (.builtin "len") (rLenZ X) := by
  intro pins s σ H vs us Q I r h
  obtain ⟨a, xs, rfl, hz, q⟩ := h
  rw [Vals.ref1 r]
  obtain ⟨us, ⟨o, es, ep, t, ho, hex, hd, e, hb, hf, _⟩, rv⟩ := hz pins σ s I
  have hl : xs.length = es.size := by rw [rv.length, ← e, List.length_map, Array.length_toList]
  exact call_len_set ho hex hd hf (by omega) ⟨.int xs.length, H, I.tok _, ⟨_, by rw [hl]⟩, q⟩
/-! ### sorted -/
theorem eachIs_perm {α β : Type} {R : α → β → Prop} {us vs : List α} (p : vs.Perm us) : ∀ {bs : List β}, PySem.W.EachIs R us bs → ∃ bs1 : List β, bs1.Perm bs ∧ PySem.W.EachIs R vs bs1 := by
  induction p with
  | nil => intro bs h; exact ⟨bs, List.Perm.refl _, h⟩
  | cons x _ ih =>
    intro bs h
    cases h with
    | cons h t =>
      obtain ⟨b1, p1, e1⟩ := ih t
      exact ⟨_, p1.cons _, .cons h e1⟩
  | swap x y l =>
    intro bs h
    cases h with
    | cons h t =>
      cases t with
      | cons h2 t2 => exact ⟨_, List.Perm.swap _ _ _, .cons h2 (.cons h t2)⟩
  | trans _ _ ih1 ih2 =>
    intro bs h
    obtain ⟨b2, p2, e2⟩ := ih2 h
    obtain ⟨b1, p1, e1⟩ := ih1 e2
    exact ⟨b1, p1.trans p2, e1⟩
def rSortZ (X : Cx) : List V → Hp → VK → Prop := fun vs H Q => ∃ (a : Addr) (bs : List (V × D)), vs = [.ref a] ∧ IsZ X H a (bs.map (·.1)) ∧ ∀ bs1 : List (V × D), bs1.Perm bs → (∀ b ∈ bs1, Dp X.K H b.1 (py b.2)) ∧ PySem.W.AllAlike (bs1.map fun b => py b.2) ∧ PySem.W.Sortable (bs1.map fun b => py b.2) ∧
  (∀ b ∈ bs1, (py b.2).depth ≤ 64) ∧ ∀ p, H p = none → Q (.ref p) (upd H p (.lst ((bs1.mergeSort (PySem.W.dataLe false fun b => py b.2)).map (·.1))))
open PySem.W in
theorem cr_sortZ (hc : X.calm = true) (hu : X.A.units + 70 < cLine) : CallR X (.builtin "sorted") (rSortZ X) := by
  intro pins s σ H vs us Q I r h
  obtain ⟨a, bs, rfl, hz, q⟩ := h
  rw [Vals.ref1 r]
  obtain ⟨us, ⟨o, es, ep, t, ho, hex, hd, e, hb, hf, hr, hl⟩, rv⟩ := hz pins σ s I
  refine Calls.call_function_entry kind_sorted plain_sorted entry_sorted (args_sorted1 _) ?_
  unfold Builtin.«sorted»
  refine wpAny_bind (m := checkCount "sorted" 1 1 _) (wpAny_pure ?_)
  refine wpAny_bind (collect_set (A := X.A.in1) (I.ok.hd hc) ⟨o, ho, hex.1, hd⟩ hf (by unfold scanBound; omega) hr hl fun s1 vs k1 hz1 g1 o1 pm => ?_)
  rw [e] at pm
  obtain ⟨bs1, pb, e1⟩ := eachIs_perm pm (vals_eachIs rv)
  obtain ⟨hd1, hal, hso, hdp, q⟩ := q bs1 pb
  have hvl : vs.length < 64 := by rw [pm.length_eq, ← e, List.length_map, Array.length_toList]; exact hb
  have hbl : bs1.length = vs.length := e1.length.symm
  refine wpAny_bind (wpAny_newList ?_ (by rw [sizeLine_eq]; omega))
  have hoL : (s1.heap.push (seqObj "list" vs.toArray 0)).get? s1.heap.objs.size = some (seqObj "list" vs.toArray 0) := Heap.get?_push_size _ rfl
  have er' : EachIs (fun v (b : V × D) => ∃ as, Reads (sortingHeap (s1.heap.push (seqObj "list" vs.toArray 0)) s1.heap.objs.size vs) v (py b.2) as) vs bs1 := eachIs_and e1 fun u b hb hr => by
    obtain ⟨as, rd⟩ := Dp.reads I (py b.2) b.1 u (hd1 b hb) hr
    refine ⟨as, PyProof.Rows.Reads.keeps (fun c u e => ?_) rd⟩
    have hc := k1 c u e
    exact sortingHeap_old (Nat.ne_of_lt (Heap.lt_size hc)) (Heap.get?_push_of_some _ hc)
  refine wpAny_bind (wpAny_holding ?_)
  refine wpAny_call_entry slot_list_sort ⟨_, hoL, rfl⟩ entry_list_sort (list_sort_vals (κ := dataKind (sortingHeap (s1.heap.push (seqObj "list" vs.toArray 0)) s1.heap.objs.size vs) (bs1.map fun b => py b.2)) hoL
    (SortsAt.data (s := { s1 with heap := sortingHeap (s1.heap.push (seqObj "list" vs.toArray 0)) s1.heap.objs.size vs }) (each_map (R := fun v d => ∃ as, Reads (sortingHeap (s1.heap.push (seqObj "list" vs.toArray 0)) s1.heap.objs.size vs) v d as) (fun b : V × D => py b.2) er') hal hso (bound_map (fun b hb => by have := hdp b hb; show X.A.units + 1 + 1 + _ < _; omega))) (by rw [sizeLine_eq]; omega) ⟨.none, rfl, ?_⟩) (args_list_sort _)
  have eo := sortVals_data false e1 er' hal
  have ol := sortVals_length (κ := dataKind (sortingHeap (s1.heap.push (seqObj "list" vs.toArray 0)) s1.heap.objs.size vs) (bs1.map fun b => py b.2)) (vs := vs) false rfl
  generalize sortVals (dataKind (sortingHeap (s1.heap.push (seqObj "list" vs.toArray 0)) s1.heap.objs.size vs) (bs1.map fun b => py b.2)) false vs vs = out at eo ol ⊢
  obtain ⟨c, hc2⟩ := sortedHeap_at (vs := vs) (out := out.toArray) hoL
  have keep : ∀ b u, s.heap.get? b = some u → (sortedHeap (s1.heap.push (seqObj "list" vs.toArray 0)) s1.heap.objs.size vs out.toArray).get? b = some u := fun b u e => by
    have z := k1 b u e
    have hlt := Heap.lt_size z
    rw [sortedHeap_old (Nat.ne_of_lt hlt) (by rw [size_push']; exact Nat.lt_succ_of_lt hlt)]
    exact Heap.get?_push_of_some _ z
  have hn : H s1.heap.objs.size = none := I.hok.fresh hz1
  have hlen : ((bs1.mergeSort (PySem.W.dataLe false fun b => py b.2)).map (·.1)).length ≤ sizeLine := by
    rw [List.length_map, List.length_mergeSort, sizeLine_eq]; omega
  have J : L2.Inv X pins σ (upd H s1.heap.objs.size (.lst ((bs1.mergeSort (PySem.W.dataLe false fun b => py b.2)).map (·.1)))) { s with heap := sortedHeap (s1.heap.push (seqObj "list" vs.toArray 0)) s1.heap.objs.size vs out.toArray, gens := s1.gens, drawn := s1.drawn, toks := s1.toks } :=
    I.call (ch := []) (Un.laid keep hz1 hn) (I.hok.laid keep hz1 ⟨hlen, out, c, eachIs_vals eo, hc2⟩) (by rw [g1]; exact I.bare) (fun _ z => nomatch z)
  refine wpAny_pure ⟨_, rfl, ?_⟩
  show EP X pins σ Q _ { heap := sortedHeap (s1.heap.push (seqObj "list" vs.toArray 0)) s1.heap.objs.size vs out.toArray, gens := s1.gens, drawn := s1.drawn, toks := s1.toks, os := s1.os }
  rw [o1]
  exact ⟨.ref _, _, J, rfl, q _ hn⟩
end
/-! ### set(xs), xs a list of keys -/
section
variable {P : Program} {w : World} {A : Around} {E : Value → Shared → Prop} {s : Shared}
/-- what has come from the first items -/
def GotM (ns : List Key) (i : Nat) (ks : List Key) : Prop := (∀ k, k ∈ ks ↔ k ∈ ns.take i) ∧ ks.length ≤ i
theorem GotM.next {ns ks ks' : List Key} {i : Nat} {k : Key} (g : GotM ns i ks) (h : ns[i]? = some k) (ad : Adds Eq ks k ks') : GotM ns (i + 1) ks' := by
  have e : ns.take (i + 1) = ns.take i ++ [k] := by rw [List.take_add_one, h]; rfl
  rcases ad with ⟨⟨e2, he, rfl⟩, rfl⟩ | ⟨hn, pm⟩
  · refine ⟨fun j => ?_, Nat.le_succ_of_le g.2⟩
    rw [e, List.mem_append, g.1 j]
    refine ⟨.inl, fun z => z.elim id fun z => ?_⟩
    rw [List.mem_singleton.mp z]
    exact (g.1 _).1 he
  · refine ⟨fun j => ?_, by rw [pm.length_eq, List.length_cons]; exact Nat.succ_le_succ g.2⟩
    rw [e, List.mem_append, pm.mem_iff, List.mem_cons, g.1 j, List.mem_singleton]
    exact Or.comm
theorem set_update_keys {I : Addr} {fp wr : List Addr} {G : Array GenState → Array GenState → Prop} {n : Nat} {Pv : Nat → Value → Prop} {St : Nat → Shared → Prop} {R : Result → Shared → Prop}
    (W : WalksS P w A.in1 I fp wr G n Pv St) (S : Addr) (hSf : S ∉ fp) (ns : List Key) (hn : n = ns.length) (hb : ns.length + 1 < 64) (hval : ∀ i v, Pv i v → ∃ k, ns[i]? = some k ∧ keyIs k v = true) :
    ∀ (k i : Nat) (s : Shared), n - i = k → i ≤ n → St i s → (∃ ks, GotM ns i ks ∧ SetM w s.heap S ks) →
      (∀ s' ks, Moved (S :: wr) G s s' → GotM ns n ks → SetM w s'.heap S ks → R (.ok (.ret .none)) s') →
      codeAny (model P w) A (.builtin "set.update.loop" ⟨[.ref S, .ref I], []⟩) R s := by
  have hSw : S ∉ wr := fun h => hSf (W.sub _ h)
  have hsub : ∀ b ∈ wr, b ∈ S :: wr := fun b hb => List.mem_cons_of_mem _ hb
  intro k
  induction k with
  | zero =>
    intro i s hk' hi hst ⟨ks, hc, hS⟩ hR
    have hin : i = n := by omega
    subst hin
    refine codeAny_builtin F.entry_set_update_loop ?_
    rw [Around.under_plainId F.plain_set_update_loop _]
    show wpAny _ A.in1 (pyNext (.ref I) >>= _) _ _ s
    refine wpAny_bind (W.done s _ _ hst fun s' hm => ?_)
    show wpAny _ A.in1 (ret Value.none) _ _ s'
    exact wpAny_pure (hR s' ks (hm.mono hsub) hc (hS.at fun o e => hm.heap S o hSw e))
  | succ k ih =>
    intro i s hk' hi hst ⟨ks, hc, hS⟩ hR
    have hlt : i < n := by omega
    refine codeAny_builtin F.entry_set_update_loop ?_
    rw [Around.under_plainId F.plain_set_update_loop _]
    show wpAny _ A.in1 (pyNext (.ref I) >>= _) _ _ s
    refine wpAny_bind (W.item i s _ _ hlt hst fun v s' hP hst' hm => ?_)
    obtain ⟨z, hz, hkey⟩ := hval i v hP
    have hS' : SetM w s'.heap S ks := hS.at fun o e => hm.heap S o hSw e
    have hcl := hc.2
    show wpAny _ A.in1 (holding [v] (setAdd S v) >>= _) _ _ s'
    refine wpAny_bind (wpAny_holding ?_)
    unfold setAdd
    refine wpAny_holding ?_
    refine wpAny_bind ((mixKind P w).pyHash (k := z) hkey ?_)
    refine setM_add_hashed (s := { s' with toks := s'.toks + 1 }) hkey hS' (by omega) fun h' b ks' hsb ad hS2 => ?_
    refine wpAny_pure ⟨plainId_quiet F.plain_set_update_loop _, ih (i + 1) _ (by omega) hlt (W.frame _ s' _ _ hst' (Nat.le_succ _) fun b hb o e => ?_) ⟨ks', hc.next hz ad, hS2⟩ fun s'' c2 hm'' hc'' hS'' => ?_⟩
    · rw [hsb.2 b (fun h : b = S => hSf (by rw [← h]; exact hb))]; exact e
    · refine hR s'' c2 (Moved.trans W.gtrans ((hm.mono hsub).then_heap (Nat.le_succ _) fun b o hb e => ?_) hm'') hc'' hS''
      rw [hsb.2 b (fun h : b = S => hb (by rw [h]; exact List.mem_cons_self))]; exact e
set_option maxRecDepth 100000 in
theorem call_set_keys {l : Addr} {items : Array Value} (ns : List Key) {Q : Value → Shared → Prop} (hh : A.handled = none) (hl : s.heap.IsList l items) (hit : Vals (ns.map kV) items.toList) (hb : ns.length + 1 < 64)
    (h : ∀ (h' : Heap) (tk : Nat) (ks : List Key), SetM w h' s.heap.objs.size ks → GotM ns ns.length ks → (∀ b o, s.heap.get? b = some o → h'.get? b = some o) → Q (.ref s.heap.objs.size) { s with heap := h', toks := tk }) :
    wpAny (model P w) A (call (.type "set") [.ref l]) Q E s := by
  have hisz : items.size = ns.length := by
    have q := hit.length
    rw [List.length_map] at q
    rw [q, Array.length_toList]
  obtain ⟨c, tl, hmro⟩ := F.called_set.mro
  have hmade := F.called_set.made
  have hsub := F.called_set.sub
  refine wpAny_call (codeAny_of_tree ?_)
  show wpAny _ _ (callAny (.type "set") _) _ _ _
  refine wpAny_pure ⟨Code.quiet_builtin _ (by decide +kernel), codeAny_builtin F.entry_type_call ?_⟩
  rw [Around.under_plain (weight_type_call_type "set" [.ref l] []) rfl]
  have h1 := F.called_set.notType
  have h2 := F.called_set.canCreate
  have hct := F.typeCall_set_1 (.ref l)
  repeat (any_goals (first | assumption | wp_step))

  refine codeAny_mono (code_set_led1 (.ref l) (E := E) (Q₁ := fun obj s₁ => obj = .ref s.heap.objs.size ∧ s₁ = { s with heap := s.heap.push { cls := .type "set", dict := none, data := .set #[] 0 (.fresh 0 0 (!w.params.followText "set-order")) } }) ⟨rfl, rfl⟩) fun r s₁ hr => ?_
  cases r with
  | error e => exact hr
  | ok fl =>
    cases fl with
    | ret obj =>
      obtain ⟨rfl, rfl⟩ := hr
      have hS : (s.heap.push { cls := .type "set", dict := none, data := .set #[] 0 (.fresh 0 0 (!w.params.followText "set-order")) }).get? s.heap.objs.size = some { cls := .type "set", dict := none, data := .set #[] 0 (.fresh 0 0 (!w.params.followText "set-order")) } := Heap.get?_push_size _ rfl
      have hT : Shared.TypeIs { s with heap := s.heap.push { cls := .type "set", dict := none, data := .set #[] 0 (.fresh 0 0 (!w.params.followText "set-order")) } } (.ref s.heap.objs.size) "set" := ⟨_, hS, rfl⟩
      have hli := F.called_set.init.lookup
      have hbi := F.called_set.init.bind (.ref s.heap.objs.size)
      repeat (any_goals (first | assumption | wp_step))

      refine codeAny_mono (codeAny_call_builtin (R := wants (fun r s₂ => r = .none ∧ ∃ h' tk ks, s₂ = { s with heap := h', toks := tk } ∧ SetM w h' s.heap.objs.size ks ∧ GotM ns ns.length ks ∧
          (∀ b o, s.heap.get? b = some o → h'.get? b = some o)) E) F.called_set.init.plain F.entry_set_init (check_set_init_1 hT ?_)) fun r₂ s₂ hr₂ => ?_
      · obtain ⟨ol, hol, hcl, nl, hdl⟩ := hl
        obtain ⟨ocls, odict, odata, oslots⟩ := ol
        simp only at hcl hdl
        subst hcl; subst hdl
        have hol' : (s.heap.push { cls := .type "set", dict := none, data := .set #[] 0 (.fresh 0 0 (!w.params.followText "set-order")) }).get? l = some { cls := .type "list", dict := odict, data := .seq items nl, slots := oslots } := Heap.get?_push_of_some _ hol
        have hsls := F.sub_list_set
        have hslf := F.sub_list_frozenset
        have hne : (Value.type "list" == Value.type "dict") = false := by decide
        have hl1 : (s.heap.push { cls := .type "set", dict := none, data := .set #[] 0 (.fresh 0 0 (!w.params.followText "set-order")) }).IsList l items := ⟨_, hol', rfl, nl, rfl⟩
        unfold Builtin.«set.__init__» noKeywords Builtin.Frozenset.updateFrom
        generalize hPI : pyIter = PI
        wp_walk
        subst hPI

        refine wpAny_pyIter_list hl1 ?_
        refine wpAny_bind (wpAny_runValue ?_)
        have hlS : l < s.heap.objs.size := Heap.lt_size hol
        have hh3 : A.in1.in1.in1.handled = none := by simp [hh]
        have hz1 : (s.heap.push { cls := .type "set", dict := none, data := .set #[] 0 (.fresh 0 0 (!w.params.followText "set-order")) }).objs.size = s.heap.objs.size + 1 := Heap.size_push ..
        have hneI : l ≠ (s.heap.push { cls := .type "set", dict := none, data := .set #[] 0 (.fresh 0 0 (!w.params.followText "set-order")) }).objs.size := by
          rw [Heap.size_push]; exact Nat.ne_of_lt (Nat.lt_succ_of_lt hlS)
        have hSf : s.heap.objs.size ∉ [(s.heap.push { cls := .type "set", dict := none, data := .set #[] 0 (.fresh 0 0 (!w.params.followText "set-order")) }).objs.size, l] := by
          rw [Heap.size_push]; simp only [List.mem_cons, List.mem_singleton, List.not_mem_nil, or_false, not_or]
          exact ⟨Nat.ne_of_lt (Nat.lt_succ_self _), Nat.ne_of_gt hlS⟩
        have hval : ∀ (i : Nat) (v : Value), items[i]? = some v → ∃ k, ns[i]? = some k ∧ keyIs k v = true := fun i v hv => by
          have hi : i < ns.length := by rw [← hisz]; exact (Array.getElem?_eq_some_iff.mp hv).1
          obtain ⟨u, e, r⟩ := hit.get (i := i) (x := kV ns[i]) (by rw [List.getElem?_map, List.getElem?_eq_getElem hi]; rfl)
          rw [Array.getElem?_toList, hv] at e
          cases e
          exact ⟨ns[i], List.getElem?_eq_getElem hi, kV_is (P := P) (w := w) r⟩
        refine set_update_keys ((Walks.list hh3 _ l hneI items).toS) s.heap.objs.size
          hSf ns hisz hb hval (items.size - 0) 0 _ (by omega) (Nat.zero_le _)
          ⟨⟨_, Heap.get?_push_size _ rfl, rfl, rfl⟩, (hl1.push _)⟩ ?hS0 ?hR
        case hS0 =>
          have hget : ((s.heap.push { cls := .type "set", dict := none, data := .set #[] 0 (.fresh 0 0 (!w.params.followText "set-order")) }).push { cls := .type "list_iterator", data := .fields #[.ref l, .int 0 0] }).get? s.heap.objs.size
              = some { cls := .type "set", dict := none, data := .set #[] 0 (.fresh 0 0 (!w.params.followText "set-order")) } := Heap.get?_push_of_some _ hS
          exact ⟨[], ⟨fun k => by simp, Nat.le_refl _⟩, setM_fresh hget⟩
        case hR =>
          intro s' ks' hm hc' hS'
          obtain ⟨h', g2, d', tk', os'⟩ := s'
          have eg : g2 = s.gens := hm.gens
          have ed : d' = s.drawn := hm.drawn
          have eo : os' = s.os := hm.os
          subst eg; subst ed; subst eo
          show wpAny _ _ _ _ _ _
          refine wpAny_pure ?_
          show wpAny _ _ (ret Value.none) _ _ _
          rw [hisz] at hc'
          refine wpAny_pure ⟨rfl, h', tk', ks', rfl, hS', hc', fun b o e => ?_⟩
          have hb0 : b < s.heap.objs.size := Heap.lt_size e
          have hb1 : b ≠ s.heap.objs.size := Nat.ne_of_lt hb0
          have hb2 : b ≠ (s.heap.push { cls := .type "set", dict := none, data := .set #[] 0 (.fresh 0 0 (!w.params.followText "set-order")) }).objs.size := by
            rw [Heap.size_push]; exact Nat.ne_of_lt (Nat.lt_succ_of_lt hb0)
          exact hm.heap b o (by simp only [List.mem_cons, List.mem_singleton, List.not_mem_nil, or_false, not_or]; exact ⟨hb1, hb2⟩) (Heap.get?_push_of_some _ (Heap.get?_push_of_some _ e))
      · cases r₂ with
        | error e => exact hr₂
        | ok fl₂ =>
          cases fl₂ with
          | ret r =>
            obtain ⟨rfl, h', tk, ks', rfl, hS', hc', hk'⟩ := hr₂
            repeat (any_goals (first | assumption | wp_step))
            exact h _ _ _ hS' hc' hk'
          | _ => exact hr₂.elim
    | _ => exact hr.elim
end
section
variable {X : Cx}
def rSetOfM (X : Cx) : List V → Hp → VK → Prop := fun xs H Q => ∃ (l : Addr) (ns : List Key), xs = [V.ref l] ∧ SqL X.K H l (ns.map kV) ∧ ns.length < 63 ∧
  ∀ a ks, H a = none → ks.Nodup → (∀ k, k ∈ ks ↔ k ∈ ns) → ks.length ≤ ns.length → Q (.ref a) (upd H a (SetMO X.w a ks))
theorem cr_setOfM (hc : X.calm = true) : CallR X (.type "set") (rSetOfM X) := by
  intro pins s σ H xs us Q I r h
  obtain ⟨l, ns, rfl, hl, hf, q⟩ := h
  rw [Vals.ref1 r]
  obtain ⟨its, rv, pl, hz⟩ := I.list hl
  have hn : H s.heap.objs.size = none := I.hok.fresh (Nat.le_refl _)
  refine call_set_keys (P := X.prog) (w := X.w) ns (I.ok.hd hc) pl.isList (by simpa using rv) (by omega) fun h' tk ks R g k => ?_
  have nd : ks.Nodup := by obtain ⟨_, _, _, _, _, _, _, _, _, nd, _⟩ := R; exact nd
  exact ⟨.ref s.heap.objs.size, upd H s.heap.objs.size (SetMO X.w s.heap.objs.size ks), I.laid (t' := tk) k (Nat.le_refl _) (setMO_new R), rfl, q _ ks hn nd (fun j => by rw [g.1 j, List.take_length]) g.2⟩
/-- set.add of a key -/
theorem addM_ok {pins : List (Addr × Obj)} {σ : L2.St} {H : Hp} {s : Shared} {E : Value → Shared → Prop} {D : Addr} {ks : List Key} {k : Key} {v : Value} {Q : Value → Shared → Prop} (I : Inv X pins σ H s) (hD : H D = some (SetMO X.w D ks)) (hk : RelV (kV k) v) (room : ks.length + 1 < 64)
    (h : ∀ s' ks', Adds Eq ks k ks' → Inv X pins σ (upd H D (SetMO X.w D ks')) s' → Q .none s') : wpAny (model X.prog X.w) X.A (call (.builtin "set.add") [.ref D, v]) Q E s := by
  have R : SetM X.w s.heap D ks := (I.hok D _ hD).1
  refine setM_add (kV_is (P := X.prog) (w := X.w) hk) R room fun h' ks' sb ad new => ?_
  have he : ∃ u, h'.get? D = some u := by
    have ⟨o, _, _, _, ho, _⟩ := new
    exact ⟨o, ho⟩
  exact h _ ks' ad (I.write (e := D) (t' := s.toks + 1) (by rw [hD]; trivial) (.inl rfl) (fun b u hb hu => (sb.2 b hb).trans hu) he (setMO_new new))
end
end DL

set_option Elab.async false
set_option linter.all false
set_option maxRecDepth 100000
set_option maxHeartbeats 4000000
/-! # ED: a set comprehension over any family of sets (keys, tuples of ints) -/
namespace DL
open PySem PySem.Spec PyProof.Rows L2 PpSet
abbrev freshSet (w : World) : Obj := { cls := .type "set", dict := none, data := .set #[] 0 (.fresh 0 0 (!w.params.followText "set-order")) }
/-- a family of sets: how one stands in the heap, its members as values, what the heap says of a member, when two are one -/
structure Fam (ε : Type) where
  so : Addr → List ε → HO
  val : ε → V
  ok : Hp → ε → Prop
  eqv : ε → ε → Prop
structure FamOk {ε : Type} (P : Program) (w : World) (K : Frag) (F : Fam ε) : Prop where
  new : ∀ {H : Hp} {h : Heap} {a : Addr}, h.get? a = some (freshSet w) → ObjOk P w H h a (F.so a [])
  add : ∀ {X : Cx}, X.prog = P → X.w = w → X.K = K → X.A.units + 64 < cLine → ∀ {pins : List (Addr × Obj)} {σ : L2.St} {H : Hp} {s : Shared} {E : Value → Shared → Prop} {D : Addr} {L : List ε} {e : ε} {v : Value} {Q : Value → Shared → Prop},
    Inv X pins σ H s → H D = some (F.so D L) → (∀ x ∈ L, F.ok H x) → F.ok H e → RelV (F.val e) v → L.length + 1 < 64 → (∀ s' L', Adds F.eqv L e L' → Inv X pins σ (upd H D (F.so D L')) s' → Q .none s') →
    wpAny (model X.prog X.w) X.A (call (.builtin "set.add") [.ref D, v]) Q E s
section
variable {X : Cx} {ε : Type} {F : Fam ε}
/-- the reading: Z is the new set -/
def tScF (F : Fam ε) (wi : TI) (g : TG) (tt : TT) (te : TE) (vs : List Nat) : TE := fun σ H Q => wi σ H fun J H1 => ∀ Z, H1 Z = none → ∃ W : Nat → Nat → Hp → Prop, (∃ m, W 0 m (upd H1 Z (F.so Z []))) ∧ ∀ i m H, W i m H →
  (J.stop i H ∧ Q (.ref Z) H) ∨ (J.go i H ∧ ∃ N : Hp → Prop, (∀ H', N H' → ∃ m', m' < m ∧ W (i + 1) m' H') ∧ ∀ x H', J.yld i H x H' → g x (wipe σ vs) H' fun σ2 H2 => wipe σ2 vs = wipe σ vs ∧ tt σ2 H2 fun b H3 =>
    if b = true then te σ2 H3 fun y H4 => ∃ (e : ε) (L : List ε), y = F.val e ∧ H4 Z = some (F.so Z L) ∧ (∀ x ∈ L, F.ok H4 x) ∧ F.ok H4 e ∧ L.length + 1 < 64 ∧ ∀ L', Adds F.eqv L e L' → N (upd H4 Z (F.so Z L')) else N H3)
section
variable {elt tg iter : Expr} {ifs : List Expr} {scope : Scope} {own : List (PySem.Str × Nat)} {pos : Pos} {wi : TI} {g : TG} {tt : TT} {te : TE}
theorem pe_scF (FO : FamOk X.prog X.w X.K F) (hu : X.A.units + 64 < cLine) (hc : X.calm = true) (hN : X.N.Nodup) (hi : PI X tg iter wi) (ok : BlkOk X.N X.env.scope scope own)
    (hg : ∀ (s : Shared) (H : Hp) (C : Addr) (cl : List (PySem.Str × Addr)) (fp : List Addr), PG (X.blk s H scope (compEnvC scope cl C X.env) fp) tg g)
    (ht : ∀ (s : Shared) (H : Hp) (C : Addr) (cl : List (PySem.Str × Addr)) (fp : List Addr), PTs (X.blk s H scope (compEnvC scope cl C X.env) fp) ifs tt)
    (he : ∀ (s : Shared) (H : Hp) (C : Addr) (cl : List (PySem.Str × Addr)) (fp : List Addr), PE (X.blk s H scope (compEnvC scope cl C X.env) fp) elt te) (hs : ∀ x, foldedSetIterable iter X.env x = pure x := by intro _; rfl) :
    PE X (.SetComp elt [⟨tg, iter, ifs, 0⟩] scope pos) (tScF F wi g tt te (own.map (·.2))) := by
  refine ⟨fun pins s σ H Q I h => ?_⟩
  rw [eval_SetComp]
  have hfree : ∀ y ∈ scope.names, y.2 = .free → ∃ c, X.env.cells.lookup y.1 = some c := fun y hy e => (ok.free y hy e).elim (fun k => I.ok.has _ (.inl k)) fun k => I.ok.has _ (.inr k)
  refine wpAny_comprehension_free (use := none) rfl hs (closure_ok hfree) ok.kind (fun y hy e => (ok.uniq y hy).trans (congrArg some e)) (thn (hi.run pins s σ H _ I h) fun _ _ hx => thn hx fun itv sa ha => ?_)
  obtain ⟨it, fp, tn, J, Ha, rfl, Ia, T, ta, fa, q⟩ := ha
  -- the empty set
  refine newSet_ok (newEnv_comp ?_)
  obtain ⟨W, ⟨m0, w0⟩, turn⟩ := q sa.heap.objs.size (Ia.hok.fresh (Nat.le_refl _))
  have Ib0 := Ia.laid (t' := sa.toks) (a := sa.heap.objs.size) (o := F.so sa.heap.objs.size []) (h' := sa.heap.push (freshSet X.w)) (fun _ _ e => Heap.get?_push_of_some _ e) (Nat.le_refl _) (FO.new (Heap.get?_push_size _ rfl))
  have hlt : ∀ b ∈ fp, b < sa.heap.objs.size := fun b hb => let ⟨_, e, _⟩ := T.obj _ _ ta b hb; Heap.lt_size e
  have fb0 : ∀ b ∈ fp, FpOk X pins (upd Ha sa.heap.objs.size (F.so sa.heap.objs.size [])) b ∧ b < (sa.heap.push (freshSet X.w)).objs.size := fun b hb =>
    ⟨⟨by rw [upd_ne (Nat.ne_of_lt (hlt b hb))]; exact (fa b hb).1, (fa b hb).2⟩, by rw [Heap.size_push]; exact Nat.lt_succ_of_lt (hlt b hb)⟩
  have tb : tn 0 (sa.heap.push (freshSet X.w)) := T.keep _ _ _ ta fun _ _ _ e => Heap.get?_push_of_some _ e
  generalize hZ : sa.heap.objs.size = Z at q turn w0 Ib0 fb0 ⊢
  obtain ⟨sb, hsb⟩ : ∃ sb : Shared, sb = { sa with heap := sa.heap.push (freshSet X.w) } := ⟨_, rfl⟩
  obtain ⟨Hb, hHb⟩ : ∃ Hb, Hb = upd Ha Z (F.so Z []) := ⟨_, rfl⟩
  have Ib : Inv X pins σ Hb sb := by rw [hHb, hsb]; exact Ib0
  have fb : ∀ b ∈ fp, FpOk X pins Hb b ∧ b < sb.heap.objs.size := by rw [hHb, hsb]; exact fb0
  have tb' : tn 0 sb.heap := by rw [hsb]; exact tb
  rw [← hHb] at w0
  -- the comprehension's own frame
  have Ic := block_start Ib ok hN fb
  generalize hcl : cellsFrom (sb.heap.objs.size + 1) scope.names (cloFrom X.env.cells scope.names []) = cl at Ic
  have pg := hg sb Hb sb.heap.objs.size cl fp
  have pt := ht sb Hb sb.heap.objs.size cl fp
  have pe := he sb Hb sb.heap.objs.size cl fp
  rw [← hsb]
  subst hcl
  generalize hce : compEnvC scope (cellsFrom (sb.heap.objs.size + 1) scope.names (cloFrom X.env.cells scope.names [])) sb.heap.objs.size X.env = ce at Ic pg pt pe
  have cL : ce.locals = sb.heap.objs.size := by rw [← hce]; rfl
  obtain ⟨sc, hsc⟩ : ∃ sc : Shared, sc = { sb with heap := pushCells (sb.heap.push { cls := .type "dict", data := .dict #[] }) scope.names } := ⟨_, rfl⟩
  rw [← hsc] at Ic
  have tc : tn 0 sc.heap := T.keep _ _ _ tb' fun _ _ _ e => by rw [hsc]; exact pushCells_keeps _ _ _ _ (Heap.get?_push_of_some _ e)
  have st : ∀ {σ' : L2.St} {H' : Hp} {s' : Shared}, Inv (X.blk sb Hb scope ce fp) [] σ' H' s' → (∀ b ∈ fp, H' b = none) → ∀ b ∈ fp, FpOk (X.blk sb Hb scope ce fp) [] H' b := fun I' hn b hb =>
    ⟨hn b hb, (I'.ok.exf b hb).1, I'.ok.exfs b hb, .inl hb, fun x c e => (I'.ok.exf b hb).2 x c e, fun p hp => by cases (show p ∈ ([] : List (Addr × Obj)) ++ [] from hp)⟩
  have post : ∀ {s' : Shared} {m : Str → Option Value} {H' : Hp}, Inv X pins σ H' s' → Q (.ref Z) H' → s'.heap.Ns sb.heap.objs.size m → FpOk X pins H' sb.heap.objs.size → compPost (model X.prog X.w) X.A X.xe none (EP X pins σ Q) (.ref Z) sb.heap.objs.size (.ok .next) s' :=
    fun {s' m H'} I' q hn ⟨f0, f1, _, f3, f4, f5⟩ => ⟨m, hn, fun _ sm => ⟨.ref Z, H', I'.turned (t' := s'.toks) (fun b o hb e => (sm.2 b hb).trans e) f0 f1 f3 f4 f5, rfl, q⟩⟩
  have loop : codeAny (model X.prog X.w) X.A (.compLoop (.SetComp elt [⟨tg, iter, ifs, 0⟩] scope pos) 0 (.ref it) (.ref Z) ce) (compPost (model X.prog X.w) X.A X.xe none (EP X pins σ Q) (.ref Z) sb.heap.objs.size) sc := by
    refine compLoopS_any (fun n s' => ∃ i H', Inv (X.blk sb Hb scope ce fp) [] (wipe σ (own.map (·.2))) H' s' ∧ tn i s'.heap ∧ (∀ b ∈ fp, H' b = none) ∧ W i n H') ?_ m0 ⟨0, Hb, Ic, tc, fun b hb => (fb b hb).1.1, w0⟩
    rintro n s5 ⟨i, H5, I5, t5, n5, w5⟩
    rcases turn i n H5 w5 with ⟨stop, qq⟩ | ⟨go, Nx, hNx, step⟩
    · refine thnF (T.done (X.blk sb Hb scope ce fp) rfl rfl rfl hc i [] s5 _ H5 (fun _ _ => False) I5 (st I5 n5) t5 stop) fun r s6 ⟨hr, I6⟩ => ?_
      subst hr
      obtain ⟨m, hn, _⟩ := I6.loc
      have nL : H5 ce.locals = none := I6.free
      have hn' : s6.heap.Ns ce.locals m := hn
      rw [cL] at hn' nL
      exact post (Ib.call' (ch := fp) I6.os I6.base I6.hok I6.bare fun b hb => let f := (fb b hb).1.2; ⟨f.2.2.1, f.1, f.2.2.2.1, f.2.2.2.2⟩) qq hn' (Ib.fpOk (Nat.le_refl _) nL)
    · refine thnF (T.item (X.blk sb Hb scope ce fp) rfl rfl rfl hc i [] s5 _ H5 (fun _ _ => False) I5 (st I5 n5) t5 go) fun r s6 ⟨u, hr, h6⟩ => ?_
      subst hr
      refine thnF h6 fun _ s7 ⟨x, H7, I7, r7, y7, t7, n7⟩ => ?_
      refine thnF (pg.run _ s7 _ H7 x u _ (I7.pinned (st I7 n7) (T.obj _ _ t7)) r7 (step x H7 y7)) fun _ s8 ⟨σ8, H8, I8, hw8, q8⟩ => ?_
      refine thnF (pt.run _ s8 σ8 H8 _ I8 q8) fun b s9 ⟨H9, I9, q9⟩ => ?_
      have fin : ∀ {s' : Shared} {H' : Hp}, Inv (X.blk sb Hb scope ce fp) ([] ++ pinsAt fp s7.heap) σ8 H' s' → Nx H' → ∃ m, m < n ∧ ∃ i H', Inv (X.blk sb Hb scope ce fp) [] (wipe σ (own.map (·.2))) H' s' ∧ tn i s'.heap ∧ (∀ b ∈ fp, H' b = none) ∧ W i m H' := fun {s' H'} I' nx => by
        obtain ⟨m', hm, w'⟩ := hNx H' nx
        have pins' : ∀ b ∈ fp, ∀ o, s7.heap.get? b = some o → s'.heap.get? b = some o ∧ H' b = none := fun b hb o e =>
          ⟨(I'.pin (b, o) (List.mem_append_right _ (List.mem_append_right _ (mem_pinsAt hb e)))).1, (I'.pin (b, o) (List.mem_append_right _ (List.mem_append_right _ (mem_pinsAt hb e)))).2.1⟩
        refine ⟨m', hm, i + 1, H', (I'.unpinned (pins := [])).weak (by rw [← hw8, wipe_length]) (fun j v e => by rw [← hw8] at e; exact (wipe_some e).1), T.keep _ _ _ t7 fun b hb o e => (pins' b hb o e).1, fun b hb => ?_, w'⟩
        obtain ⟨o, e, _⟩ := T.obj _ _ t7 b hb
        exact (pins' b hb o e).2
      cases b with
      | false => exact fin I9 (by simpa using q9)
      | true =>
        simp only [if_true] at q9 ⊢
        refine thnF (pe.run _ s9 σ8 H9 _ I9 q9) fun z s10 ⟨yv, H10, I10, r10, e, L, ey, hZ10, hL, ho, hl, nx⟩ => ?_
        subst ey
        exact FO.add (X := X.blk sb Hb scope ce fp) rfl rfl rfl hu I10 hZ10 hL ho r10 hl fun s11 L' ad I11 => fin I11 (nx L' ad)
  have fin := codeAny_compStart_set loop (T.self X.A 0 _ _ _ tc loop)
  rw [← hce, hsc] at fin
  exact fin
end
end
/-! ### the families -/
def famM (w : World) : Fam Key := ⟨SetMO w, kV, fun _ _ => True, Eq⟩
theorem famM_ok {P : Program} {w : World} {K : Frag} : FamOk P w K (famM w) where
  new := fun ho => setMO_new (setM_fresh ho)
  add := by
    intro X hP hw hK hu pins σ H s E D L e v Q I hD hL ho r hl h
    subst hw
    exact addM_ok I hD r hl h
end DL

set_option Elab.async false
set_option linter.all false
set_option maxRecDepth 100000
set_option maxHeartbeats 4000000
/-! # EE: sets as data: set(list), {.. for ..}, their len and sorted -/
namespace DL
open PySem PySem.Spec PyProof.Rows L2
abbrev DTZ := Env → Ow → (List D → Ow → Prop) → Prop
/-- the value is a set whose members are those of ys -/
def liftZ (X : Cx) (B : Bd) (t : DTZ) : TE := fun σ H Q => ∃ env O F q, Rel B env O σ H F ∧ t env O q ∧
  ∀ ys zs xs a O' H' F', After B.K O H F O' H' F' → zs.Nodup → (∀ d, d ∈ zs ↔ d ∈ ys) → zs.length < 64 → RVs B.K F' zs xs → IsZ X H' a xs → q ys O' → Q (.ref a) H'
/-- how the members of a family are data -/
structure DFam {ε : Type} (X : Cx) (K : Frag) (F : Fam ε) (isK : D → Prop) (dat : ε → D) : Prop where
  of : ∀ {Fz : Hp} {d : D} {v : V}, isK d → RV K Fz d v → ∃ e, dat e = d ∧ F.val e = v
  ok : ∀ {Fz Hz : Hp} {e : ε}, Same Fz Hz → RV K Fz (dat e) (F.val e) → F.ok Hz e
  eqv : ∀ {a b : ε}, F.eqv a b ↔ dat a = dat b
  isz : ∀ {H : Hp} {a : Addr} {L : List ε}, H a = some (F.so a L) → (∀ e ∈ L, F.ok H e) → IsZ X H a (L.map F.val)
theorem rvsE {ε : Type} {K : Frag} {F : Hp} {dat : ε → D} {val : ε → V} : ∀ {L : List ε}, (∀ e ∈ L, RV K F (dat e) (val e)) → RVs K F (L.map dat) (L.map val)
  | [], _ => .nil
  | e :: L, h => .cons (h e List.mem_cons_self) (rvsE fun x hx => h x (List.mem_cons_of_mem _ hx))
def dKey (isK : D → Prop) (te : DTE) : DTE := fun env O q => te env O fun y O' => isK y ∧ q y O'
def dSc (isK : D → Prop) (wi : DTI) (g : DTG) (tt : DTT) (te : DTE) (vs : List Nat) : DTZ := fun env O q => wi env O fun xs Gd O1 => xs.length < 63 ∧ lcGo g tt (dKey isK te) Gd xs (wipeD env vs) O1 q
section
variable {X : Cx} {B : Bd} {ε : Type} {Fa : Fam ε} {isK : D → Prop} {dat : ε → D}
/-- the members so far -/
structure Mem (K : Frag) (F : Hp) (Fa : Fam ε) (dat : ε → D) (acc : List D) (L : List ε) : Prop where
  rv : ∀ e ∈ L, RV K F (dat e) (Fa.val e)
  nd : (L.map dat).Nodup
  mem : ∀ d, d ∈ L.map dat ↔ d ∈ acc
  len : L.length ≤ acc.length
theorem Mem.nil {K : Frag} {F : Hp} : Mem K F Fa dat [] [] := ⟨fun _ h => by simp at h, List.nodup_nil, fun d => by simp, Nat.le_refl _⟩
theorem Mem.mono {K : Frag} {F F' : Hp} {acc : List D} {L : List ε} (m : Mem K F Fa dat acc L) (s : Same F F') : Mem K F' Fa dat acc L := ⟨fun e he => (m.rv e he).mono s, m.nd, m.mem, m.len⟩
theorem Mem.add (DF : DFam X B.K Fa isK dat) {F : Hp} {acc : List D} {L L' : List ε} {e : ε} (m : Mem B.K F Fa dat acc L) (r : RV B.K F (dat e) (Fa.val e)) (ad : Adds Fa.eqv L e L') : Mem B.K F Fa dat (acc ++ [dat e]) L' := by
  rcases ad with ⟨⟨x, hx, ex⟩, rfl⟩ | ⟨hn, pm⟩
  · have ed := DF.eqv.mp ex
    refine ⟨m.rv, m.nd, fun d => ?_, by simp; have := m.len; omega⟩
    rw [List.mem_append, ← m.mem d, List.mem_singleton]
    exact ⟨.inl, fun z => z.elim id fun z => by rw [z, ← ed]; exact List.mem_map.mpr ⟨x, hx, rfl⟩⟩
  · have pm2 : (L'.map dat).Perm (dat e :: L.map dat) := pm.map dat
    have hne : dat e ∉ L.map dat := fun z => by
      obtain ⟨x, hx, ex⟩ := List.mem_map.mp z
      exact hn x hx (DF.eqv.mpr ex)
    refine ⟨fun x hx => ?_, pm2.nodup_iff.mpr (List.nodup_cons.mpr ⟨hne, m.nd⟩), fun d => ?_, by rw [pm.length_eq]; simp; exact m.len⟩
    · rcases List.mem_cons.mp (pm.mem_iff.mp hx) with rfl | h
      · exact r
      · exact m.rv x h
    · rw [pm2.mem_iff, List.mem_cons, m.mem d, List.mem_append, List.mem_singleton]
      exact Or.comm
theorem sc_sim (DF : DFam X B.K Fa isK dat) {wi : DTI} {g : TG} {dg : DTG} {tt : DTT} {te : DTE} {vs : List Nat} (sg : SimG B.K vs g dg) (σ : L2.St) (H : Hp) (Q : VK) (h : liftZ X B (dSc isK wi dg tt te vs) σ H Q) :
    tScF Fa (liftI B wi) g (liftT B tt) (lift B te) vs σ H Q := by
  obtain ⟨env, O, F, q, R, h, k⟩ := h
  refine ⟨env, O, F, _, R, h, fun xs Gd O1 H1 F1 J a1 hJ h1 p hp => ?_⟩
  obtain ⟨hl, h1⟩ := h1
  have R1 := R.call a1
  obtain ⟨p1, p2⟩ := R1.free hp
  refine ⟨fun i n Hc => n = xs.length - i ∧ i ≤ xs.length ∧ ∃ O2 F2 acc L, After B.K O1 H1 F1 O2 Hc F2 ∧ O2 p = none ∧ F2 p = none ∧ acc.length ≤ i ∧ Mem B.K F2 Fa dat acc L ∧ Hc p = some (Fa.so p L) ∧ lcGo dg tt (dKey isK te) Gd (xs.drop i) (wipeD env vs) O2 fun ys O3 => q (acc ++ ys) O3,
    ⟨xs.length, by simp, Nat.zero_le _, O1, F1, [], [], (After.refl R1).upn p1 p2 (.inr hp), p1, p2, Nat.le_refl _, Mem.nil, upd_same, h1⟩, ?_⟩
  rintro i n H2 ⟨rfl, hi, O2, F2, acc, L, a2, e1, e2, e3, ma, e4, h2⟩
  by_cases hlt : i < xs.length
  · refine .inr ?_
    rw [List.drop_eq_getElem_cons hlt] at h2
    obtain ⟨gd, h2⟩ := h2
    obtain ⟨hgo, hy⟩ := (hJ O2 H2 F2 i a2.ff a2.fh a2.ow gd).1 xs[i] (List.getElem?_eq_getElem hlt)
    refine ⟨hgo, fun Hc => ∃ O2 F2 acc L, After B.K O1 H1 F1 O2 Hc F2 ∧ O2 p = none ∧ F2 p = none ∧ acc.length ≤ i + 1 ∧ Mem B.K F2 Fa dat acc L ∧ Hc p = some (Fa.so p L) ∧ lcGo dg tt (dKey isK te) Gd (xs.drop (i + 1)) (wipeD env vs) O2 fun ys O3 => q (acc ++ ys) O3, fun H' n => ⟨xs.length - (i + 1), by omega, rfl, hlt, n⟩, fun v H3 yv => ?_⟩
    obtain ⟨F3, a3, rv⟩ := hy v H3 yv
    obtain ⟨o3, f3, l3⟩ := a3.out e1 e2 e4
    have b3 := a2.trans a3
    refine sg (wipeD env vs) O2 σ (wipe σ vs) H3 F3 v xs[i] _ _ a3.fh (((R1.sl.wiped vs).mono a2.ff).mono a3.ff) wipe_wipe rv h2 fun env' ρ' ew sl' h3 => ⟨ew, ?_⟩
    refine ⟨env', O2, F3, _, ⟨R1.af.trans b3, sl'⟩, h3, fun b O4 H4 F4 a4 h4 => ?_⟩
    obtain ⟨o4, f4, l4⟩ := a4.out o3 f3 l3
    have b4 := b3.trans a4
    cases b with
    | false =>
      rw [if_neg (by decide)] at h4
      obtain ⟨o2, sb, h4⟩ := h4
      exact iteF ⟨o2, F4, acc, L, b4.weak sb, sb.gone o4, f4, Nat.le_succ_of_le e3, (ma.mono a3.ff).mono a4.ff, l4, h4⟩
    | true =>
      rw [if_pos rfl] at h4
      refine iteT ⟨env', O4, F4, _, ⟨R1.af.trans b4, sl'.mono a4.ff⟩, h4, fun y yv O5 H5 F5 a5 ry h5 => ?_⟩
      obtain ⟨hk, h5⟩ := h5
      obtain ⟨e, rfl, rfl⟩ := DF.of hk ry
      obtain ⟨o5, f5, l5⟩ := a5.out o4 f4 l4
      have m5 := ((ma.mono a3.ff).mono a4.ff).mono a5.ff
      obtain ⟨o2, sb, h5⟩ := h5
      refine ⟨e, L, rfl, l5, fun x hx => DF.ok a5.fh (m5.rv x hx), DF.ok a5.fh ry, by have := m5.len; omega, fun L' ad => ?_⟩
      refine ⟨o2, F5, acc ++ [dat e], L', ((b4.trans a5).weak sb).upn (sb.gone o5) f5 (.inr hp), sb.gone o5, f5, by simp; omega, m5.add DF ry ad, upd_same, ?_⟩
      simpa using h5
  · have e : i = xs.length := by omega
    subst e
    rw [List.drop_length] at h2
    refine .inl ⟨(hJ O2 H2 F2 _ a2.ff a2.fh a2.ow h2.1).2 rfl, ?_⟩
    refine k acc (L.map dat) (L.map Fa.val) p O2 H2 F2 (a1.trans a2) ma.nd ma.mem (by rw [List.length_map]; have := ma.len; omega) (rvsE ma.rv) (DF.isz e4 fun x hx => DF.ok a2.fh (ma.rv x hx)) ?_
    simpa using h2.2
theorem dz_sc (DF : DFam X B.K Fa isK dat) {e : Expr} {wi : DTI} {g : TG} {dg : DTG} {tt : DTT} {te : DTE} {vs : List Nat} (sg : SimG B.K vs g dg) (h : PE X e (tScF Fa (liftI B wi) g (liftT B tt) (lift B te) vs)) : PE X e (liftZ X B (dSc isK wi dg tt te vs)) := PE.weak h (sc_sim DF sg)
/-! ### len, sorted -/
variable {e : Expr} {t : DTZ} {p pos : Pos} {k : Nat} {wx : DW} {te : DTE}
def dLenZ (t : DTZ) : DTE := fun env O q => t env O fun ys O1 => ∀ zs : List D, zs.Nodup → (∀ d, d ∈ zs ↔ d ∈ ys) → q (.int (zs.length : Nat)) O1
theorem so_lenZ (hg : Gl X "len") (hm : X.mg "len" = none) (he : PE X e (liftZ X B t)) (hs : starEach [e] X.env = (false, eval e X.env) :: starEach [] X.env := by rfl) (hpl : (backTo pos (starEach [] X.env)).any (·.1) = false := by rfl) : PE X (.Call (.Name "len" p) [e] [] pos) (lift B (dLenZ t)) := by
  refine PE.weak (pe_callB cr_lenZ hg hm PySem.boot_len (pa_cons he pa_nil hs) (by decide) (by decide) hs hpl) fun σ H Q h => ?_
  obtain ⟨env, O, F, q, R, h, kk⟩ := h
  refine ⟨env, O, F, _, R, h, fun ys zs xs a O' H' F' af nd hm hl rv iz h1 => ⟨a, xs, rfl, iz, ?_⟩⟩
  have := kk (.int (zs.length : Nat)) (.int (zs.length : Nat)) O' H' F' af (.int _) (h1 zs nd hm)
  rwa [rv.length] at this
def dSortZ (t : DTZ) : DTE := fun env O q => t env O fun ys O1 => ∀ zs : List D, zs.Nodup → (∀ d, d ∈ zs ↔ d ∈ ys) → pds zs = true ∧ PySem.W.AllAlike (zs.map py) ∧ PySem.W.Sortable (zs.map py) ∧ (∀ e ∈ zs, (py e).depth ≤ 64) ∧ q (.lst (srtD zs)) O1
theorem so_sortZ (S : Site X B k wx) (hc : X.calm = true) (hg : Gl X "sorted") (hm : X.mg "sorted" = none) (he : PE X e (liftZ X B t)) (hs : starEach [e] X.env = (false, eval e X.env) :: starEach [] X.env := by rfl) (hpl : (backTo pos (starEach [] X.env)).any (·.1) = false := by rfl) : PE X (.Call (.Name "sorted" p) [e] [] pos) (lift B (dSortZ t)) := by
  have hu : X.A.units + 70 < cLine := by have := S.rm.un; omega
  refine PE.weak (pe_callB (cr_sortZ hc hu) hg hm bt_sorted (pa_cons he pa_nil hs) (by decide) (by decide) hs hpl) fun σ H Q h => ?_
  obtain ⟨env, O, F, q, R, h, kk⟩ := h
  refine ⟨env, O, F, _, R, h, fun ys zs xs a O' H' F' af nd hm hl rv iz h1 => ?_⟩
  obtain ⟨bs, rfl, rfl, hb⟩ := zipRV rv
  have R1 := R.call af
  refine ⟨a, bs, rfl, iz, fun bs1 pb => ?_⟩
  obtain ⟨hp, hal, hso, hdp, hq⟩ := h1 (bs1.map (·.2)) ((pb.map (·.2)).nodup_iff.mpr nd) fun d => by rw [(pb.map (·.2)).mem_iff]; exact hm d
  have em : (bs1.map fun b => py b.2) = (bs1.map (·.2)).map py := by simp
  have hb1 : ∀ b ∈ bs1, RV B.K F' b.2 b.1 := fun b h => hb b (pb.mem_iff.mp h)
  refine ⟨fun b h => ?_, by rw [em]; exact hal, by rw [em]; exact hso, fun b h => hdp _ (List.mem_map.mpr ⟨b, h, rfl⟩), ?_⟩
  · rw [S.hK]
    exact (hb1 b h).dp R1.fh (pds_mem hp (List.mem_map.mpr ⟨b, h, rfl⟩))
  · have hmap : (bs1.mergeSort (PySem.W.dataLe false fun b => py b.2)).map (·.2) = srtD (bs1.map (·.2)) := List.map_mergeSort fun _ _ _ _ => rfl
    refine fresh_lst (ds := srtD (bs1.map (·.2))) R1 ?_ hq fun d v O2 H2 F2 a2 => kk d v O2 H2 F2 (af.trans a2)
    rw [← hmap]
    exact rvs_of_zip _ fun b h => hb1 b (List.mem_mergeSort.mp h)
/-! ### the families as data -/
def datM : Key → D
  | .inl i => .int i
  | .inr x => .str x
def isKM : D → Prop
  | .int _ => True
  | .str _ => True
  | _ => False
theorem datM_inj {a b : Key} (h : datM a = datM b) : a = b := by
  cases a <;> cases b <;> simp only [datM] at h <;> cases h <;> rfl
theorem dfamM (K : Frag) : DFam X K (famM X.w) isKM datM where
  of := fun {Fz d v} hk r => by
    cases d <;> try exact hk.elim
    · cases r; exact ⟨.inl _, rfl, rfl⟩
    · cases r; exact ⟨.inr _, rfl, rfl⟩
  ok := fun _ _ => trivial
  eqv := ⟨fun h => congrArg datM h, datM_inj⟩
  isz := fun h _ => isZ_M h
theorem rv_datM {K : Frag} {F : Hp} (k : Key) : RV K F (datM k) (kV k) := by
  cases k
  · exact .int _
  · exact .str _
theorem keys_of {K : Frag} {F : Hp} : ∀ {ds : List D} {vs : List V}, (∀ d ∈ ds, isKM d) → RVs K F ds vs → ∃ ns : List Key, ds = ns.map datM ∧ vs = ns.map kV
  | _, _, _, .nil => ⟨[], rfl, rfl⟩
  | d :: _, _, hk, .cons r rs => by
    obtain ⟨ns, e1, e2⟩ := keys_of (fun x hx => hk x (List.mem_cons_of_mem _ hx)) rs
    have := hk d List.mem_cons_self
    cases d <;> try exact this.elim
    · cases r; exact ⟨.inl _ :: ns, by rw [e1]; rfl, by rw [e2]; rfl⟩
    · cases r; exact ⟨.inr _ :: ns, by rw [e1]; rfl, by rw [e2]; rfl⟩
theorem nodup_map {α β : Type} {f : α → β} (hf : ∀ a b, f a = f b → a = b) {l : List α} (h : l.Nodup) : (l.map f).Nodup :=
  List.pairwise_map.mpr (List.Pairwise.imp (fun hne e => hne (hf _ _ e)) h)
/-- set(e), e a list of ints and texts -/
def dSetL (isK : D → Prop) (te : DTE) : DTZ := fun env O q => te env O fun d O1 => ∃ ds, asL O1 d = some ds ∧ (∀ x ∈ ds, isK x) ∧ ds.length < 63 ∧ q ds O1
theorem dz_setM (S : Site X B k wx) (hc : X.calm = true) (hg : Gl X "set") (hm : X.mg "set" = none) (he : PE X e (lift B te)) (hs : starEach [e] X.env = (false, eval e X.env) :: starEach [] X.env := by rfl) (hpl : (backTo pos (starEach [] X.env)).any (·.1) = false := by rfl) : PE X (.Call (.Name "set" p) [e] [] pos) (liftZ X B (dSetL isKM te)) := by
  refine PE.weak (pe_callTy (cr_setOfM hc) hg hm PyProof.Rows.boot_set (pa_cons he pa_nil hs) (by decide) (by decide) hs hpl) fun σ H Q h => ?_
  obtain ⟨env, O, F, q, R, h, kk⟩ := h
  refine ⟨env, O, F, _, R, h, fun d v O1 H1 F1 a1 r1 h1 => ?_⟩
  obtain ⟨ds, e, hk, hl, h1⟩ := h1
  have R1 := R.call a1
  obtain ⟨l, xs, rfl, hq, hr⟩ := asL_sq R1.fh R1.ow r1 e
  obtain ⟨ns, rfl, rfl⟩ := keys_of hk hr
  refine ⟨l, ns, rfl, by rw [S.hK]; exact hq, by simpa using hl, fun a ks ha nd hm hle => ?_⟩
  have b2 := R1.junk ha (SetMO X.w a ks)
  refine kk (ns.map datM) (ks.map datM) (ks.map kV) a O1 _ F1 (a1.trans b2) (nodup_map (fun _ _ => datM_inj) nd) (fun d => ?_) (by rw [List.length_map]; rw [List.length_map] at hl; omega) (rvsE fun k _ => rv_datM k) (isZ_M upd_same) h1
  simp only [List.mem_map]
  exact ⟨fun ⟨k, hk, z⟩ => ⟨k, (hm k).1 hk, z⟩, fun ⟨k, hk, z⟩ => ⟨k, (hm k).2 hk, z⟩⟩
/-! ### tuples of ints -/
def isKT : D → Prop
  | .tup ds => ∃ ns : List Int, ds = ns.map D.int
  | _ => False
def datT (p : Addr × List Int) : D := .tup (p.2.map D.int)
theorem rvIs {K : Frag} {F : Hp} : ∀ {ns : List Int} {vs : List V}, RVs K F (ns.map D.int) vs → vs = ns.map V.int
  | [], _, .nil => rfl
  | _ :: _, _, .cons h t => by cases h; rw [rvIs t]; rfl
theorem mapInt_inj : ∀ {a b : List Int}, a.map D.int = b.map D.int → a = b
  | [], [], _ => rfl
  | [], _ :: _, h => by cases h
  | _ :: _, [], h => by cases h
  | x :: a, y :: b, h => by
    rw [List.map_cons, List.map_cons] at h
    injection h with h1 h2
    injection h1 with h1
    rw [h1, mapInt_inj h2]
theorem ints_rvs {K : Frag} {F : Hp} : ∀ (ns : List Int), RVs K F (ns.map D.int) (ns.map V.int)
  | [] => .nil
  | _ :: ns => .cons (.int _) (ints_rvs ns)
theorem rvT {K : Frag} {F : Hp} {d : D} {v : V} (hk : isKT d) (r : RV K F d v) : ∃ p : Addr × List Int, datT p = d ∧ V.ref p.1 = v ∧ SqT K F p.1 (p.2.map V.int) := by
  cases d <;> try exact hk.elim
  obtain ⟨ns, rfl⟩ := hk
  cases r with
  | tup h hs =>
    rename_i a xs
    rw [rvIs hs] at h
    exact ⟨(a, ns), rfl, rfl, h⟩
theorem tups_of {K : Frag} {F : Hp} : ∀ {ds : List D} {vs : List V}, (∀ d ∈ ds, isKT d) → RVs K F ds vs → ∃ ks : List (Addr × List Int), ds = ks.map datT ∧ vs = ks.map (fun p => V.ref p.1) ∧ ∀ p ∈ ks, SqT K F p.1 (p.2.map V.int)
  | _, _, _, .nil => ⟨[], rfl, rfl, fun _ h => by cases h⟩
  | d :: _, _, hk, .cons r rs => by
    obtain ⟨ks, e1, e2, h⟩ := tups_of (fun x hx => hk x (List.mem_cons_of_mem _ hx)) rs
    obtain ⟨p, rfl, rfl, hp⟩ := rvT (hk d List.mem_cons_self) r
    refine ⟨p :: ks, by rw [e1]; rfl, by rw [e2]; rfl, fun x hx => ?_⟩
    rcases List.mem_cons.mp hx with rfl | hx
    · exact hp
    · exact h x hx
/-- set(xs) of tuples of ints; each once -/
def rSetTups (X : Cx) : List V → Hp → VK → Prop := fun xs H Q => ∃ (l : Addr) (ks : List (Addr × List Int)), xs = [V.ref l] ∧ SqL X.K H l (ks.map fun p => V.ref p.1) ∧ (∀ p ∈ ks, SqT X.K H p.1 (p.2.map V.int)) ∧ ks.length < 64 ∧
  ∀ a L, H a = none → (L.map (·.2)).Nodup → L.length < 64 → (∀ p ∈ L, p ∈ ks) → (∀ p ∈ ks, p.2 ∈ L.map (·.2)) → Q (.ref a) (upd H a (SetTO X.prog X.w a L))
theorem cr_setTups (hc : X.calm = true) (hu : X.A.units + 64 < cLine) : CallR X (.type "set") (rSetTups X) := by
  intro pins s σ H xs us Q I r ⟨l, ks, hxs, hl, hk, hf, q⟩
  subst hxs
  rw [Vals.ref1 r]
  obtain ⟨its, rv, pl, hz⟩ := I.list hl
  refine call_set_tups (P := X.prog) (w := X.w) ks (I.ok.hd hc) pl.isList (refs_of_vals (by simpa using rv)) (fun p hp => I.isT (hk p hp)) hf (by omega) fun h' tk L es ep t R g keep => ?_
  exact ⟨.ref s.heap.objs.size, _, I.laid (t' := tk) keep (Nat.le_refl _) (setTO_new R.t0), rfl, q _ L (I.hok.fresh (Nat.le_refl _)) R.nd R.few (fun p hp => List.mem_of_mem_take (g.sub p hp)) fun p hp => g.all p (by rw [List.take_length]; exact hp)⟩
theorem dz_setT (S : Site X B k wx) (hc : X.calm = true) (hg : Gl X "set") (hm : X.mg "set" = none) (he : PE X e (lift B te)) (hs : starEach [e] X.env = (false, eval e X.env) :: starEach [] X.env := by rfl) (hpl : (backTo pos (starEach [] X.env)).any (·.1) = false := by rfl) : PE X (.Call (.Name "set" p) [e] [] pos) (liftZ X B (dSetL isKT te)) := by
  have hu : X.A.units + 64 < cLine := by have := S.rm.un; omega
  refine PE.weak (pe_callTy (cr_setTups hc hu) hg hm PyProof.Rows.boot_set (pa_cons he pa_nil hs) (by decide) (by decide) hs hpl) fun σ H Q h => ?_
  obtain ⟨env, O, F, q, R, h, kk⟩ := h
  refine ⟨env, O, F, _, R, h, fun d v O1 H1 F1 a1 r1 h1 => ?_⟩
  obtain ⟨ds, e, hk, hl, h1⟩ := h1
  have R1 := R.call a1
  obtain ⟨l, xs, rfl, hq, hr⟩ := asL_sq R1.fh R1.ow r1 e
  obtain ⟨ks, rfl, rfl, hs⟩ := tups_of hk hr
  have hs1 : ∀ p ∈ ks, SqT X.K H1 p.1 (p.2.map V.int) := fun p hp => by rw [S.hK]; exact same_tup a1.fh (hs p hp)
  refine ⟨l, ks, rfl, by rw [S.hK]; exact hq, hs1, by rw [List.length_map] at hl; omega, fun a L ha nd hlt hsub hall => ?_⟩
  have b2 := R1.junk ha (SetTO X.prog X.w a L)
  have e2 : L.map datT = (L.map (·.2)).map fun ns => D.tup (ns.map D.int) := by rw [List.map_map]; rfl
  have inj : ∀ a b : List Int, D.tup (a.map D.int) = D.tup (b.map D.int) → a = b := fun a b h => by
    injection h with h
    exact mapInt_inj h
  refine kk (ks.map datT) (L.map datT) (L.map fun p => V.ref p.1) a O1 _ F1 (a1.trans b2) (by rw [e2]; exact nodup_map inj nd) (fun d => ?_) (by rw [List.length_map]; exact hlt) (rvsE fun p hp => .tup (hs p (hsub p hp)) (ints_rvs p.2)) (isZ_T upd_same fun p hp => sqT_new ha (hs1 p (hsub p hp))) h1
  simp only [List.mem_map]
  constructor
  · rintro ⟨p, hp, z⟩
    exact ⟨p, hsub p hp, z⟩
  · rintro ⟨p, hp, z⟩
    obtain ⟨p2, hp2, e3⟩ := List.mem_map.mp (hall p hp)
    exact ⟨p2, hp2, by rw [← z]; unfold datT; rw [e3]⟩
/-! ### what a reading of them is -/
variable {env : Env} {O : Ow} {q : DQ}
theorem i_lenZ (h : t env O fun ys O1 => ∀ zs : List D, zs.Nodup → (∀ d, d ∈ zs ↔ d ∈ ys) → q (.int (zs.length : Nat)) O1) : dLenZ t env O q := h
theorem i_sortZ (h : t env O fun ys O1 => ∀ zs : List D, zs.Nodup → (∀ d, d ∈ zs ↔ d ∈ ys) → pds zs = true ∧ PySem.W.AllAlike (zs.map py) ∧ PySem.W.Sortable (zs.map py) ∧ (∀ e ∈ zs, (py e).depth ≤ 64) ∧ q (.lst (srtD zs)) O1) : dSortZ t env O q := h
theorem i_setL {isK : D → Prop} {qz : List D → Ow → Prop} (h : te env O fun d O1 => ∃ ds, asL O1 d = some ds ∧ (∀ x ∈ ds, isK x) ∧ ds.length < 63 ∧ qz ds O1) : dSetL isK te env O qz := h
theorem i_sc {isK : D → Prop} {wi : DTI} {g : DTG} {tt : DTT} {vs : List Nat} {qz : List D → Ow → Prop} (h : wi env O fun xs Gd O1 => xs.length < 63 ∧ lcGo g tt (dKey isK te) Gd xs (wipeD env vs) O1 qz) : dSc isK wi g tt te vs env O qz := h
theorem i_key {isK : D → Prop} (h : te env O fun y O' => isK y ∧ q y O') : dKey isK te env O q := h
end
end DL

set_option Elab.async false
set_option linter.all false
set_option maxRecDepth 100000
set_option maxHeartbeats 4000000
/-! # EF: xs[::-1]; calls that leave keyword-only parameters out -/
namespace DL
open PySem PySem.Spec PyProof.Rows L2
section
variable {X : Cx} {B : Bd} {k : Nat} {wx : DW} {e : Expr} {te : DTE} {pos : Pos}
theorem Site.u64 (S : Site X B k wx) : X.A.units + 64 < cLine := by have := S.rm.un; omega
def dRevL (te : DTE) : DTE := fun env O q => te env O fun d O1 => ∃ ds, asL O1 d = some ds ∧ q (.lst ds.reverse) O1
theorem so_revL {j : Nat} {p1 p2 p3 : Pos} (S : Site X B k wx) (he : PE X e (lift B te)) : PE X (.Subscript e (.Slice none none (some (.UnaryOp .USub (.Constant (.int 1) j p1) p2)) p3) pos) (lift B (dRevL te)) := PE.weak (pe_revL he) fun σ H Q h => by
  obtain ⟨env, O, F, q, R, h, kk⟩ := h
  refine ⟨env, O, F, _, R, h, fun d v O1 H1 F1 a1 r1 h1 => ?_⟩
  obtain ⟨ds, e, h1⟩ := h1
  have R1 := R.call a1
  obtain ⟨l, xs, rfl, hq, hr⟩ := asL_sq R1.fh R1.ow r1 e
  refine ⟨l, xs, rfl, by rw [S.hK]; exact hq, fun p hp => ?_⟩
  have a2 := R1.froz hp (.lst xs.reverse)
  exact kk _ _ O1 _ _ (a1.trans a2) (.lst (SqL.of upd_same) (hr.reverse.mono a2.ff)) h1
theorem i_revL {env : Env} {O : Ow} {q : DQ} (h : te env O fun d O1 => ∃ ds, asL O1 d = some ds ∧ q (.lst ds.reverse) O1) : dRevL te env O q := h
end
/-! ### keyword-only defaults -/
/-- where a keyword-only default stands -/
def kwAt (K : Frag) (f : Addr) (x : Str) : Addr := match K.lookup f with
  | some ⟨_, _, .func fd, _⟩ => (match fd.kwdefaults with
    | .ref D => (match PySem.W.nsIn K D x with
      | some (some (.ref a)) => a
      | _ => 0)
    | _ => 0)
  | _ => 0
/-- it is the empty tuple -/
def etB (adr : Frag → Addr) : Fac := fun K => match K.lookup (adr K) with
  | some ⟨.type c, _, .seq its _, _⟩ => decide (c = "tuple") && its.isEmpty
  | _ => false
theorem etB_ok {adr : Frag → Addr} {K : Frag} (h : etB adr K = true) (F : Hp) : RV K F (.tup []) (.ref (adr K)) := by
  unfold etB at h
  split at h
  · rename_i c od its n osl q
    obtain ⟨h1, h2⟩ := Bool.and_eq_true_iff.mp h
    have e1 := of_decide_eq_true h1
    have e2 : its = #[] := by simpa using h2
    subst e1 e2
    exact .tup (xs := []) (.inr ⟨_, #[], n, q, rfl, rfl, Nat.zero_le _, .nil⟩) .nil
  · cases h
section
variable {K : Frag} {x qn : Str} {st : Stmt} {ps ks : List Str} {kws ms : List (Str × V)} {f : Addr} {fd : FuncData} {n : Nat} {ix : List Nat}
theorem FunD.bm (F : FunD K x qn (defArgs st) (defBody st) (defScope st) [] kws f fd) (hk : kws ≠ []) (hms : ∀ q ∈ ms, q ∈ kws) (h : BdM x qn st ps n ks ms ix) :
    ∃ mv : List Value, KBn K fd ps n ks (fun us ws => pick ix (us ++ ws ++ mv)) (fun us ws => pick ix (us ++ ws ++ ms.map (·.2))) := by
  obtain ⟨oc, od, dV, kV, doc, pm, an, cdv, ct, osl, rfl, lk, hcd, hD, hK⟩ := F.ex
  rcases hD with ⟨_, rfl⟩ | ⟨e, _⟩
  · rcases hK with e | ⟨D, rfl, hq⟩
    · exact absurd e hk
    · obtain ⟨mv, hl, rk, hks⟩ := kwd_vals (ms := ms) fun q hm => hq q (hms q hm)
      exact ⟨mv, fun s us ws X l1 l2 => BindsTo.of_looks fun M => KwChain.looks X hks (h D doc pm an cdv ct us mv ws l1 hl l2), fun r1 r2 => pick_vals ((r1.append r2).append rk) ix⟩
  · exact absurd rfl e
end
section
variable {X : Cx} {B : Bd} {pos p : Pos} {k j n : Nat} {wx : DW} {e : Expr} {es : List Expr} {x qn : Str} {st : Stmt} {kws ms : List (Str × V)} {dms : List D} {ps : List Str} {fn : DF} {f : Addr} {tA tB : DTA}
theorem so_callFM0 {ks : List Str} {ix : List Nat} {kwl : List Keyword} (S : Site X B k wx) (C : Fn X.prog X.w X.K X.mg X.base x qn st [] kws ps n j fn f) (hj : j ≤ k) (hm : X.mg x = some (.ref f)) (hk : kws ≠ []) (hms : ∀ q ∈ ms, q ∈ kws) (hb : BdM x qn st ps 0 ks ms ix) (hdm : ∀ F, RVs X.K F dms (ms.map (·.2))) (hg : Gl X x) (hkw : PK X kwl (liftA B tB))
    (hall : (backToKw pos (keywordEach kwl X.env)).all (·.1.isSome) = true := by rfl) (hks : (backToKw pos (keywordEach kwl X.env)).filterMap (·.1) = ks := by rfl)
    (hdb : (x == ("__debug__" : Str)) = false := by decide) (hpl : ((backTo pos (starEach [] X.env)).any (·.1) || (backToKw pos (keywordEach kwl X.env)).any (·.1.isNone)) = false := by rfl) :
    PE X (.Call (.Name x p) [] kwl pos) (lift B (dCallK0 fn n ks.length wx (fun es => pick ix (es ++ dms)) tB)) := by
  obtain ⟨fd, G, F⟩ := C.ex
  obtain ⟨mv, hkb⟩ := FunD.bm F hk hms hb
  exact de_callK0 (S.hK ▸ G) S.gd (S.rm.mono hj) hg hm F.kp hkb (fun F es zs r => by simpa using pick_rv (r.append (S.hK ▸ hdm F)) ix) S.tk hkw hall hks hdb hpl
theorem so_callFM {m : Nat} {ks : List Str} {ix : List Nat} {kwl : List Keyword} (S : Site X B k wx) (C : Fn X.prog X.w X.K X.mg X.base x qn st [] kws ps n j fn f) (hj : j ≤ k) (hm : X.mg x = some (.ref f)) (hk : kws ≠ []) (hms : ∀ q ∈ ms, q ∈ kws) (hb : BdM x qn st ps m ks ms ix) (hdm : ∀ F, RVs X.K F dms (ms.map (·.2))) (hg : Gl X x) (ha : PA X (e :: es) (liftA B tA)) (hkw : PK X kwl (liftA B tB))
    (hall : (backToKw pos (keywordEach kwl X.env)).all (·.1.isSome) = true := by rfl) (hks : (backToKw pos (keywordEach kwl X.env)).filterMap (·.1) = ks := by rfl)
    (hdb : (x == ("__debug__" : Str)) = false := by decide) (he : starEach (e :: es) X.env = (false, eval e X.env) :: starEach es X.env := by rfl)
    (hpl : ((backTo pos (starEach (e :: es) X.env)).any (·.1) || (backToKw pos (keywordEach kwl X.env)).any (·.1.isNone)) = false := by rfl) :
    PE X (.Call (.Name x p) (e :: es) kwl pos) (lift B (dCallK fn n m ks.length wx (fun a b => pick ix (a ++ b ++ dms)) tA tB)) := by
  obtain ⟨fd, G, F⟩ := C.ex
  obtain ⟨mv, hkb⟩ := FunD.bm F hk hms hb
  exact de_callK (S.hK ▸ G) S.gd (S.rm.mono hj) hg hm F.kp hkb (fun F ds vs es zs r1 r2 => pick_rv ((r1.append r2).append (S.hK ▸ hdm F)) ix) S.tk ha hkw hall hks hdb he hpl
end
end DL

set_option Elab.async false
set_option linter.all false
set_option maxRecDepth 100000
set_option maxHeartbeats 4000000
/-! # EG: zip; x in range(..); t[::-1] -/
namespace HT
open PySem PySem.Spec PyProof.Rows
section
variable {s : Shared} {prog : Program} {w : World} {A : Around} {E : Value → Shared → Prop}
theorem sliceApplied_rev {sl : Addr} {vs : Value} {n : Nat} {Q : Int × Int × Nat → Shared → Prop} (hs : s.heap.IsSliceOf sl .none .none vs) (ps : IsPart vs (some (-1)))
    (h : Q ((n : Int) - 1, -1, n) s) : wpAny (model prog w) A (Builtin.Slice.sliceApplied (.ref sl) (pure (n : Int))) Q E s := by
  obtain ⟨os, hos, hcs, hds⟩ := id hs
  unfold Builtin.Slice.sliceApplied Builtin.Slice.sliceFields
  refine wpAny_bind (wpAny_bind (wpAny_field hos hds (x := .none) rfl (wpAny_bind (wpAny_field hos hds (x := .none) rfl (wpAny_bind (wpAny_field hos hds (x := vs) rfl (wpAny_pure ?_)))))))
  refine wpAny_bind (slicePart_ ps ?_)
  show wpAny _ _ (if ((-1 : Int) == 0) = true then _ else _) _ _ s
  rw [if_neg (by decide)]
  refine wpAny_bind (slicePart_none (wpAny_bind (slicePart_none (wpAny_bind (wpAny_pure ?_)))))
  show wpAny _ _ (pure ((n : Int) - 1, (-1 : Int), Builtin.Slice.slicePlaces ((n : Int) - 1) (-1) (-1))) _ _ s
  have e : Builtin.Slice.slicePlaces ((n : Int) - 1) (-1) (-1) = n := by
    unfold Builtin.Slice.slicePlaces
    rw [if_neg (by decide)]
    split
    · have : ((n : Int) - 1 - -1 - 1) / (- -1) = (n : Int) - 1 := by
        rw [show (- -1 : Int) = 1 by decide, Int.ediv_one]; omega
      rw [this]; omega
    · omega
  rw [e]
  exact wpAny_pure h
theorem pick_rev (xs : Array Value) : ((List.range xs.size).filterMap fun (m : Nat) => xs[(((xs.size : Nat) : Int) - 1 + (m : Int) * -1).toNat]?).toArray = xs.toList.reverse.toArray := by
  congr 1
  have key : ∀ (k : Nat), k ≤ xs.size → (List.range k).filterMap (fun (m : Nat) => xs[(((xs.size : Nat) : Int) - 1 + (m : Int) * -1).toNat]?) = xs.toList.reverse.take k := by
    intro k hk
    induction k with
    | zero => rfl
    | succ k ih =>
      have hlt : xs.size - 1 - k < xs.size := by omega
      rw [List.range_succ, List.filterMap_append, ih (by omega), List.take_add_one]
      congr 1
      have e1 : (((xs.size : Nat) : Int) - 1 + (k : Int) * -1).toNat = xs.size - 1 - k := by omega
      have e2 : xs.toList.reverse[k]? = xs[xs.size - 1 - k]? := by
        rw [List.getElem?_reverse (by rw [Array.length_toList]; omega), Array.length_toList, Array.getElem?_toList]
      simp only [List.filterMap_cons, List.filterMap_nil, e1, e2]
      rw [Array.getElem?_eq_getElem hlt]
      rfl
  rw [key _ (Nat.le_refl _), List.take_of_length_le (by rw [List.length_reverse, Array.length_toList]; exact Nat.le_refl _)]
end
end HT
namespace DL
open PySem PySem.Spec PyProof.Rows L2 RZ
section
variable {X : Cx} {B : Bd} {k : Nat} {wx : DW} {e e2 : Expr} {ta tb : DTE} {tA : DTA} {pos p pos2 : Pos}
/-! ### zip -/
def zipD (as bs : List D) : List D := (as.zip bs).map fun p => .tup [p.1, p.2]
theorem zipD_get {as bs : List D} {i : Nat} {x : D} (h : (zipD as bs)[i]? = some x) : ∃ d e, as[i]? = some d ∧ bs[i]? = some e ∧ x = .tup [d, e] := by
  unfold zipD at h
  rw [List.getElem?_map] at h
  obtain ⟨q, h1, rfl⟩ := Option.map_eq_some_iff.mp h
  obtain ⟨h2, h3⟩ := List.getElem?_zip_eq_some.mp h1
  exact ⟨_, _, h2, h3, rfl⟩
theorem zipD_len (as bs : List D) : (zipD as bs).length = min as.length bs.length := by simp [zipD]
def diZip (tA : DTA) : DTI := fun env O q => tA env O fun ds O1 => match ds with
  | [x, y] => ∃ as bs, (x = .tup as ∧ y = .tup bs ∧ q (zipD as bs) (fun _ => True) O1) ∨ (asL O1 x = some as ∧ asL O1 y = some bs ∧ q (zipD as bs) (fun O' => gdL O1 x O' ∧ gdL O1 y O') O1)
  | _ => False
theorem di_zip {tpos : Pos} {elts : List Expr} {kk : Nat} (S : Site X B k wx) (hg : Gl X "zip") (hm : X.mg "zip" = none) (ha : PA X [e, e2] (liftA B tA))
    (hs : starEach [e, e2] X.env = (false, eval e X.env) :: starEach [e2] X.env := by rfl) (hpl : (backTo pos (starEach [e2] X.env)).any (·.1) = false := by rfl) :
    PI X (.Tuple elts kk tpos) (.Call (.Name "zip" p) [e, e2] [] pos) (liftI B (diZip tA)) := PI.weak (pi_zipA hg hm ha hs hpl) fun σ H R hh => by
  have hK := S.hK
  obtain ⟨env, O, F, q, R0, hh, kk⟩ := hh
  refine ⟨env, O, F, _, R0, hh, fun ds vs O1 H1 F1 a1 r1 h1 => ?_⟩
  have laid : ∀ (O2 : Ow) (H2 F2 : Hp) (T : Addr) (d d' : D) (x x' : V), Same F2 H2 → OwOk B.K O2 H2 F2 → H2 T = none → RV B.K F2 d x → RV B.K F2 d' x' →
      ∃ F3, After B.K O2 H2 F2 O2 (upd H2 T (.tup [x, x'])) F3 ∧ RV B.K F3 (.tup [d, d']) (.ref T) := fun O2 H2 F2 T d d' x x' fh ow hT r r' => by
    have R2 : Rel ⟨B.K, O2, H2, F2⟩ [] O2 [] H2 F2 := ⟨.rfl' fh ow, rfl, fun j d e => by cases e⟩
    have a := R2.froz hT (.tup [x, x'])
    exact ⟨_, a, .tup (SqT.of upd_same) (.cons (r.mono a.ff) (.cons (r'.mono a.ff) .nil))⟩
  match ds, r1, h1 with
  | [x, y], r1, ⟨as, bs, h1⟩ =>
    obtain ⟨v, u, rfl, rx, ry⟩ := r1.two
    rcases h1 with ⟨rfl, rfl, h1⟩ | ⟨ex, ey, h1⟩
    · cases rx with
      | @tup a xs _ s1 rr1 =>
      cases ry with
      | @tup b ys _ s2 rr2 =>
      refine ⟨a, b, xs, ys, rfl, .inr ⟨by rw [hK]; exact same_tup a1.fh s1, by rw [hK]; exact same_tup a1.fh s2, kk _ _ O1 H1 F1 _ a1 ?_ h1⟩⟩
      intro O2 H2 F2 i sm fh2 ow2 _
      have t1 : SqT B.K H2 a xs := same_tup (sm.trans fh2) s1
      have t2 : SqT B.K H2 b ys := same_tup (sm.trans fh2) s2
      rw [hK]
      refine ⟨fun z hz => ?_, fun hi => ⟨xs, ys, t1, t2, ?_⟩⟩
      · obtain ⟨d, d', h2, h3, rfl⟩ := zipD_get hz
        obtain ⟨v1, e1, q1⟩ := rr1.get h2
        obtain ⟨v2, e2, q2⟩ := rr2.get h3
        refine ⟨⟨xs, ys, v1, v2, t1, t2, e1, e2⟩, fun v H3 hy => ?_⟩
        obtain ⟨T, x', y', rfl, hT, rfl, f1, f2⟩ := hy
        obtain rfl : x' = v1 := Option.some.inj ((f1 xs t1).symm.trans e1)
        obtain rfl : y' = v2 := Option.some.inj ((f2 ys t2).symm.trans e2)
        exact laid O2 H2 F2 T d d' _ _ fh2 ow2 hT (q1.mono sm) (q2.mono sm)
      · rw [zipD_len, rr1.length, rr2.length] at hi
        omega
    · obtain ⟨a, xs, rfl, s1, rr1⟩ := asL_sq a1.fh a1.ow rx ex
      obtain ⟨b, ys, rfl, s2, rr2⟩ := asL_sq a1.fh a1.ow ry ey
      refine ⟨a, b, xs, ys, rfl, .inl ⟨by rw [hK]; exact s1, by rw [hK]; exact s2, kk _ _ O1 H1 F1 _ a1 ?_ h1⟩⟩
      intro O2 H2 F2 i sm fh2 ow2 gd
      obtain ⟨a', xs', e', t1, rr1'⟩ := asL_sq fh2 ow2 (rx.mono sm) (asL_gd ex gd.1)
      cases e'
      obtain ⟨b', ys', e', t2, rr2'⟩ := asL_sq fh2 ow2 (ry.mono sm) (asL_gd ey gd.2)
      cases e'
      rw [hK]
      refine ⟨fun z hz => ?_, fun hi => ⟨xs', ys', t1, t2, ?_⟩⟩
      · obtain ⟨d, d', h2, h3, rfl⟩ := zipD_get hz
        obtain ⟨v1, e1, q1⟩ := rr1'.get h2
        obtain ⟨v2, e2, q2⟩ := rr2'.get h3
        refine ⟨⟨xs', ys', v1, v2, t1, t2, e1, e2⟩, fun v H3 hy => ?_⟩
        obtain ⟨T, x', y', rfl, hT, rfl, f1, f2⟩ := hy
        obtain rfl : x' = v1 := Option.some.inj ((f1 xs' t1).symm.trans e1)
        obtain rfl : y' = v2 := Option.some.inj ((f2 ys' t2).symm.trans e2)
        exact laid O2 H2 F2 T d d' _ _ fh2 ow2 hT q1 q2
      · rw [zipD_len, rr1'.length, rr2'.length] at hi
        omega
variable {env : Env} {O : Ow} {q : DQ}
theorem i_zip {qi : List D → (Ow → Prop) → Ow → Prop} (h : tA env O fun ds O1 => match ds with
  | [x, y] => ∃ as bs, (x = .tup as ∧ y = .tup bs ∧ qi (zipD as bs) (fun _ => True) O1) ∨ (asL O1 x = some as ∧ asL O1 y = some bs ∧ qi (zipD as bs) (fun O' => gdL O1 x O' ∧ gdL O1 y O') O1)
  | _ => False) : diZip tA env O qi := h
/-! ### i in range(..) -/
theorem cr_range1 : CallR X (.type "range") (fun vs H Q => ∃ j, vs = [V.int j] ∧ ∀ p, H p = none → Q (.ref p) (upd H p (.rng 0 j))) := by
  intro pins s σ H vs us Q I r h
  obtain ⟨j, rfl, q⟩ := h
  obtain ⟨u1, rfl, ri⟩ := vals1 r
  obtain ⟨t, rfl⟩ := ri
  refine call_range_1 ⟨.ref s.heap.objs.size, upd H s.heap.objs.size (.rng 0 j), I.laid (t' := s.toks + 2) (fun b o e => Heap.get?_push_of_some _ e) (Nat.le_refl _) ?_, rfl, q _ (I.hok.fresh (Nat.le_refl _))⟩
  exact ⟨_, _, _, Heap.get?_push_size _ rfl⟩
def dInRg1 (ta tb : DTE) : DTE := fun env O q => ta env O fun x O1 => tb env O1 fun y O2 => match x, y with
  | .int i, .int j => q (.bl (decide (0 ≤ i ∧ i < j))) O2
  | _, _ => False
def dInRg2 (ta : DTE) (tA : DTA) : DTE := fun env O q => ta env O fun x O1 => tA env O1 fun ds O2 => match x, ds with
  | .int i, [.int lo, .int hi] => q (.bl (decide (lo ≤ i ∧ i < hi))) O2
  | _, _ => False
theorem so_inRg1 {p2 : Pos} (S : Site X B k wx) (hg : Gl X "range") (hm : X.mg "range" = none) (ha : PE X e (lift B ta)) (hb : PE X e2 (lift B tb)) (he : starEach [e2] X.env = (false, eval e2 X.env) :: starEach [] X.env := by rfl) (hpl : (backTo pos2 (starEach [] X.env)).any (·.1) = false := by rfl)
    (hmk : behindInMarks .In (.Call (.Name "range" p2) [e2] [] pos2) = false := by rfl) : PE X (.Compare e [.In] [.Call (.Name "range" p2) [e2] [] pos2] pos) (lift B (dInRg1 ta tb)) :=
  PE.weak (pe_cmpR op_in_rng ha (pe_callTy cr_range1 hg hm PyProof.Rows.boot_range (pa_cons hb pa_nil he) (by decide) (by decide) he hpl) hmk) fun σ H Q h => by
    obtain ⟨env, O, F, q, R, h, kk⟩ := h
    refine ⟨env, O, F, _, R, h, fun d v O1 H1 F1 a1 r1 h1 => ?_⟩
    have R1 := R.call a1
    refine ⟨env, O1, F1, _, R1, h1, fun d2 v2 O2 H2 F2 a2 r2 h2 => ?_⟩
    have R2 := R1.call a2
    cases d <;> cases d2 <;> try exact h2.elim
    cases r1; cases r2
    exact ⟨_, rfl, fun p hp => ⟨_, p, _, _, rfl, rfl, upd_same, kk _ _ O2 _ F2 (a1.trans (a2.trans (R2.junk hp _))) (.bl _) h2⟩⟩
theorem so_inRg2 {p2 : Pos} (S : Site X B k wx) (hg : Gl X "range") (hm : X.mg "range" = none) (ha : PE X e (lift B ta)) {e3 : Expr} (hA : PA X [e2, e3] (liftA B tA)) (he : starEach [e2, e3] X.env = (false, eval e2 X.env) :: starEach [e3] X.env := by rfl) (hpl : (backTo pos2 (starEach [e3] X.env)).any (·.1) = false := by rfl)
    (hmk : behindInMarks .In (.Call (.Name "range" p2) [e2, e3] [] pos2) = false := by rfl) : PE X (.Compare e [.In] [.Call (.Name "range" p2) [e2, e3] [] pos2] pos) (lift B (dInRg2 ta tA)) :=
  PE.weak (pe_cmpR op_in_rng ha (pe_callTy cr_range2 hg hm PyProof.Rows.boot_range hA (by decide) (by decide) he hpl) hmk) fun σ H Q h => by
    obtain ⟨env, O, F, q, R, h, kk⟩ := h
    refine ⟨env, O, F, _, R, h, fun d v O1 H1 F1 a1 r1 h1 => ?_⟩
    have R1 := R.call a1
    refine ⟨env, O1, F1, _, R1, h1, fun ds vs O2 H2 F2 a2 r2 h2 => ?_⟩
    have R2 := R1.call a2
    cases d <;> try exact h2.elim
    cases r1
    match ds, r2, h2 with
    | [.int lo, .int hi], r2, h2 =>
      obtain ⟨v, u, rfl, rx, ry⟩ := r2.two
      cases rx; cases ry
      exact ⟨_, _, rfl, fun p hp => ⟨_, p, _, _, rfl, rfl, upd_same, kk _ _ O2 _ F2 (a1.trans (a2.trans (R2.junk hp _))) (.bl _) h2⟩⟩
theorem i_inRg1 (h : ta env O fun x O1 => tb env O1 fun y O2 => match x, y with
  | .int i, .int j => q (.bl (decide (0 ≤ i ∧ i < j))) O2
  | _, _ => False) : dInRg1 ta tb env O q := h
theorem i_inRg2 (h : ta env O fun x O1 => tA env O1 fun ds O2 => match x, ds with
  | .int i, [.int lo, .int hi] => q (.bl (decide (lo ≤ i ∧ i < hi))) O2
  | _, _ => False) : dInRg2 ta tA env O q := h
/-! ### t[::-1] -/
def tRevA (K : Frag) (te : TE) : TE := fun σ H Q => te σ H fun x H1 => ∃ a xs, x = .ref a ∧ ((SqL K H1 a xs ∧ ∀ p, H1 p = none → Q (.ref p) (upd H1 p (.lst xs.reverse))) ∨ (SqT K H1 a xs ∧ ∀ p, H1 p = none → Q (.ref p) (upd H1 p (.tup xs.reverse))))
theorem getItem_tuple_rev {s : Shared} {prog : Program} {w : World} {A : Around} {E : Value → Shared → Prop} {t sl : Addr} {items : Array Value} {vs : Value} {Q : Value → Shared → Prop} (ht : IsTup s.heap t items) (hs : s.heap.IsSliceOf sl .none .none vs) (ps : IsPart vs (some (-1)))
    (h : Q (.ref s.heap.objs.size) { s with heap := s.heap.push { cls := .type "tuple", data := .seq items.toList.reverse.toArray } })
    (hsz : items.size ≤ sizeLine) : wpAny (model prog w) A (getItem (.ref t) (.ref sl)) Q E s := by
  have htake : sizeOk (.seq items.toList.reverse.toArray) := by
    show items.toList.reverse.toArray.size ≤ sizeLine
    rw [List.size_toArray, List.length_reverse, Array.length_toList]
    exact hsz
  obtain ⟨os, hos, hcs, hds⟩ := id hs
  have hTs : s.TypeIs (.ref sl) "slice" := ⟨os, hos, hcs⟩
  unfold getItem
  try with_reducible refine wpAny_holding ?_
  first | refine wpAny_bind (wpAny_pure ?_) | skip
  refine wpAny_bind (wpAny_sequenceKey ht.typeIs (by decide) ?_)
  refine wpAny_bind (wpAny_callSpecial?_slot (name := Str.ofString "__getitem__") ht.typeIs PyProof.Rows.slot_tuple_getitem
    (wpAny_call_entry PyProof.Rows.slot_tuple_getitem ht.typeIs PyProof.Rows.entry_tuple_getitem ?_ (PyProof.Rows.args_tuple_getitem _ _)))
  show wpAny _ _ (Builtin.Tuple.tupleItemsOf (.ref t) >>= _) _ _ s
  refine wpAny_bind (PyProof.Rows.tupleItemsOf_ ht ?_)
  refine wpAny_bind (wpAny_typeOf hTs ?_)
  rw [if_pos (by decide)]
  refine wpAny_bind (HT.sliceApplied_rev hs ps ?_)
  have hno : ¬ ((((items.size : Nat) : Int) - 1 == 0 && (-1 : Int) == 1 && items.size == items.size) = true) := by
    intro q
    rw [Bool.and_eq_true, Bool.and_eq_true] at q
    exact absurd q.1.2 (by decide)
  show wpAny _ _ (if (((items.size : Nat) : Int) - 1 == 0 && (-1 : Int) == 1 && items.size == items.size) = true then _ else _) _ _ s
  rw [if_neg hno, HT.pick_rev]
  first
    | exact wpAny_bind (m := Builtin.Tuple.tupleExact _) (wpAny_newObj_type (wpAny_pure ⟨_, rfl, wpAny_pure h⟩) htake)
    | exact wpAny_bind (m := Builtin.Tuple.tupleExact _) (wpAny_newObj_type (wpAny_bind (wpAny_pure (wpAny_pure ⟨_, rfl, wpAny_pure h⟩))) htake)
    | exact wpAny_bind (wpAny_bind (m := Builtin.Tuple.tupleExact _) (wpAny_newObj_type (wpAny_pure (wpAny_pure ⟨_, rfl, wpAny_pure h⟩)) htake))
    | exact wpAny_bind (wpAny_bind (m := Builtin.Tuple.tupleExact _) (wpAny_newObj_type (wpAny_pure ⟨_, rfl, wpAny_pure h⟩) htake))
theorem pe_revA {te : TE} {k : Nat} {p1 p2 p3 : Pos} (he : PE X e te) : PE X (.Subscript e (.Slice none none (some (.UnaryOp .USub (.Constant (.int 1) k p1) p2)) p3) pos) (tRevA X.K te) := by
  refine ⟨fun pins s σ H Q I h => ?_⟩
  refine Subscript_ (thn (he.run pins s σ H _ I h) fun v s1 ⟨x, H1, I1, r1, q1⟩ => ?_)
  obtain ⟨a, xs, ex, q⟩ := q1
  subst ex
  cases r1
  have hst : PO X (some (.UnaryOp .USub (.Constant (.int 1) k p1) p2)) (tPart (tUn (rU fun i => .int (-i)) (tC (.int 1)))) := po_some (pe_un un_neg pe_int)
  refine wpAny_Slice (thn (po_none.run pins s1 σ H1 (fun o H2 => o = none ∧ H2 = H1) I1 ⟨rfl, rfl⟩) fun vl s2 ⟨l, H2, I2, pl, el, e2⟩ => ?_)
  subst el e2
  refine thn (po_none.run pins s2 σ H2 (fun o H3 => o = none ∧ H3 = H2) I2 ⟨rfl, rfl⟩) fun vu s3 ⟨u, H3, I3, pu, eu, e3⟩ => ?_
  subst eu e3
  refine thn (hst.run pins s3 σ H3 (fun o H4 => o = some (-1) ∧ H4 = H3) I3 ⟨1, rfl, -1, rfl, rfl, rfl⟩) fun vs s4 ⟨o, H4, I4, ps, eo, e4⟩ => ?_
  subst eo e4
  have I5 : Inv X pins σ H4 { s4 with heap := s4.heap.push { cls := .type "slice", data := .fields #[vl, vu, vs] } } := I4.kept (t' := s4.toks) fun b ob q => Heap.get?_push_of_some _ q
  show wpAny (model X.prog X.w) X.A (subscriptTail e (.Slice none none (some (.UnaryOp .USub (.Constant (.int 1) k p1) p2)) p3) (.ref a) (.ref s4.heap.objs.size)) (EP X pins σ Q) X.xe { s4 with heap := s4.heap.push { cls := .type "slice", data := .fields #[vl, vu, vs] } }
  rcases q with ⟨hx, q⟩ | ⟨hx, q⟩
  · obtain ⟨its, r, ht, hz⟩ := I5.list hx
    have hlen := r.length
    refine tail_any (ops := [.ref a, .ref s4.heap.objs.size]) ht.isList.typeIs (PySem.slot_list_getitem.lookup) ?_ (by with_unfolding_all rfl)
    refine wpAny_getItem_list_slice ht.isList (Heap.IsSliceOf.new _ vl vu vs) pl pu ps (by decide) ?_ (by rw [List.size_toArray]; omega)
    rw [PySem.W.krv_pick]
    refine ⟨.ref _, _, I5.laid (t' := s4.toks) (o := .lst xs.reverse) (fun b ob q => Heap.get?_push_of_some _ q) (Nat.le_refl _) ?_, rfl, q _ (I5.hok.fresh (Nat.le_refl _))⟩
    exact ⟨by rw [List.length_reverse]; exact hz, _, 0, r.reverse, Heap.get?_push_size _ rfl⟩
  · obtain ⟨its, r, ht, hz⟩ := I5.tuple hx
    have hlen := r.length
    refine tail_any (ops := [.ref a, .ref s4.heap.objs.size]) ht.typeIs (PyProof.Rows.slot_tuple_getitem.lookup) ?_ (by with_unfolding_all rfl)
    cases pl
    cases pu
    refine getItem_tuple_rev ht (Heap.IsSliceOf.new _ .none .none vs) ps ?_ (by rw [List.size_toArray]; omega)
    refine ⟨.ref _, _, I5.laid (t' := s4.toks) (o := .tup xs.reverse) (fun b ob q => Heap.get?_push_of_some _ q) (Nat.le_refl _) ?_, rfl, q _ (I5.hok.fresh (Nat.le_refl _))⟩
    exact ⟨by rw [List.length_reverse]; exact hz, _, r.reverse, IsTup.new _ _⟩
def dRevA (te : DTE) : DTE := fun env O q => te env O fun d O1 => match d with
  | .tup ds => q (.tup ds.reverse) O1
  | d => ∃ ds, asL O1 d = some ds ∧ q (.lst ds.reverse) O1
theorem so_revA {k2 : Nat} {p1 p2 p3 : Pos} (S : Site X B k wx) (he : PE X e (lift B ta)) : PE X (.Subscript e (.Slice none none (some (.UnaryOp .USub (.Constant (.int 1) k2 p1) p2)) p3) pos) (lift B (dRevA ta)) := PE.weak (pe_revA he) fun σ H Q h => by
  obtain ⟨env, O, F, q, R, h, kk⟩ := h
  refine ⟨env, O, F, _, R, h, fun d v O1 H1 F1 a1 r1 h1 => ?_⟩
  have R1 := R.call a1
  have hL : (∃ ds, asL O1 d = some ds ∧ q (.lst ds.reverse) O1) → ∃ a xs, v = .ref a ∧ ((SqL X.K H1 a xs ∧ ∀ p, H1 p = none → Q (.ref p) (upd H1 p (.lst xs.reverse))) ∨ (SqT X.K H1 a xs ∧ ∀ p, H1 p = none → Q (.ref p) (upd H1 p (.tup xs.reverse)))) := by
    rintro ⟨ds, e, h1⟩
    obtain ⟨l, xs, rfl, hq, hr⟩ := asL_sq R1.fh R1.ow r1 e
    refine ⟨l, xs, rfl, .inl ⟨by rw [S.hK]; exact hq, fun p hp => ?_⟩⟩
    have a2 := R1.froz hp (.lst xs.reverse)
    exact kk _ _ O1 _ _ (a1.trans a2) (.lst (SqL.of upd_same) (hr.reverse.mono a2.ff)) h1
  cases d <;> simp only at h1 <;> try exact hL h1
  cases r1 with
  | tup hs hr =>
    rename_i a xs
    refine ⟨a, xs, rfl, .inr ⟨by rw [S.hK]; exact same_tup a1.fh hs, fun p hp => ?_⟩⟩
    have a2 := R1.froz hp (.tup xs.reverse)
    exact kk _ _ O1 _ _ (a1.trans a2) (.tup (SqT.of upd_same) (hr.reverse.mono a2.ff)) h1
theorem i_revT (h : ta env O fun d O1 => match d with
  | .tup ds => q (.tup ds.reverse) O1
  | d => ∃ ds, asL O1 d = some ds ∧ q (.lst ds.reverse) O1) : dRevA ta env O q := h
/-! ### list(range(n)), one's own -/
def dListRg1O (ta : DTE) : DTE := fun env O q => ta env O fun d O1 => match d with | .int j => RgOk 0 j ∧ ∀ p, O1 p = none → q (.ref p) (setO O1 p (.lst (rgD 0 j))) | _ => False
theorem so_listRg1O {p2 pos2 : Pos} (S : Site X B k wx) (hc : X.calm = true) (hg : Gl X "list") (hm : X.mg "list" = none) (hg2 : Gl X "range") (hm2 : X.mg "range" = none) (ha : PE X e (lift B ta)) (na2 : starEach [e] X.env = (false, eval e X.env) :: starEach [] X.env := by rfl)
    (na : starEach [.Call (.Name "range" p2) [e] [] pos2] X.env = (false, eval (.Call (.Name "range" p2) [e] [] pos2) X.env) :: starEach [] X.env := by rfl) : PE X (.Call (.Name "list" p) [.Call (.Name "range" p2) [e] [] pos2] [] pos) (lift B (dListRg1O ta)) :=
  PE.weak (pe_listRg hc hg hm (prg_1 hg2 hm2 ha na2) na) fun σ H Q h => by
    obtain ⟨env, O, F, q, R, h, kk⟩ := h
    refine ⟨env, O, F, _, R, h, fun d v O1 H1 F1 a1 r1 h1 => ?_⟩
    cases d <;> try exact h1.elim
    cases r1
    have R1 := R.call a1
    exact ⟨_, rfl, h1.1, fun l hl => kk _ _ _ _ F1 (a1.trans (R1.own hl (u := .lst _) ⟨_, rfl, by simpa using rgD_rv 0 _⟩)) (.ref l) (h1.2 l (R1.free hl).1)⟩
theorem i_listRg1O (h : ta env O fun d O1 => match d with | .int j => RgOk 0 j ∧ ∀ p, O1 p = none → q (.ref p) (setO O1 p (.lst (rgD 0 j))) | _ => False) : dListRg1O ta env O q := h
/-! ### < of ints or of texts -/
def dLtA : DR2 := fun x y O q => match x, y with
  | .int i, .int j => q (.bl (decide (i < j))) O
  | .str i, .str j => q (.bl (decide (i.cps.toList < j.cps.toList))) O
  | _, _ => False
theorem sim_ltA : Sim2 B (fun x y H Q => (rI0 fun i j => .bl (decide (i < j))) x y H Q ∨ ∃ i j, x = .str i ∧ y = .str j ∧ Q (.bl (decide (i.cps.toList < j.cps.toList))) H) dLtA := by
  intro env O σ H F x y dx dy q Q R rx ry h k
  cases dx <;> cases dy <;> try exact h.elim
  · cases rx; cases ry
    exact .inl ⟨_, _, rfl, rfl, k _ _ O H F (.refl R) (.bl _) h⟩
  · cases rx; cases ry
    exact .inr ⟨_, _, rfl, rfl, k _ _ O H F (.refl R) (.bl _) h⟩
theorem so_ltA (S : Site X B k wx) (ha : PE X e (lift B ta)) (hb : PE X e2 (lift B tb)) : PE X (.Compare e [.Lt] [e2] pos) (lift B (dOp dLtA ta tb)) := de_cmp (op_lt.or op_lt_str) sim_ltA ha hb (nomark _)
theorem st_ltA (S : Site X B k wx) (ha : PE X e (lift B ta)) (hb : PE X e2 (lift B tb)) : PT X (.Compare e [.Lt] [e2] pos) (liftT B (dTest (dOp dLtA ta tb))) := dt_cmp (op_lt.or op_lt_str) sim_ltA ha hb (nomark _)
theorem i_ltAI {i j : Int} (h : q (.bl (decide (i < j))) O) : dLtA (.int i) (.int j) O q := h
theorem i_ltAS {i j : Str} (h : q (.bl (decide (i.cps.toList < j.cps.toList))) O) : dLtA (.str i) (.str j) O q := h
/-! ### sorted -/
def isRwB : D → Bool
  | .int _ => true
  | _ => false
theorem i_sortInts {ds : List D} (hd : ∀ d ∈ ds, ∃ i, d = .int i) (h : q (.lst (srtD ds)) O) : dSorted [.lst ds] O q := by
  have hp : pds ds = true := by
    clear h
    induction ds with
    | nil => rfl
    | cons d ds ih =>
      obtain ⟨i, rfl⟩ := hd d List.mem_cons_self
      simp only [pds, pd, Bool.true_and]
      exact ih fun x hx => hd x (List.mem_cons_of_mem _ hx)
  refine ⟨_, rfl, hp, fun d hd1 e he => ?_, .inr fun d hd1 => ?_, fun e he => ?_, h⟩
  · simp only [List.mem_map] at hd1 he
    obtain ⟨a, ha, rfl⟩ := hd1
    obtain ⟨b, hb, rfl⟩ := he
    obtain ⟨i, rfl⟩ := hd a ha
    obtain ⟨j, rfl⟩ := hd b hb
    simp [py, PySem.W.alike]
  · simp only [List.mem_map] at hd1
    obtain ⟨a, ha, rfl⟩ := hd1
    obtain ⟨i, rfl⟩ := hd a ha
    simp [py]
  · obtain ⟨i, rfl⟩ := hd e he
    simp [py, PyData.depth]
theorem i_sortStrs {ds : List D} (hd : ∀ d ∈ ds, ∃ s, d = .str s) (h : q (.lst (srtD ds)) O) : dSorted [.lst ds] O q := by
  obtain ⟨ss, rfl⟩ : ∃ ss : List Str, ds = ss.map D.str := by
    clear h
    induction ds with
    | nil => exact ⟨[], rfl⟩
    | cons d ds ih =>
      obtain ⟨s, rfl⟩ := hd d List.mem_cons_self
      obtain ⟨ss, rfl⟩ := ih fun x hx => hd x (List.mem_cons_of_mem _ hx)
      exact ⟨s :: ss, rfl⟩
  exact i_sortS h
theorem i_andK {tb : DTE} {b : Bool} (h : if b = true then tb env O q else q (.bl false) O) : (match D.bl b with | .bl true => tb env O q | .bl false => q (.bl false) O | _ => False) := by
  cases b
  · exact h
  · exact h
end
end DL

set_option Elab.async false
set_option linter.all false
set_option maxRecDepth 100000
set_option maxHeartbeats 4000000
namespace K24
open PySem PySem.Spec PyProof.Rows L2 DL
open ClX (CRead CVal)
def top (i : Nat) : Stmt := PySem.Challenge.pw_strongbit_k24_any_value_as_a_standing.main.body.getD i (.Pass ⟨0, 0, 0, 0⟩)
/-! ### the head: the run -/
abbrev s_is_integer : Stmt := top 2
abbrev s_is_bit : Stmt := top 3
abbrev s_is_next : Stmt := top 22
abbrev s_is_row_of : Stmt := top 23
abbrev s_checked_rows : Stmt := top 24
abbrev s_words_from : Stmt := top 25
abbrev s_End___init__ : Stmt := inClass (top 26) 1
abbrev s_End_hearer : Stmt := inClass (top 26) 3
abbrev s_End_sender : Stmt := inClass (top 26) 4
abbrev s_law_take : Stmt := top 29
abbrev s_law_bag : Stmt := top 28
abbrev s_law_puts : Stmt := top 30
abbrev s_law_clean : Stmt := top 31
abbrev s_law_way : Stmt := top 32
abbrev s_law_aside : Stmt := top 33
abbrev s_law_spot : Stmt := top 35
abbrev s_law_end : Stmt := top 34
abbrev s_is_row : Stmt := top 11
abbrev s_sorted_places : Stmt := top 12
abbrev s_is_place : Stmt := top 13
abbrev s_is_standing : Stmt := top 14
abbrev s_law_is_number : Stmt := top 36
abbrev s_law_is_place : Stmt := top 37
abbrev s_law_is_in_order : Stmt := top 38
abbrev s_law_due : Stmt := top 39
abbrev s_law_drawn : Stmt := top 40
abbrev s_law_spoilt : Stmt := top 41
abbrev s_law : Stmt := top 42
def dd_is_integer : DefX := ⟨fun K => (He.ga K "is_integer"), ⟨("is_integer", none), "is_integer", "is_integer", defArgs s_is_integer, defBody s_is_integer, defScope s_is_integer, [], []⟩⟩
def dd_is_bit : DefX := ⟨fun K => (He.ga K "is_bit"), ⟨("is_bit", none), "is_bit", "is_bit", defArgs s_is_bit, defBody s_is_bit, defScope s_is_bit, [], []⟩⟩
def dd_is_next : DefX := ⟨fun K => (He.ga K "is_next"), ⟨("is_next", none), "is_next", "is_next", defArgs s_is_next, defBody s_is_next, defScope s_is_next, [], []⟩⟩
def dd_is_row_of : DefX := ⟨fun K => (He.ga K "is_row_of"), ⟨("is_row_of", none), "is_row_of", "is_row_of", defArgs s_is_row_of, defBody s_is_row_of, defScope s_is_row_of, [], []⟩⟩
def dd_checked_rows : DefX := ⟨fun K => (He.ga K "checked_rows"), ⟨("checked_rows", none), "checked_rows", "checked_rows", defArgs s_checked_rows, defBody s_checked_rows, defScope s_checked_rows, [], []⟩⟩
def dd_words_from : DefX := ⟨fun K => (He.ga K "words_from"), ⟨("words_from", none), "words_from", "words_from", defArgs s_words_from, defBody s_words_from, defScope s_words_from, [], []⟩⟩
def dd_End___init__ : DefX := ⟨fun K => (He.ma K (He.ga K "End") "__init__"), ⟨("End", some "__init__"), "__init__", "End.__init__", defArgs s_End___init__, defBody s_End___init__, defScope s_End___init__, [], []⟩⟩
def dd_End_hearer : DefX := ⟨fun K => (ga2 K "End" "hearer"), ⟨("End", none), "hearer", "End.hearer", defArgs s_End_hearer, defBody s_End_hearer, defScope s_End_hearer, [], []⟩⟩
def dd_End_sender : DefX := ⟨fun K => (ga2 K "End" "sender"), ⟨("End", none), "sender", "End.sender", defArgs s_End_sender, defBody s_End_sender, defScope s_End_sender, [], []⟩⟩
def dd_law_take : DefX := ⟨fun K => (He.ga K "_law_take"), ⟨("_law_take", none), "_law_take", "_law_take", defArgs s_law_take, defBody s_law_take, defScope s_law_take, [], []⟩⟩
def dd_law_bag : DefX := ⟨fun K => (He.ga K "_law_bag"), ⟨("_law_bag", none), "_law_bag", "_law_bag", defArgs s_law_bag, defBody s_law_bag, defScope s_law_bag, [], []⟩⟩
def dd_law_puts : DefX := ⟨fun K => (He.ga K "_law_puts"), ⟨("_law_puts", none), "_law_puts", "_law_puts", defArgs s_law_puts, defBody s_law_puts, defScope s_law_puts, [], []⟩⟩
def dd_law_clean : DefX := ⟨fun K => (He.ga K "_law_clean"), ⟨("_law_clean", none), "_law_clean", "_law_clean", defArgs s_law_clean, defBody s_law_clean, defScope s_law_clean, [], []⟩⟩
def dd_law_way : DefX := ⟨fun K => (He.ga K "_law_way"), ⟨("_law_way", none), "_law_way", "_law_way", defArgs s_law_way, defBody s_law_way, defScope s_law_way, [], []⟩⟩
def dd_law_aside : DefX := ⟨fun K => (He.ga K "_law_aside"), ⟨("_law_aside", none), "_law_aside", "_law_aside", defArgs s_law_aside, defBody s_law_aside, defScope s_law_aside, [], []⟩⟩
def dd_law_spot : DefX := ⟨fun K => (He.ga K "_law_spot"), ⟨("_law_spot", none), "_law_spot", "_law_spot", defArgs s_law_spot, defBody s_law_spot, defScope s_law_spot, [], []⟩⟩
def dd_law_end : DefX := ⟨fun K => (He.ga K "_law_end"), ⟨("_law_end", none), "_law_end", "_law_end", defArgs s_law_end, defBody s_law_end, defScope s_law_end, [], []⟩⟩
def dd_is_row : DefX := ⟨fun K => (He.ga K "is_row"), ⟨("is_row", none), "is_row", "is_row", defArgs s_is_row, defBody s_is_row, defScope s_is_row, [], []⟩⟩
def dd_sorted_places : DefX := ⟨fun K => (He.ga K "sorted_places"), ⟨("sorted_places", none), "sorted_places", "sorted_places", defArgs s_sorted_places, defBody s_sorted_places, defScope s_sorted_places, [], []⟩⟩
def dd_is_place : DefX := ⟨fun K => (He.ga K "is_place"), ⟨("is_place", none), "is_place", "is_place", defArgs s_is_place, defBody s_is_place, defScope s_is_place, [], []⟩⟩
def dd_is_standing : DefX := ⟨fun K => (He.ga K "is_standing"), ⟨("is_standing", none), "is_standing", "is_standing", defArgs s_is_standing, defBody s_is_standing, defScope s_is_standing, [], []⟩⟩
def dd_law_is_number : DefX := ⟨fun K => (He.ga K "_law_is_number"), ⟨("_law_is_number", none), "_law_is_number", "_law_is_number", defArgs s_law_is_number, defBody s_law_is_number, defScope s_law_is_number, [], []⟩⟩
def dd_law_is_place : DefX := ⟨fun K => (He.ga K "_law_is_place"), ⟨("_law_is_place", none), "_law_is_place", "_law_is_place", defArgs s_law_is_place, defBody s_law_is_place, defScope s_law_is_place, [], []⟩⟩
def dd_law_is_in_order : DefX := ⟨fun K => (He.ga K "_law_is_in_order"), ⟨("_law_is_in_order", none), "_law_is_in_order", "_law_is_in_order", defArgs s_law_is_in_order, defBody s_law_is_in_order, defScope s_law_is_in_order, [], []⟩⟩
def dd_law_due : DefX := ⟨fun K => (He.ga K "_law_due"), ⟨("_law_due", none), "_law_due", "_law_due", defArgs s_law_due, defBody s_law_due, defScope s_law_due, [], []⟩⟩
def dd_law_drawn : DefX := ⟨fun K => (He.ga K "_law_drawn"), ⟨("_law_drawn", none), "_law_drawn", "_law_drawn", defArgs s_law_drawn, defBody s_law_drawn, defScope s_law_drawn, [], []⟩⟩
def dd_law_spoilt : DefX := ⟨fun K => (He.ga K "_law_spoilt"), ⟨("_law_spoilt", none), "_law_spoilt", "_law_spoilt", defArgs s_law_spoilt, defBody s_law_spoilt, defScope s_law_spoilt, [], []⟩⟩
def dd_law : DefX := ⟨fun K => (He.ga K "law"), ⟨("law", none), "law", "law", defArgs s_law, defBody s_law, defScope s_law, [], []⟩⟩
def fns : List DefX := [dd_is_integer, dd_is_bit, dd_is_next, dd_is_row_of, dd_checked_rows, dd_words_from, dd_End___init__, dd_End_hearer, dd_End_sender, dd_law_take, dd_law_bag, dd_law_puts, dd_law_clean, dd_law_way, dd_law_aside, dd_law_spot, dd_law_end, dd_is_row, dd_sorted_places, dd_is_place, dd_is_standing, dd_law_is_number, dd_law_is_place, dd_law_is_in_order, dd_law_due, dd_law_drawn, dd_law_spoilt, dd_law]
def fas : List Fac := [clsB "End", strB "HEARER" "hearer", gloB "HEARER_WORDS_ends", tupX "HEARER_WORDS_ends" [.str "taken", .str "lost"], gloB "HEARER_WORDS_standings", tupX "HEARER_WORDS_standings" [.str "lost", .str "taken"], intX "MOST_WRONG" 4, strB "SENDER" "sender", gloB "SENDER_PLACES", tupX "SENDER_PLACES" [.str "again", .str "done", .str "silent"], gloB "SENDER_WORDS", tupX "SENDER_WORDS" [.str "done", .str "again"], cvalB "End" "MOST" 100, freeB "abs", freeB "all", freeB "bool", freeB "enumerate", freeB "int", freeB "isinstance", freeB "len", freeB "list", freeB "max", freeB "min", freeB "range", freeB "repr", freeB "sorted", freeB "str", freeB "tuple", freeB "zip", gloB "End", gloB "_law_aside", gloB "_law_bag", gloB "_law_clean", gloB "_law_drawn", gloB "_law_due", gloB "_law_end", gloB "_law_is_in_order", gloB "_law_is_number", gloB "_law_is_place", gloB "_law_puts", gloB "_law_spoilt", gloB "_law_spot", gloB "_law_take", gloB "_law_way", gloB "checked_rows", gloB "is_bit", gloB "is_integer", gloB "is_next", gloB "is_place", gloB "is_row", gloB "is_row_of", gloB "is_standing", gloB "sorted_places", gloB "words_from", mkrB "End", noatB "End" "hearer_rows", noatB "End" "sender_rows", noatB "End" "table", propB "End" "hearer", propB "End" "sender", gloB "law"]
abbrev R : PySem.W.OpenRow := PySem.W.OpenLaw.row PySem.Challenge.rw_strongbit_k24_any_value_as_a_standing
abbrev hk : PySem.W.Hook := hookX [mainGlobals, cStatics] 5 fas fns
def ob (s : PySem.W.SharedT) : He.AlD := obsXG [mainGlobals, cStatics] 5 fas fns (HandSHeadRun.getT s)
theorem ob_eq (s : PySem.W.SharedT) : ob s = hk.obs s.abs := obsXG_eq (HandSHeadRun.getT_eq s)
def loose : List Str := [("_wall" : Str), ("is_integer" : Str), ("is_bit" : Str), ("BadEnd" : Str), ("MOST_WRONG" : Str), ("SILENT" : Str), ("SENDER_PLACES" : Str), ("HEARER_WORDS_standings" : Str), ("is_row" : Str), ("sorted_places" : Str), ("is_place" : Str), ("is_standing" : Str), ("machine_text" : Str), ("HEARER" : Str), ("SENDER" : Str), ("HEARER_WORDS_ends" : Str), ("SENDER_WORDS" : Str), ("is_next" : Str), ("is_row_of" : Str), ("checked_rows" : Str), ("words_from" : Str), ("End" : Str), ("_law_bag" : Str), ("_law_take" : Str), ("_law_puts" : Str), ("_law_clean" : Str), ("_law_way" : Str), ("_law_aside" : Str), ("_law_end" : Str), ("_law_spot" : Str), ("_law_is_number" : Str), ("_law_is_place" : Str), ("_law_is_in_order" : Str), ("_law_due" : Str), ("_law_drawn" : Str), ("_law_spoilt" : Str)]
theorem run (w : World) : HandSHeadRun.RunEq R (PySem.W.view R.prog [42]) hk ob 20000 loose w := by
  intro os
  kernel_rfl
end K24

set_option Elab.async false
set_option linter.all false
set_option maxRecDepth 100000
set_option maxHeartbeats 4000000
namespace K24
open PySem PySem.Spec PyProof.Rows L2 DL
open ClX (CRead CVal)
local macro_rules | `(tactic| walk_at "d1") => `(tactic| first | ((with_reducible apply i_var); exact rfl) | ((with_reducible apply i_gtup); exact rfl) | ((with_reducible apply i_augI); exact rfl) | ((with_reducible apply i_ixT); exact rfl) | ((with_reducible apply i_ixL); exact rfl) | with_reducible refine i_seq ?_ | with_reducible refine i_asg ?_ | with_reducible refine i_gname ?_ | with_reducible refine i_c ?_ | with_reducible refine i_op ?_ | with_reducible refine i_cb ?_ | with_reducible refine i_cons ?_ | with_reducible refine i_nil ?_ | with_reducible refine i_expr ?_ | with_reducible refine i_ret ?_ | with_reducible refine i_retN ?_ | with_reducible refine i_next ?_ | with_reducible refine i_for ?_ | with_reducible refine i_par ?_ | with_reducible refine i_test ?_ | with_reducible refine i_tup ?_ | with_reducible refine i_lst ?_ | ((with_reducible refine i_sz ?_ ?_); (focus exact Nat.le_of_ble_eq_true rfl)) | with_reducible refine i_lstO ?_ | with_reducible refine i_break ?_ | with_reducible refine i_cont ?_ | with_reducible refine i_gnil ?_ | with_reducible refine i_gcons ?_ | with_reducible refine i_tru ?_ | with_reducible refine i_and ?_ | with_reducible refine i_or ?_ | with_reducible refine i_not ?_ | with_reducible refine i_andV ?_ | with_reducible refine i_orV ?_ | with_reducible refine i_notV ?_ | with_reducible refine i_neg ?_ | with_reducible refine i_chain ?_ | with_reducible refine i_call ?_ | with_reducible refine i_callK ?_ | with_reducible refine i_append ?_ | with_reducible refine i_gsub ?_ | with_reducible refine i_sl ?_ | with_reducible refine i_slT ?_ | with_reducible refine i_slL ?_ | with_reducible refine i_oN ?_ | with_reducible refine i_oS ?_ | with_reducible refine i_lc ?_ | with_reducible refine i_lcO ?_ | with_reducible refine i_yes ?_ | with_reducible refine i_listRg1 ?_ | with_reducible refine i_rg1 ?_ | with_reducible refine i_rg2 ?_ | with_reducible refine i_seqI ?_ | with_reducible refine i_seqT ?_ | with_reducible refine i_seqL ?_ | with_reducible refine i_lt ?_ | with_reducible refine i_le ?_ | with_reducible refine i_gt ?_ | with_reducible refine i_ge ?_ | with_reducible refine i_sub ?_ | with_reducible refine i_addI ?_ | with_reducible refine i_int ?_ | with_reducible refine i_intb ?_ | with_reducible refine i_abs ?_ | with_reducible refine i_min2 ?_ | with_reducible refine i_max2 ?_ | with_reducible refine i_isN ?_ | with_reducible refine i_notN ?_ | with_reducible refine i_lenL ?_ | with_reducible refine i_lenT ?_ | ((with_reducible apply i_ixO); (focus (first | assumption | exact setO_same | (rw [setO_ne (by assumption)]; first | assumption | exact setO_same))); exact rfl) | ((with_reducible apply i_lenO); (focus (first | assumption | exact setO_same | (rw [setO_ne (by assumption)]; first | assumption | exact setO_same)))) | ((with_reducible apply i_appK); (focus (first | assumption | exact setO_same | (rw [setO_ne (by assumption)]; first | assumption | exact setO_same)))) | ((with_reducible apply i_subK); (focus (first | assumption | exact setO_same | (rw [setO_ne (by assumption)]; first | assumption | exact setO_same))); exact rfl) | ((with_reducible apply i_slO); (focus (first | assumption | exact setO_same | (rw [setO_ne (by assumption)]; first | assumption | exact setO_same)))) | ((with_reducible apply i_seqO); (focus (first | assumption | exact setO_same | (rw [setO_ne (by assumption)]; first | assumption | exact setO_same)))) | ((with_reducible apply i_appK2); (focus (first | assumption | exact setO_same | (rw [setO_ne (by assumption)]; first | assumption | exact setO_same)))) | with_reducible refine i_ice ?_ | with_reducible refine i_iceL ?_ | ((with_reducible apply i_iceK); (focus (first | assumption | exact setO_same | (rw [setO_ne (by assumption)]; first | assumption | exact setO_same)))) | with_reducible refine i_fld ?_ | ((with_reducible apply i_fldK); (focus (first | assumption | exact setO_same | (rw [setO_ne (by assumption)]; first | assumption | exact setO_same))); exact rfl) | with_reducible refine i_sfld ?_ | with_reducible refine i_make ?_ | with_reducible refine i_callK0 ?_ | with_reducible refine i_enum2 ?_ | with_reducible refine i_enumL ?_ | with_reducible refine i_enumT ?_ | with_reducible refine i_par3 ?_ | with_reducible refine i_dsp2 ?_ | ((with_reducible apply i_isi (b := true)); exact rfl; exact rfl; exact rfl) | ((with_reducible apply i_isi (b := false)); exact rfl; exact rfl; exact rfl) | with_reducible refine i_eqI ?_ | with_reducible refine i_neI ?_ | with_reducible refine i_truB ?_ | ((with_reducible apply i_fldI); exact rfl) | with_reducible refine i_iceI ?_ | with_reducible refine i_join ?_ | with_reducible refine i_dict0 ?_ | with_reducible refine i_isiI ?_ | with_reducible refine i_ownIn ?_ | with_reducible refine i_ownEq ?_ | with_reducible refine i_ownLen ?_ | with_reducible refine i_ownStr ?_ | with_reducible refine i_strS ?_ | with_reducible refine i_fmt ?_ | with_reducible refine i_pop ?_ | with_reducible refine i_listRg2 ?_ | with_reducible refine i_listRg2O ?_ | ((with_reducible apply i_popK); (focus (first | assumption | exact setO_same | (rw [setO_ne (by assumption)]; first | assumption | exact setO_same)))) | with_reducible refine i_raise ?_ | with_reducible refine i_tryAs ?_ | with_reducible refine i_xf ?_ | ((with_reducible apply i_xfK); exact rfl) | with_reducible refine i_js ?_ | with_reducible refine i_js0 ?_ | with_reducible refine i_makeK0 ?_ | with_reducible refine i_own ?_ | with_reducible refine i_ownT ?_ | with_reducible refine i_lenZ ?_ | with_reducible refine i_sortZ ?_ | with_reducible refine i_setL ?_ | with_reducible refine i_sc ?_ | with_reducible refine i_key ?_ | with_reducible refine i_revL ?_ | with_reducible refine i_revT ?_ | with_reducible refine i_zip ?_ | with_reducible refine i_ltAI ?_ | with_reducible refine i_ltAS ?_ | with_reducible refine i_inRg1 ?_ | with_reducible refine i_inRg2 ?_ | with_reducible refine i_listRg1O ?_ | with_reducible refine i_tryM ?_ | with_reducible refine i_xi ?_ | with_reducible refine i_split ?_ | with_reducible refine i_m0 ?_ | with_reducible refine i_m0K ?_ | with_reducible refine i_starA ?_ | with_reducible refine i_cm ?_ | with_reducible refine i_cmK ?_ | ((with_reducible apply i_makeL); exact rfl) | with_reducible refine i_int2I ?_ | with_reducible refine i_int2B ?_ | with_reducible refine i_clear ?_ | ((with_reducible apply i_clearK); (focus (first | assumption | exact setO_same | (rw [setO_ne (by assumption)]; first | assumption | exact setO_same)))) | with_reducible refine i_meth ?_ | with_reducible refine i_dput ?_ | with_reducible refine i_dict0N ?_ | with_reducible refine i_dc ?_ | with_reducible refine i_dct ?_ | with_reducible refine i_ckw ?_ | with_reducible refine i_iceA ?_ | with_reducible refine i_get2 ?_ | with_reducible refine i_prop ?_ | with_reducible refine i_propI ?_ | ((with_reducible apply i_methI); exact rfl) | ((with_reducible apply i_methO); (focus (first | assumption | exact setO_same | (rw [setO_ne (by assumption)]; first | assumption | exact setO_same))); exact rfl))
local macro_rules | `(tactic| walk_at "dl") => `(tactic| repeat (walk_at "d1"))
local macro_rules | `(tactic| walk_at "dw") => `(tactic| repeat (first | with_reducible refine i_if ?_ | with_reducible refine i_ifE ?_ | walk_at "d1"))

structure Txt (K : Frag) (mg : Str → Option Value) : Prop where
  c_End : Cls K (He.ga K "End")
  g_HEARER : ∃ u, mg "HEARER" = some u ∧ RelV (.str "hearer") u
  d_HEARER : ∀ F, RV K F (.str "hearer") (.str "hearer")
  g_HEARER_WORDS_ends : ∃ u, mg "HEARER_WORDS_ends" = some u ∧ RelV (.ref (He.ga K "HEARER_WORDS_ends")) u
  d_HEARER_WORDS_ends : ∀ F, RV K F (.tup [.str "taken", .str "lost"]) (.ref (He.ga K "HEARER_WORDS_ends"))
  g_HEARER_WORDS_standings : ∃ u, mg "HEARER_WORDS_standings" = some u ∧ RelV (.ref (He.ga K "HEARER_WORDS_standings")) u
  d_HEARER_WORDS_standings : ∀ F, RV K F (.tup [.str "lost", .str "taken"]) (.ref (He.ga K "HEARER_WORDS_standings"))
  g_MOST_WRONG : ∃ u, mg "MOST_WRONG" = some u ∧ RelV (.int 4) u
  d_MOST_WRONG : ∀ F, RV K F (.int 4) (.int 4)
  g_SENDER : ∃ u, mg "SENDER" = some u ∧ RelV (.str "sender") u
  d_SENDER : ∀ F, RV K F (.str "sender") (.str "sender")
  g_SENDER_PLACES : ∃ u, mg "SENDER_PLACES" = some u ∧ RelV (.ref (He.ga K "SENDER_PLACES")) u
  d_SENDER_PLACES : ∀ F, RV K F (.tup [.str "again", .str "done", .str "silent"]) (.ref (He.ga K "SENDER_PLACES"))
  g_SENDER_WORDS : ∃ u, mg "SENDER_WORDS" = some u ∧ RelV (.ref (He.ga K "SENDER_WORDS")) u
  d_SENDER_WORDS : ∀ F, RV K F (.tup [.str "done", .str "again"]) (.ref (He.ga K "SENDER_WORDS"))
  cr_End : ClX.CRead K (He.ga K "End") (.type "type")
  cv_End_MOST : ∃ u, ClX.CVal K (He.ga K "End") (.type "type") "MOST" (.int 100) u
  b_abs : mg "abs" = none
  b_all : mg "all" = none
  b_bool : mg "bool" = none
  b_enumerate : mg "enumerate" = none
  b_int : mg "int" = none
  b_isinstance : mg "isinstance" = none
  b_len : mg "len" = none
  b_list : mg "list" = none
  b_max : mg "max" = none
  b_min : mg "min" = none
  b_range : mg "range" = none
  b_repr : mg "repr" = none
  b_sorted : mg "sorted" = none
  b_str : mg "str" = none
  b_tuple : mg "tuple" = none
  b_zip : mg "zip" = none
  g_End : mg "End" = some (.ref (He.ga K "End"))
  g_law_aside : mg "_law_aside" = some (.ref (He.ga K "_law_aside"))
  g_law_bag : mg "_law_bag" = some (.ref (He.ga K "_law_bag"))
  g_law_clean : mg "_law_clean" = some (.ref (He.ga K "_law_clean"))
  g_law_drawn : mg "_law_drawn" = some (.ref (He.ga K "_law_drawn"))
  g_law_due : mg "_law_due" = some (.ref (He.ga K "_law_due"))
  g_law_end : mg "_law_end" = some (.ref (He.ga K "_law_end"))
  g_law_is_in_order : mg "_law_is_in_order" = some (.ref (He.ga K "_law_is_in_order"))
  g_law_is_number : mg "_law_is_number" = some (.ref (He.ga K "_law_is_number"))
  g_law_is_place : mg "_law_is_place" = some (.ref (He.ga K "_law_is_place"))
  g_law_puts : mg "_law_puts" = some (.ref (He.ga K "_law_puts"))
  g_law_spoilt : mg "_law_spoilt" = some (.ref (He.ga K "_law_spoilt"))
  g_law_spot : mg "_law_spot" = some (.ref (He.ga K "_law_spot"))
  g_law_take : mg "_law_take" = some (.ref (He.ga K "_law_take"))
  g_law_way : mg "_law_way" = some (.ref (He.ga K "_law_way"))
  g_checked_rows : mg "checked_rows" = some (.ref (He.ga K "checked_rows"))
  g_is_bit : mg "is_bit" = some (.ref (He.ga K "is_bit"))
  g_is_integer : mg "is_integer" = some (.ref (He.ga K "is_integer"))
  g_is_next : mg "is_next" = some (.ref (He.ga K "is_next"))
  g_is_place : mg "is_place" = some (.ref (He.ga K "is_place"))
  g_is_row : mg "is_row" = some (.ref (He.ga K "is_row"))
  g_is_row_of : mg "is_row_of" = some (.ref (He.ga K "is_row_of"))
  g_is_standing : mg "is_standing" = some (.ref (He.ga K "is_standing"))
  g_sorted_places : mg "sorted_places" = some (.ref (He.ga K "sorted_places"))
  g_words_from : mg "words_from" = some (.ref (He.ga K "words_from"))
  mk_End : Mk K (He.ga K "End") (He.ma K (He.ga K "End") "__init__")
  n_End_hearer_rows : NoAttr K (He.ga K "End") "hearer_rows"
  n_End_sender_rows : NoAttr K (He.ga K "End") "sender_rows"
  n_End_table : NoAttr K (He.ga K "End") "table"
  p_End_hearer : PropOf K (He.ga K "End") "hearer" (He.ma K (He.ga K "End") "hearer") (ga2 K "End" "hearer")
  p_End_sender : PropOf K (He.ga K "End") "sender" (He.ma K (He.ga K "End") "sender") (ga2 K "End" "sender")
section
variable {P : Program} {w : World} {K : Frag} {mg : Str → Option Value} {base : Heap}
/-! ### kinds -/
def intB : D → Bool
  | .int _ => true
  | _ => false
def f_is_integer : DF := fun ds O q _ => ∃ d, ds = [d] ∧ pd d = true ∧ q (.bl (intB d)) O
abbrev N_is_integer : List Str := ["thing"]
abbrev P_is_integer : List Str := ["thing"]
theorem sc_is_integer : FnScope N_is_integer P_is_integer (defScope s_is_integer) := ⟨rfl, rfl, rfl, by decide +kernel, rfl, by decide +kernel, by decide +kernel⟩
theorem bd_is_integer : Bd0 "is_integer" "is_integer" s_is_integer P_is_integer := fun _ _ _ _ _ _ us hl => match us, hl with | [_], _ => rfl
abbrev Fn_is_integer (P : Program) (w : World) (K : Frag) (mg : Str → Option Value) (base : Heap) : Prop := Fn P w K mg base "is_integer" "is_integer" s_is_integer [] [] P_is_integer 1 1 f_is_integer (He.ga K "is_integer")
theorem ok_is_integer {P : Program} {w : World} {K : Frag} {mg : Str → Option Value} {base : Heap} (F : HasD K "is_integer" "is_integer" s_is_integer [] [] (He.ga K "is_integer")) (T : Txt K mg) : Fn_is_integer P w K mg base := by
  have sc := sc_is_integer
  refine fn_E (k := 0) F sc rfl fun cdv A outer s H E O0 H0 F0 ds O q xx hl hf S => ⟨_,
      (ds_one (ds_ret (de_and (so_isi S rfl T.b_isinstance (da_cons (de_var (pv 0)) (da_cons (so_ty (n := "int") rfl T.b_int) da_nil))) (de_one (de_not (so_isi S rfl T.b_isinstance (da_cons (de_var (pv 0)) (da_cons (so_ty (n := "bool") rfl T.b_bool) da_nil))))))))
      , ?_⟩
  obtain ⟨d, rfl, h0, hq⟩ := hf
  cases d <;> simp [pd] at h0 <;> (walk_at "dl"; exact rt_same hq)
def f_is_bit : DF := fun ds O q _ => ∃ d, ds = [d] ∧ good d = true ∧ q (.bl (bitB d)) O
abbrev N_is_bit : List Str := ["thing"]
abbrev P_is_bit : List Str := ["thing"]
theorem sc_is_bit : FnScope N_is_bit P_is_bit (defScope s_is_bit) := ⟨rfl, rfl, rfl, by decide +kernel, rfl, by decide +kernel, by decide +kernel⟩
theorem bd_is_bit : Bd0 "is_bit" "is_bit" s_is_bit P_is_bit := fun _ _ _ _ _ _ us hl => match us, hl with | [_], _ => rfl
abbrev Fn_is_bit (P : Program) (w : World) (K : Frag) (mg : Str → Option Value) (base : Heap) : Prop := Fn P w K mg base "is_bit" "is_bit" s_is_bit [] [] P_is_bit 1 2 f_is_bit (He.ga K "is_bit")
structure C_is_bit (P : Program) (w : World) (K : Frag) (mg : Str → Option Value) (base : Heap) : Prop where
  is_integer : Fn_is_integer P w K mg base
theorem ok_is_bit {P : Program} {w : World} {K : Frag} {mg : Str → Option Value} {base : Heap} (F : HasD K "is_bit" "is_bit" s_is_bit [] [] (He.ga K "is_bit")) (T : Txt K mg) (C : C_is_bit P w K mg base) : Fn_is_bit P w K mg base := by
  have sc := sc_is_bit
  refine fn_E (k := 1) F sc rfl fun cdv A outer s H E O0 H0 F0 ds O q xx hl hf S => ⟨_,
      (ds_one (ds_ret (de_and (so_callF S C.is_integer (by decide) T.g_is_integer bd_is_integer rfl (da_cons (de_var (pv 0)) da_nil)) (de_one (so_in S (de_var (pv 0)) (de_tup (da_cons de_int (da_cons de_int da_nil))))))))
      , ?_⟩
  obtain ⟨d, rfl, h0, hq⟩ := hf
  walk_at "dl"
  refine ⟨rfl, d, rfl, good_pd h0, ?_⟩
  cases d <;> dsimp only [intB] <;> walk_at "dl" <;> try exact rt_same hq
  refine ⟨_, _, asP_pd rfl, asPs_T (by rfl), good_sh (good_int _), by decide, ?_⟩
  refine rt_same (q := q) ?_
  rename_i i
  have e : (pys [D.int 0, D.int 1]).any (fun z => PyData.eqv z (py (.int i))) = bitB (.int i) := by
    simp only [pys, py, List.any_cons, List.any_nil, PyData.eqv, bitB, Bool.or_false]
    rw [Bool.beq_comm, Bool.beq_comm (a := (1 : Int))]
  show q (.bl _) O
  rw [if_neg (by decide), e]
  exact hq
/-! ### places -/
def f_is_next : DF := fun ds O q _ => ∃ d n ws, ds = [d, .int n, .tup (ws.map D.str)] ∧ good d = true ∧ ws.all strGood = true ∧ q (.bl (plB n ws d)) O
abbrev N_is_next : List Str := ["thing", "many", "words"]
abbrev P_is_next : List Str := ["thing", "many", "words"]
theorem sc_is_next : FnScope N_is_next P_is_next (defScope s_is_next) := ⟨rfl, rfl, rfl, by decide +kernel, rfl, by decide +kernel, by decide +kernel⟩
theorem bd_is_next : Bd0 "is_next" "is_next" s_is_next P_is_next := fun _ _ _ _ _ _ us hl => match us, hl with | [_, _, _], _ => rfl
abbrev Fn_is_next (P : Program) (w : World) (K : Frag) (mg : Str → Option Value) (base : Heap) : Prop := Fn P w K mg base "is_next" "is_next" s_is_next [] [] P_is_next 3 2 f_is_next (He.ga K "is_next")
structure C_is_next (P : Program) (w : World) (K : Frag) (mg : Str → Option Value) (base : Heap) : Prop where
  is_integer : Fn_is_integer P w K mg base
theorem ok_is_next {P : Program} {w : World} {K : Frag} {mg : Str → Option Value} {base : Heap} (F : HasD K "is_next" "is_next" s_is_next [] [] (He.ga K "is_next")) (T : Txt K mg) (C : C_is_next P w K mg base) : Fn_is_next P w K mg base := by
  have sc := sc_is_next
  refine fn_E (k := 1) F sc rfl fun cdv A outer s H E O0 H0 F0 ds O q xx hl hf S => ⟨_,
      (ds_cons (ds_if (st_tru S (so_callF S C.is_integer (by decide) T.g_is_integer bd_is_integer rfl (da_cons (de_var (pv 0)) da_nil)))
       (ds_one (ds_ret (so_chain op_le sim_le op_lt sim_lt de_int (de_var (pv 0)) (de_var (pv 1)))))
       ds_nil)
      (ds_one (ds_ret (de_and (so_isi S rfl T.b_isinstance (da_cons (de_var (pv 0)) (da_cons (so_ty (n := "str") rfl T.b_str) da_nil))) (de_one (so_in S (de_var (pv 0)) (de_var (pv 2))))))))
      , ?_⟩
  obtain ⟨d, n, ws, rfl, h0, h1, hq⟩ := hf
  walk_at "dw"
  refine ⟨rfl, d, rfl, good_pd h0, ?_⟩
  refine ⟨_, rfl, ?_⟩
  cases d <;> dsimp only [intB]
  case ref => simp [good, pd] at h0
  case ty => simp [good, pd] at h0
  case ins => simp [good, pd] at h0
  case int i =>
    refine iteT ?_
    walk_at "dl"
    have hq' : q (.bl (decide (0 ≤ i) && decide (i < n))) O := hq
    by_cases hi : 0 ≤ i
    · rw [decide_eq_true hi] at hq' ⊢
      rw [Bool.true_and] at hq'
      walk_at "dl"
      exact rt_same hq'
    · rw [decide_eq_false hi] at hq' ⊢
      rw [Bool.false_and] at hq'
      exact rt_same hq'
  case str x =>
    refine iteF ?_
    walk_at "dl"
    refine i_inStr (good_of_str h0) h1 (rt_same ?_)
    exact hq
  all_goals
    refine iteF ?_
    walk_at "dl"
    exact rt_same hq
/-! ### rows -/
/-- a value that may be asked about: comparable data, or of a kind that is no tuple -/
def AnyD (O : Ow) (d : D) : Prop := good d = true ∨ ∃ a, tyN O d = some a ∧ a ≠ "tuple"
theorem tyN_tuple {O : Ow} {d : D} {a : String} (e : tyN O d = some a) (h : a ≠ "tuple") : kitT a "tuple" = false ∧ ∀ n ws, rowB n ws d = false := by
  refine ⟨?_, fun n ws => ?_⟩
  · have := tyN_mem e
    simp only [tyKnown, List.mem_cons, List.mem_nil_iff, or_false] at this
    rcases this with rfl | rfl | rfl | rfl | rfl | rfl | rfl <;> first | rfl | exact absurd rfl h
  · cases d <;> simp only [tyN] at e <;> try rfl
    cases e; exact absurd rfl h
def f_is_row_of : DF := fun ds O q _ => ∃ d n ws, ds = [d, .int n, .tup (ws.map D.str)] ∧ AnyD O d ∧ ws.all strGood = true ∧ q (.bl (rowB n ws d)) O
abbrev N_is_row_of : List Str := ["thing", "many", "words", "put", "on_strong", "on_weak"]
abbrev P_is_row_of : List Str := ["thing", "many", "words"]
theorem sc_is_row_of : FnScope N_is_row_of P_is_row_of (defScope s_is_row_of) := ⟨rfl, rfl, rfl, by decide +kernel, rfl, by decide +kernel, by decide +kernel⟩
theorem bd_is_row_of : Bd0 "is_row_of" "is_row_of" s_is_row_of P_is_row_of := fun _ _ _ _ _ _ us hl => match us, hl with | [_, _, _], _ => rfl
abbrev Fn_is_row_of (P : Program) (w : World) (K : Frag) (mg : Str → Option Value) (base : Heap) : Prop := Fn P w K mg base "is_row_of" "is_row_of" s_is_row_of [] [] P_is_row_of 3 3 f_is_row_of (He.ga K "is_row_of")
structure C_is_row_of (P : Program) (w : World) (K : Frag) (mg : Str → Option Value) (base : Heap) : Prop where
  is_bit : Fn_is_bit P w K mg base
  is_next : Fn_is_next P w K mg base
theorem ok_is_row_of {P : Program} {w : World} {K : Frag} {mg : Str → Option Value} {base : Heap} (F : HasD K "is_row_of" "is_row_of" s_is_row_of [] [] (He.ga K "is_row_of")) (T : Txt K mg) (C : C_is_row_of P w K mg base) : Fn_is_row_of P w K mg base := by
  have sc := sc_is_row_of
  refine fn_E (k := 2) F sc rfl fun cdv A outer s H E O0 H0 F0 ds O q xx hl hf S => ⟨_,
      (ds_cons (ds_if (PW.pt (dw_or (dt_not (st_tru S (so_isi S rfl T.b_isinstance (da_cons (de_var (pv 0)) (da_cons (so_ty (n := "tuple") rfl T.b_tuple) da_nil))))) (dw_or1 (st_ne S (so_len S rfl T.b_len (da_cons (de_var (pv 0)) da_nil)) de_int))))
       (ds_one (ds_ret de_bl))
       ds_nil)
      (ds_cons (ds_asg (ps_asg (de_var (pv 0)) (dg_tup rfl rfl (dgs_cons (dg_name (pg_name (i := 3) sc.nd rfl (by first | exact Or.inl rfl | exact Or.inr rfl))) (dgs_cons (dg_name (pg_name (i := 4) sc.nd rfl (by first | exact Or.inl rfl | exact Or.inr rfl))) (dgs_cons (dg_name (pg_name (i := 5) sc.nd rfl (by first | exact Or.inl rfl | exact Or.inr rfl))) dgs_nil))))))
      (ds_one (ds_ret (de_and (so_callF S C.is_bit (by decide) T.g_is_bit bd_is_bit rfl (da_cons (de_var (pv 3)) da_nil)) (de_and (so_callF S C.is_next (by decide) T.g_is_next bd_is_next rfl (da_cons (de_var (pv 4)) (da_cons (de_var (pv 1)) (da_cons (de_var (pv 2)) da_nil)))) (de_one (so_callF S C.is_next (by decide) T.g_is_next bd_is_next rfl (da_cons (de_var (pv 5)) (da_cons (de_var (pv 1)) (da_cons (de_var (pv 2)) da_nil)))))))))))
      , ?_⟩
  obtain ⟨d, n, ws, rfl, h0, h1, hq⟩ := hf
  rcases h0 with h0 | ⟨a, e, ha⟩
  case inr =>
    obtain ⟨h2, h3⟩ := tyN_tuple e ha
    walk_at "dw"
    refine i_isi e rfl h2 ?_
    walk_at "dw"
    refine iteT ?_
    walk_at "dl"
    rw [h3] at hq
    exact rt_same hq
  walk_at "dw"
  cases d
  case ref => simp [good, pd] at h0
  case ty => simp [good, pd] at h0
  case ins => simp [good, pd] at h0
  case tup ts =>
    walk_at "dw"
    refine iteF ?_
    walk_at "dw"
    by_cases h3 : ((ts.length : Nat) : Int) = 3
    · rw [decide_eq_true h3]
      refine iteF ?_
      match ts, h3, h0, hq with
      | [a, b, c], _, h0, hq =>
        have ga := good_tup h0 a (by simp)
        have gb := good_tup h0 b (by simp)
        have gc := good_tup h0 c (by simp)
        have hq' : q (.bl (bitB a && plB n ws b && plB n ws c)) O := hq
        walk_at "dl"
        refine ⟨rfl, a, rfl, ga, ?_⟩
        cases ha : bitB a with
        | false =>
          rw [ha] at hq'
          exact rt_same hq'
        | true =>
          rw [ha, Bool.true_and] at hq'
          walk_at "dl"
          refine ⟨rfl, b, n, ws, rfl, gb, h1, ?_⟩
          cases hb : plB n ws b with
          | false =>
            rw [hb] at hq'
            exact rt_same hq'
          | true =>
            rw [hb, Bool.true_and] at hq'
            walk_at "dl"
            exact ⟨rfl, c, n, ws, rfl, gc, h1, rt_same hq'⟩
    · rw [decide_eq_false h3]
      refine iteT ?_
      walk_at "dl"
      have e : rowB n ws (.tup ts) = false := by
        unfold rowB
        split
        · rename_i e; cases e; exact absurd rfl h3
        · rfl
      rw [e] at hq
      exact rt_same hq
  all_goals
    walk_at "dl"
    refine iteT ?_
    walk_at "dl"
    exact rt_same hq
/-! ### checked rows -/
/-- a list or a tuple: data, or a list of one's own -/
def SeqD (O : Ow) (d : D) (rs : List D) : Prop := d = .lst rs ∨ d = .tup rs ∨ ∃ p, d = .ref p ∧ O p = some (.lst rs)
theorem SeqD.set {O : Ow} {d : D} {rs : List D} {x : Addr} {o : OD} (h : SeqD O d rs) (hx : ∀ ds, O x ≠ some (.lst ds)) : SeqD (setO O x o) d rs := by
  rcases h with h | h | ⟨p, h, e⟩
  · exact .inl h
  · exact .inr (.inl h)
  · refine .inr (.inr ⟨p, h, ?_⟩)
    have hne : p ≠ x := fun z => hx rs (by rw [← z]; exact e)
    rw [setO_ne hne]
    exact e

def f_checked_rows : DF := fun ds O q _ => ∃ (pt : Str) (th : D) (rs : List D) (lo hi : Int) (ws : List Str), ds = [.str pt, th, .int lo, .int hi, .tup (ws.map D.str)] ∧ SeqD O th rs ∧ lo ≤ rs.length ∧ (rs.length : Int) ≤ hi ∧ hi ≤ 100 ∧
  (∀ r ∈ rs, good r = true) ∧ ws.all strGood = true ∧ Mach ws rs ∧ q (.tup rs) O
abbrev N_checked_rows : List Str := ["part", "thing", "least", "most", "words", "index", "row"]
abbrev P_checked_rows : List Str := ["part", "thing", "least", "most", "words"]
theorem sc_checked_rows : FnScope N_checked_rows P_checked_rows (defScope s_checked_rows) := ⟨rfl, rfl, rfl, by decide +kernel, rfl, by decide +kernel, by decide +kernel⟩
theorem bd_checked_rows : Bd0 "checked_rows" "checked_rows" s_checked_rows P_checked_rows := fun _ _ _ _ _ _ us hl => match us, hl with | [_, _, _, _, _], _ => rfl
abbrev Fn_checked_rows (P : Program) (w : World) (K : Frag) (mg : Str → Option Value) (base : Heap) : Prop := Fn P w K mg base "checked_rows" "checked_rows" s_checked_rows [] [] P_checked_rows 5 4 f_checked_rows (He.ga K "checked_rows")
structure C_checked_rows (P : Program) (w : World) (K : Frag) (mg : Str → Option Value) (base : Heap) : Prop where
  is_row_of : Fn_is_row_of P w K mg base
theorem ok_checked_rows {P : Program} {w : World} {K : Frag} {mg : Str → Option Value} {base : Heap} (F : HasD K "checked_rows" "checked_rows" s_checked_rows [] [] (He.ga K "checked_rows")) (T : Txt K mg) (C : C_checked_rows P w K mg base) : Fn_checked_rows P w K mg base := by
  have sc := sc_checked_rows
  refine fn_E (k := 3) F sc rfl fun cdv A outer s H E O0 H0 F0 ds O q xx hl hf S => ⟨_,
      (ds_cons (ds_if (PW.pt (dw_or (dt_not (st_tru S (so_isiT S rfl T.b_isinstance (da_cons (de_var (pv 1)) (da_cons (de_tup (da_cons (so_ty (n := "list") rfl T.b_list) (da_cons (so_ty (n := "tuple") rfl T.b_tuple) da_nil))) da_nil))))) (dw_or1 (dt_not (st_chain op_le sim_le op_le sim_le (de_var (pv 2)) (so_len S rfl T.b_len (da_cons (de_var (pv 1)) da_nil)) (de_var (pv 3)))))))
       (ds_one ds_never)
       ds_nil)
      (ds_cons (ds_for (ps_for S.po rfl (di_enum S rfl T.b_enumerate (de_var (pv 1))) (dg_tup rfl rfl (dgs_cons (dg_name (pg_name (i := 5) sc.nd rfl (by first | exact Or.inl rfl | exact Or.inr rfl))) (dgs_cons (dg_name (pg_name (i := 6) sc.nd rfl (by first | exact Or.inl rfl | exact Or.inr rfl))) dgs_nil)))
       (ds_one (ds_if (dt_not (st_tru S (so_callF S C.is_row_of (by decide) T.g_is_row_of bd_is_row_of rfl (da_cons (de_var (pv 6)) (da_cons (so_len S rfl T.b_len (da_cons (de_var (pv 1)) da_nil)) (da_cons (de_var (pv 4)) da_nil))))))
        (ds_one ds_never)
        ds_nil))))
      (ds_one (ds_ret (so_tuple S rfl T.b_tuple (da_cons (de_var (pv 1)) da_nil))))))
      , ?_⟩
  obtain ⟨pt, th, rs, lo, hi, ws, rfl, hth, h0, h1, h2, hg, hw, hm, hq⟩ := hf
  rcases hth with rfl | rfl | ⟨p, rfl, hp⟩
  · walk_at "dw"
    refine i_isiT (b := true) rfl rfl rfl rfl ?_
    walk_at "dw"
    refine iteF ?_
    walk_at "dw"
    rw [decide_eq_true (show lo ≤ ((rs.length : Nat) : Int) from h0)]
    walk_at "dw"
    rw [decide_eq_true (show ((rs.length : Nat) : Int) ≤ hi from h1)]
    refine iteF ?_
    walk_at "dl"
    (try refine ⟨rs, rfl, ?_⟩)
    refine forGo_inv (fun i env O' => ∃ x5 x6, env = [some (.str pt), some (.lst rs), some (.int lo), some (.int hi), some (.tup (ws.map D.str)), x5, x6] ∧ O' = O) ⟨_, _, rfl, rfl⟩ (fun _ _ _ _ _ => trivial) ?_ ?_
    · rintro N i x env O' hx ⟨x5, x6, rfl, rfl⟩ hN
      rw [enumD_get] at hx
      cases hd : rs[i]? with
      | none => rw [hd] at hx; cases hx
      | some r =>
        rw [hd] at hx
        cases hx
        have hr := List.mem_of_getElem? hd
        walk_at "dw"
        refine ⟨rfl, r, _, ws, rfl, .inl (hg r hr), hw, ?_⟩
        rw [hm r hr]
        walk_at "dw"
        refine iteF ?_
        exact hN _ _ _ (.refl _) ⟨_, _, rfl, rfl⟩
    · rintro env O' ⟨x5, x6, rfl, rfl⟩
      walk_at "dl"
      exact ⟨rs, rfl, rt_same hq⟩
  · walk_at "dw"
    refine i_isiT (b := true) rfl rfl rfl rfl ?_
    walk_at "dw"
    refine iteF ?_
    walk_at "dw"
    rw [decide_eq_true (show lo ≤ ((rs.length : Nat) : Int) from h0)]
    walk_at "dw"
    rw [decide_eq_true (show ((rs.length : Nat) : Int) ≤ hi from h1)]
    refine iteF ?_
    walk_at "dl"
    refine forGo_inv (fun i env O' => ∃ x5 x6, env = [some (.str pt), some (.tup rs), some (.int lo), some (.int hi), some (.tup (ws.map D.str)), x5, x6] ∧ O' = O) ⟨_, _, rfl, rfl⟩ (fun _ _ _ _ _ => trivial) ?_ ?_
    · rintro N i x env O' hx ⟨x5, x6, rfl, rfl⟩ hN
      rw [enumD_get] at hx
      cases hd : rs[i]? with
      | none => rw [hd] at hx; cases hx
      | some r =>
        rw [hd] at hx
        cases hx
        have hr := List.mem_of_getElem? hd
        walk_at "dw"
        refine ⟨rfl, r, _, ws, rfl, .inl (hg r hr), hw, ?_⟩
        rw [hm r hr]
        walk_at "dw"
        refine iteF ?_
        exact hN _ _ _ (.refl _) ⟨_, _, rfl, rfl⟩
    · rintro env O' ⟨x5, x6, rfl, rfl⟩
      walk_at "dl"
      exact ⟨rs, rfl, rt_same hq⟩
  · walk_at "dw"
    refine i_isiT (a := "list") (b := true) (by simp [tyN, hp]) rfl rfl rfl ?_
    walk_at "dw"
    refine iteF ?_
    walk_at "dw"
    rw [decide_eq_true (show lo ≤ ((rs.length : Nat) : Int) from h0)]
    walk_at "dw"
    rw [decide_eq_true (show ((rs.length : Nat) : Int) ≤ hi from h1)]
    refine iteF ?_
    walk_at "dl"
    (try refine ⟨rs, asL_ref hp, ?_⟩)
    refine forGo_inv (fun i env O' => ∃ x5 x6, env = [some (.str pt), some (.ref p), some (.int lo), some (.int hi), some (.tup (ws.map D.str)), x5, x6] ∧ O' = O) ⟨_, _, rfl, rfl⟩ (fun _ _ _ _ ⟨_, _, _, e⟩ => e ▸ rfl) ?_ ?_
    · rintro N i x env O' hx ⟨x5, x6, rfl, rfl⟩ hN
      rw [enumD_get] at hx
      cases hd : rs[i]? with
      | none => rw [hd] at hx; cases hx
      | some r =>
        rw [hd] at hx
        cases hx
        have hr := List.mem_of_getElem? hd
        walk_at "dw"
        refine ⟨rfl, r, _, ws, rfl, .inl (hg r hr), hw, ?_⟩
        rw [hm r hr]
        walk_at "dw"
        refine iteF ?_
        exact hN _ _ _ (.refl _) ⟨_, _, rfl, rfl⟩
    · rintro env O' ⟨x5, x6, rfl, rfl⟩
      walk_at "dl"
      exact ⟨rs, asL_ref hp, rt_same hq⟩
/-! ### words -/
def f_words_from : DF := fun ds O q _ => ∃ (rs : List D) (first : Int) (ws : List Str) (bad : Str) (L : List Int), ds = [.tup rs, .int first] ∧ Mach ws rs ∧ rs.length ≤ 100 ∧ 0 ≤ first ∧ first < rs.length ∧ Closed rs first bad L ∧ ws.all strGood = true ∧
  ∀ fs : List Str, fs.all strGood = true → bad ∉ fs → q (.lst (fs.map D.str)) O
abbrev N_words_from : List Str := ["rows", "first", "found", "waiting", "at", "put", "places", "place"]
abbrev P_words_from : List Str := ["rows", "first"]
theorem sc_words_from : FnScope N_words_from P_words_from (defScope s_words_from) := ⟨rfl, rfl, rfl, by decide +kernel, rfl, by decide +kernel, by decide +kernel⟩
theorem bd_words_from : Bd0 "words_from" "words_from" s_words_from P_words_from := fun _ _ _ _ _ _ us hl => match us, hl with | [_, _], _ => rfl
abbrev Fn_words_from (P : Program) (w : World) (K : Frag) (mg : Str → Option Value) (base : Heap) : Prop := Fn P w K mg base "words_from" "words_from" s_words_from [] [] P_words_from 2 1 f_words_from (He.ga K "words_from")
theorem ok_words_from {P : Program} {w : World} {K : Frag} {mg : Str → Option Value} {base : Heap} (F : HasD K "words_from" "words_from" s_words_from [] [] (He.ga K "words_from")) (T : Txt K mg) : Fn_words_from P w K mg base := by
  have sc := sc_words_from
  refine fn_E (k := 0) F sc rfl fun cdv A outer s H E O0 H0 F0 ds O q xx hl hf S => ⟨_,
      (ds_cons (ds_par3 (ps_par3 (i := 2) (j := 3) (l := 4) rfl sc.nd rfl rfl rfl (by decide) (by decide) (by decide) rfl rfl rfl (da_cons (de_lstO da_nil) (da_cons (de_lstO (da_cons (de_var (pv 1)) da_nil)) (da_cons de_int da_nil))) (by rfl)))
      (ds_cons (ds_while (ps_while S.po (st_lt S (de_var (pv 4)) (so_len S rfl T.b_len (da_cons (de_var (pv 3)) da_nil)))
       (ds_cons (ds_asg (ps_asg (so_ix S (de_var (pv 0)) (so_ix S (de_var (pv 3)) (de_var (pv 4)) (fun _ _ => rfl)) (fun _ _ => rfl)) (dg_star S rfl (pg_name (i := 5) sc.nd rfl (by first | exact Or.inl rfl | exact Or.inr rfl)) (pg_name (i := 6) sc.nd rfl (by first | exact Or.inl rfl | exact Or.inr rfl)))))
       (ds_cons (ds_for (ps_for S.po rfl (di_seq S (de_var (pv 6))) (dg_name (pg_name (i := 7) sc.nd rfl (by first | exact Or.inl rfl | exact Or.inr rfl)))
        (ds_one (ds_if (st_tru S (so_isi S rfl T.b_isinstance (da_cons (de_var (pv 7)) (da_cons (so_ty (n := "str") rfl T.b_str) da_nil))))
         (ds_one (ds_expr (so_append S (de_var (pv 2)) (da_cons (de_var (pv 7)) da_nil))))
         (ds_one (ds_if (st_notin S (de_var (pv 7)) (de_var (pv 3)))
          (ds_one (ds_expr (so_append S (de_var (pv 3)) (da_cons (de_var (pv 7)) da_nil))))
          ds_nil))))))
       (ds_one (ss_augI (ps_aug (i := 4) sc.nd rfl (by first | exact Or.inl rfl | exact Or.inr rfl) de_int ip_add)))))))
      (ds_one (ds_ret (de_ice (de_var (pv 2)))))))
      , ?_⟩
  obtain ⟨rs, first, ws, bad, L, rfl, hm, h1, h2, h3, hc, hws, hq⟩ := hf
  walk_at "dl"
  intro pf hpf
  walk_at "dl"
  intro pw hpw
  walk_at "dl"
  have hpw0 : O pw = none := by
    have hne : pw ≠ pf := fun z => by rw [z, setO_same] at hpw; cases hpw
    rw [setO_ne hne] at hpw; exact hpw
  refine wh_inv (fun m env O' => ∃ (fs : List Str) (wt : List Int) (a : Nat) (x5 x6 x7 : Option D), env = [some (.tup rs), some (.int first), some (.ref pf), some (.ref pw), some (.int (a : Nat)), x5, x6, x7] ∧
    Two O O' pf pw (.lst (fs.map D.str)) (.lst (wt.map D.int)) ∧ wt.Nodup ∧ (∀ i ∈ wt, i ∈ L ∧ 0 ≤ i ∧ i < (rs.length : Int)) ∧ a ≤ wt.length ∧ bad ∉ fs ∧ fs.all strGood = true ∧ fs.length ≤ 2 * a ∧ m + a = rs.length) rs.length
    ⟨[], [first], 0, none, none, none, rfl, .mk' hpf hpw, by simp, by simp; exact ⟨hc.mem, h2, h3⟩, by simp, by simp, by simp, by simp, by simp⟩ ?_
  rintro m N env O' ⟨fs, wt, a, x5, x6, x7, rfl, tw, nd, hin, ha, hbad, hfs, hfl, hma⟩ hN
  have hlen := nodup_len rs.length nd fun i hi => (hin i hi).2
  have at1 := tw.at1
  have at2 := tw.at2
  walk_at "dl"
  refine if_d (fun hlt => ?_) (fun hge => ?_)
  · have ha' : a < wt.length := by simpa using hlt
    have hi := hin wt[a] (List.getElem_mem ha')
    generalize hiw : wt[a] = i at hi
    have e1 : atI (wt.map D.int) (a : Nat) = some (.int i) := atI_nat (by simp [ha', hiw])
    obtain ⟨r, hr, e2⟩ := atI_in (ds := rs) hi.2.1 hi.2.2
    have hnx := hc.next i hi.1 r hr
    have hwd := hc.word i hi.1 r hr
    obtain ⟨b, p1, p2, rfl, hb, hp1, hp2⟩ := rowB_cases (hm r (List.mem_of_getElem? hr))
    walk_at "dl"
    refine i_ixO at2 e1 ?_
    refine i_ixT e2 ?_
    refine i_star (by simp) ?_
    walk_at "dl"
    simp only [nextsB, noWord, Bool.and_eq_true] at hnx hwd
    refine forGo_inv (fun j env O' => ∃ (fs : List Str) (wt : List Int) (x7 : Option D), env = [some (.tup rs), some (.int first), some (.ref pf), some (.ref pw), some (.int (a : Nat)), some (.int b), some (.lst [p1, p2]), x7] ∧
      Two O O' pf pw (.lst (fs.map D.str)) (.lst (wt.map D.int)) ∧ wt.Nodup ∧ (∀ i ∈ wt, i ∈ L ∧ 0 ≤ i ∧ i < (rs.length : Int)) ∧ a < wt.length ∧ bad ∉ fs ∧ fs.all strGood = true ∧ fs.length ≤ 2 * a + j)
      ⟨fs, wt, _, rfl, tw, nd, hin, ha', hbad, hfs, hfl⟩ (fun _ _ _ _ _ => trivial) ?_ ?_
    · rintro N2 j x env O2 hx ⟨fs, wt, y7, rfl, tw, nd, hin, ha', hbad, hfs, hfl⟩ hN2
      have hpx : plB rs.length ws x = true ∧ (∀ i, x = .int i → i ∈ L) ∧ ∀ s, x = .str s → s ≠ bad := by
        match j, hx with
        | 0, hx =>
          cases hx
          refine ⟨hp1, fun i e => ?_, fun s e => ?_⟩
          · subst e; simpa using hnx.1
          · subst e; simpa using hwd.1
        | 1, hx =>
          cases hx
          refine ⟨hp2, fun i e => ?_, fun s e => ?_⟩
          · subst e; simpa using hnx.2
          · subst e; simpa using hwd.2
      have at1 := tw.at1
      have at2 := tw.at2
      have hlen := nodup_len rs.length nd fun i hi => (hin i hi).2
      have hj : j < 2 := (List.getElem?_eq_some_iff.mp hx).1
      rcases plB_cases hpx.1 with ⟨i, rfl, hi0, hi1⟩ | ⟨t, rfl, ht⟩
      · walk_at "dw"
        refine iteF ?_
        walk_at "dw"
        refine i_notinO at2 ?_
        cases hct : wt.contains i with
        | true =>
          refine iteF ?_
          exact hN2 _ _ _ (.refl _) ⟨fs, wt, _, rfl, tw, nd, hin, ha', hbad, hfs, by omega⟩
        | false =>
          refine iteT ?_
          walk_at "dl"
          · rw [List.length_map, sizeLine_eq]; omega
          have hni : i ∉ wt := fun z => by rw [List.contains_iff_mem.mpr z] at hct; cases hct
          refine hN2 _ _ _ (.refl _) ⟨fs, wt ++ [i], _, rfl, ?_, ?_, ?_, ?_, hbad, hfs, by omega⟩
          · have := tw.set2 (b' := .lst ((wt ++ [i]).map D.int))
            simpa using this
          · rw [List.nodup_append]
            exact ⟨nd, by simp, fun a ha b hb => by simp at hb; subst hb; exact fun z => hni (z ▸ ha)⟩
          · intro k hk
            rcases List.mem_append.mp hk with hk | hk
            · exact hin k hk
            · simp at hk; subst hk; exact ⟨hpx.2.1 _ rfl, hi0, hi1⟩
          · simp; omega
      · walk_at "dw"
        refine iteT ?_
        walk_at "dl"
        · rw [List.length_map, sizeLine_eq]; omega
        refine hN2 _ _ _ (.refl _) ⟨fs ++ [t], wt, _, rfl, ?_, nd, hin, ha', ?_, ?_, ?_⟩
        · have := tw.set1 (a' := .lst ((fs ++ [t]).map D.str))
          simpa using this
        · simp; exact ⟨hbad, Ne.symm (hpx.2.2 _ rfl)⟩
        · rw [List.all_append, hfs]; simpa using List.all_eq_true.mp hws t ht
        · simp; omega
    · rintro env O2 ⟨fs, wt, y7, rfl, tw, nd, hin, ha', hbad, hfs, hfl⟩
      walk_at "dl"
      have hlen := nodup_len rs.length nd fun i hi => (hin i hi).2
      refine hN _ _ _ (m - 1) (by omega) (.refl _) ⟨fs, wt, a + 1, _, _, _, rfl, tw, nd, hin, ha', hbad, hfs, ?_, by omega⟩
      have : fs.length ≤ 2 * a + 2 := hfl
      omega
  · walk_at "dl"
    exact ⟨O, (tw.sub hpf hpw0).del hpf, hq fs hfs hbad⟩
/-! ### an end -/
def wdD (w : Str) : D → D
  | .tup [i, r] => .tup [.str w, i, r]
  | d => d
def tabD (w : Str) (rs : List D) : List D := (enumD rs).map (wdD w)
theorem tabD_len (w : Str) (rs : List D) : (tabD w rs).length = rs.length := by simp [tabD, enumD_len]
def fld2 (hs ss : List D) : List (Str × D) := [("hearer_rows", .tup hs), ("sender_rows", .tup ss)]
def fld3 (hs ss : List D) (p : Addr) : List (Str × D) := [("hearer_rows", .tup hs), ("sender_rows", .tup ss), ("table", .ref p)]
def wHear : List Str := ["taken", "lost"]
def wSend : List Str := ["done", "again"]
/-- sound machines -/
structure Sound (hs ss : List D) : Prop where
  h1 : 2 ≤ hs.length
  h2 : hs.length ≤ 100
  s1 : 1 ≤ ss.length
  s2 : ss.length ≤ 100
  hm : Mach wHear hs
  sm : Mach wSend ss
  cl : ∃ L, Closed hs 1 "taken" L
theorem plB_good {n : Int} {ws : List Str} (hw : ws.all strGood = true) {d : D} (h : plB n ws d = true) : good d = true := by
  rcases plB_cases h with ⟨i, rfl, _⟩ | ⟨s, rfl, hs⟩
  · exact good_int _
  · exact good_str (List.all_eq_true.mp hw s hs)
theorem plB_dp {n : Int} {ws : List Str} {d : D} (h : plB n ws d = true) : (py d).depth = 0 := by
  rcases plB_cases h with ⟨i, rfl, _⟩ | ⟨s, rfl, hs⟩ <;> simp [py, PyData.depth]
theorem rowB_good {n : Int} {ws : List Str} (hw : ws.all strGood = true) {d : D} (h : rowB n ws d = true) : good d = true := by
  obtain ⟨b, p, q, rfl, _, h1, h2⟩ := rowB_cases h
  have g1 := plB_good hw h1
  have g2 := plB_good hw h2
  have e1 := plB_dp h1
  have e2 := plB_dp h2
  simp only [good, SeqAt.shaped, Bool.and_eq_true, decide_eq_true_eq] at g1 g2 ⊢
  simp only [pd, pds, py, pys, PyData.canLay0, PyData.canLayAll0, PyData.depth, PyData.depthAll, g1.1, g1.2.1, g2.1, g2.2.1, e1, e2]
  decide
theorem wHear_good : wHear.all strGood = true := by decide +kernel
theorem wSend_good : wSend.all strGood = true := by decide +kernel
theorem enumD_mem {rs : List D} {x : D} (h : x ∈ enumD rs) : ∃ (i : Nat) (r : D), x = .tup [.int (i : Nat), r] ∧ r ∈ rs := by
  obtain ⟨i, hi⟩ := List.mem_iff_getElem?.mp h
  rw [enumD_get] at hi
  cases e : rs[i]? with
  | none => rw [e] at hi; cases hi
  | some r => rw [e] at hi; cases hi; exact ⟨i, r, rfl, List.mem_of_getElem? e⟩
def f_End___init__ (K : Frag) : DF := fun ds O q _ => ∃ x dx hD sD hs ss, ds = [.ref x, hD, sD] ∧ O x = some (.ins (He.ga K "End") dx []) ∧ SeqD O hD hs ∧ SeqD O sD ss ∧ Sound hs ss ∧
  ∀ O' p, O' x = some (.ins (He.ga K "End") dx (fld3 hs ss p)) → O' p = some (.lst (tabD "hearer" hs ++ tabD "sender" ss)) → O p = none → SubO (delO O x) O' → q .non O'
abbrev N_End___init__ : List Str := ["self", "hearer", "sender", "index", "row"]
abbrev P_End___init__ : List Str := ["self", "hearer", "sender"]
theorem sc_End___init__ : FnScope N_End___init__ P_End___init__ (defScope s_End___init__) := ⟨rfl, rfl, rfl, by decide +kernel, rfl, by decide +kernel, by decide +kernel⟩
theorem bd_End___init__ : Bd0 "__init__" "End.__init__" s_End___init__ P_End___init__ := fun _ _ _ _ _ _ us hl => match us, hl with | [_, _, _], _ => rfl
abbrev Fn_End___init__ (P : Program) (w : World) (K : Frag) (mg : Str → Option Value) (base : Heap) : Prop := Fn P w K mg base "__init__" "End.__init__" s_End___init__ [] [] P_End___init__ 3 5 (f_End___init__ K) (He.ma K (He.ga K "End") "__init__")
structure C_End___init__ (P : Program) (w : World) (K : Frag) (mg : Str → Option Value) (base : Heap) : Prop where
  checked_rows : Fn_checked_rows P w K mg base
  words_from : Fn_words_from P w K mg base
theorem ok_End___init__ {P : Program} {w : World} {K : Frag} {mg : Str → Option Value} {base : Heap} (F : HasD K "__init__" "End.__init__" s_End___init__ [] [] (He.ma K (He.ga K "End") "__init__")) (T : Txt K mg) (C : C_End___init__ P w K mg base) : Fn_End___init__ P w K mg base := by
  have sc := sc_End___init__
  refine fn_E (k := 4) F sc rfl fun cdv A outer s H E O0 H0 F0 ds O q xx hl hf S => ⟨_,
      (ds_cons (ds_fld S T.c_End T.n_End_hearer_rows (de_var (pv 0)) (so_callF S C.checked_rows (by decide) T.g_checked_rows bd_checked_rows rfl (da_cons (so_gc rfl T.g_HEARER T.d_HEARER) (da_cons (de_var (pv 1)) (da_cons de_int (da_cons (so_cvalE T.cr_End T.cv_End_MOST (pe_glob rfl T.g_End rfl) (fun _ => .int _)) (da_cons (so_gc rfl T.g_HEARER_WORDS_ends T.d_HEARER_WORDS_ends) da_nil)))))))
      (ds_cons (ds_fld S T.c_End T.n_End_sender_rows (de_var (pv 0)) (so_callF S C.checked_rows (by decide) T.g_checked_rows bd_checked_rows rfl (da_cons (so_gc rfl T.g_SENDER T.d_SENDER) (da_cons (de_var (pv 2)) (da_cons de_int (da_cons (so_cvalE T.cr_End T.cv_End_MOST (pe_glob rfl T.g_End rfl) (fun _ => .int _)) (da_cons (so_gc rfl T.g_SENDER_WORDS T.d_SENDER_WORDS) da_nil)))))))
      (ds_cons (ds_if (st_in S de_str (so_callF S C.words_from (by decide) T.g_words_from bd_words_from rfl (da_cons (de_fld S T.c_End T.n_End_hearer_rows (de_var (pv 0))) (da_cons de_int da_nil))))
       (ds_one ds_never)
       ds_nil)
      (ds_cons (ds_fld S T.c_End T.n_End_table (de_var (pv 0)) (de_lcO (simG_tup rfl (simGs_cons owSame_name (simG_name (vs := [3, 4]) (i := 3) (by decide)) (simGs_cons owSame_name (simG_name (vs := [3, 4]) (i := 4) (by decide)) simGs_nil))) (pe_lc (own := [("index", 3), ("row", 4)]) (g := (gTup _ 2 (gCons (gName 3) (gCons (gName 4) gNil)))) rfl sc.nd (di_enum S rfl T.b_enumerate (de_fld S T.c_End T.n_End_hearer_rows (de_var (pv 0)))) (blkOk_by (own := [("index", 3), ("row", 4)]) (N := N_End___init__) (sc := defScope s_End___init__) (by decide +kernel)) (fun _ _ _ _ _ => (pg_tup rfl (pgs_cons (pg_name (i := 3) sc.nd rfl (by first | exact Or.inl rfl | exact Or.inr rfl)) (pgs_cons (pg_name (i := 4) sc.nd rfl (by first | exact Or.inl rfl | exact Or.inr rfl)) pgs_nil)))) (fun _ _ _ _ _ => dts_nil) (fun _ _ _ _ _ => (de_tup (da_cons (so_gc rfl T.g_HEARER T.d_HEARER) (da_cons (de_var (pv 3)) (da_cons (de_var (pv 4)) da_nil))))))))
      (ds_one (ds_fldExt S T.c_End T.n_End_table (de_var (pv 0)) (de_lcO (simG_tup rfl (simGs_cons owSame_name (simG_name (vs := [3, 4]) (i := 3) (by decide)) (simGs_cons owSame_name (simG_name (vs := [3, 4]) (i := 4) (by decide)) simGs_nil))) (pe_lc (own := [("index", 3), ("row", 4)]) (g := (gTup _ 2 (gCons (gName 3) (gCons (gName 4) gNil)))) rfl sc.nd (di_enum S rfl T.b_enumerate (de_fld S T.c_End T.n_End_sender_rows (de_var (pv 0)))) (blkOk_by (own := [("index", 3), ("row", 4)]) (N := N_End___init__) (sc := defScope s_End___init__) (by decide +kernel)) (fun _ _ _ _ _ => (pg_tup rfl (pgs_cons (pg_name (i := 3) sc.nd rfl (by first | exact Or.inl rfl | exact Or.inr rfl)) (pgs_cons (pg_name (i := 4) sc.nd rfl (by first | exact Or.inl rfl | exact Or.inr rfl)) pgs_nil)))) (fun _ _ _ _ _ => dts_nil) (fun _ _ _ _ _ => (de_tup (da_cons (so_gc rfl T.g_SENDER T.d_SENDER) (da_cons (de_var (pv 3)) (da_cons (de_var (pv 4)) da_nil)))))))))))))
      , ?_⟩
  obtain ⟨x, dx, hD, sD, hs, ss, rfl, hx, hhD, hsD, so, hq⟩ := hf
  have hgood := fun r hr => rowB_good wHear_good (so.hm r hr)
  have sgood := fun r hr => rowB_good wSend_good (so.sm r hr)
  walk_at "dl"
  refine ⟨rfl, "hearer", hD, hs, 2, 100, wHear, rfl, hhD, by have := so.h1; omega, by have := so.h2; omega, by decide, hgood, wHear_good, so.hm, ?_⟩
  walk_at "dl"
  refine i_setfK hx (by simp) ?_
  walk_at "dl"
  refine ⟨rfl, "sender", sD, ss, 1, 100, wSend, rfl, hsD.set (fun ds z => by rw [hx] at z; cases z), by have := so.s1; omega, by have := so.s2; omega, by decide, sgood, wSend_good, so.sm, ?_⟩
  walk_at "dl"
  refine i_setfK setO_same (by simp [putD]) ?_
  rw [setO_setO]
  have e2 : putD "sender_rows" (.tup ss) (putD "hearer_rows" (.tup hs) []) = fld2 hs ss := by rfl
  rw [e2]
  obtain ⟨L, hL⟩ := so.cl
  walk_at "dw"
  refine ⟨rfl, hs, 1, wHear, "taken", L, rfl, so.hm, so.h2, by decide, by have := so.h1; omega, hL, wHear_good, fun fs hfs hbad => ?_⟩
  refine i_inStrL (by decide +kernel) hfs ?_
  rw [show fs.contains "taken" = false by simpa using hbad]
  refine iteF ?_
  walk_at "dl"
  have lh := so.h2
  have ls := so.s2
  refine ⟨by rw [enumD_len, sizeLine_eq]; omega, ?_⟩
  refine lcGo_map (wdD "hearer") trivial (fun y hy k z hk => ?_) (fun p hp => ?_)
  · obtain ⟨i, r, rfl, hr⟩ := enumD_mem hy
    walk_at "dl"
    refine iteT ?_
    walk_at "dl"
    exact hk _ (.refl _)
  have hpx : p ≠ x := fun z => by rw [z, setO_same] at hp; cases hp
  have hxp := hpx.symm
  have hp0 : O p = none := by rw [setO_ne hpx] at hp; exact hp
  walk_at "dl"
  refine i_setfK (fs := fld2 hs ss) (dx := dx) (by rw [setO_ne hxp, setO_same]) (by simp [fld2]) ?_
  have e3 : putD "table" (.ref p) (fld2 hs ss) = fld3 hs ss p := by rfl
  rw [e3]
  generalize hO3 : setO (setO (setO O x (.ins (He.ga K "End") dx (fld2 hs ss))) p (.lst ((enumD hs).map (wdD "hearer")))) x (.ins (He.ga K "End") dx (fld3 hs ss p)) = O3
  have g1 : O3 x = some (.ins (He.ga K "End") dx (fld3 hs ss p)) := by rw [← hO3, setO_same]
  have g2 : O3 p = some (.lst (tabD "hearer" hs)) := by rw [← hO3, setO_ne hpx, setO_same]; rfl
  have g3 : ∀ r, r ≠ x → r ≠ p → O3 r = O r := fun r h1 h2 => by rw [← hO3, setO_ne h1, setO_ne h2, setO_ne h1]
  refine ⟨.ref x, rfl, dx, fld3 hs ss p, p, g1, rfl, ?_⟩
  walk_at "dl"
  refine ⟨by rw [enumD_len, sizeLine_eq]; omega, ?_⟩
  refine lcGo_map (wdD "sender") trivial (fun y hy k z hk => ?_) (fun b hb => ?_)
  · obtain ⟨i, r, rfl, hr⟩ := enumD_mem hy
    walk_at "dl"
    refine iteT ?_
    walk_at "dl"
    exact hk _ (.refl _)
  have hbx : x ≠ b := fun z => by rw [← z, g1] at hb; cases hb
  have hbp : p ≠ b := fun z => by rw [← z, g2] at hb; cases hb
  refine ⟨_, _, dx, fld3 hs ss p, by rw [setO_ne hbp]; exact g2, setO_same, ?_, by rw [setO_ne hbx]; exact g1, by simp [fld3], ?_⟩
  · rw [tabD_len, List.length_map, enumD_len, sizeLine_eq]; omega
  have e4 : putD "table" (.ref p) (fld3 hs ss p) = fld3 hs ss p := by rfl
  rw [e4]
  refine rt_same (hq _ p setO_same ?_ hp0 fun r o e => ?_)
  · rw [setO_ne hpx, setO_same]; rfl
  · have h1 : r ≠ x := fun z => by subst z; unfold delO at e; rw [if_pos rfl] at e; cases e
    rw [delO_ne h1] at e
    have h2 : r ≠ p := fun z => by rw [z, hp0] at e; cases e
    have h3 : r ≠ b := fun z => by rw [z, ← g3 b (Ne.symm hbx) (Ne.symm hbp), hb] at e; cases e
    rw [setO_ne h1, setO_ne h2, setO_ne h3, g3 r h1 h2]
    exact e
abbrev N_End_hearer : List Str := ["self"]
abbrev P_End_hearer : List Str := ["self"]
theorem sc_End_hearer : FnScope N_End_hearer P_End_hearer (defScope s_End_hearer) := ⟨rfl, rfl, rfl, by decide +kernel, rfl, by decide +kernel, by decide +kernel⟩
theorem bd_End_hearer : Bd0 "hearer" "End.hearer" s_End_hearer P_End_hearer := fun _ _ _ _ _ _ us hl => match us, hl with | [_], _ => rfl
abbrev Fn_End_hearer (P : Program) (w : World) (K : Frag) (mg : Str → Option Value) (base : Heap) : Prop := Get P w K mg base (He.ga K "End") "hearer_rows" (ga2 K "End" "hearer")
theorem ok_End_hearer {P : Program} {w : World} {K : Frag} {mg : Str → Option Value} {base : Heap} (F : HasD K "hearer" "End.hearer" s_End_hearer [] [] (ga2 K "End" "hearer")) (T : Txt K mg) : Fn_End_hearer P w K mg base := get_E F sc_End_hearer rfl T.c_End T.n_End_hearer_rows bd_End_hearer

abbrev N_End_sender : List Str := ["self"]
abbrev P_End_sender : List Str := ["self"]
theorem sc_End_sender : FnScope N_End_sender P_End_sender (defScope s_End_sender) := ⟨rfl, rfl, rfl, by decide +kernel, rfl, by decide +kernel, by decide +kernel⟩
theorem bd_End_sender : Bd0 "sender" "End.sender" s_End_sender P_End_sender := fun _ _ _ _ _ _ us hl => match us, hl with | [_], _ => rfl
abbrev Fn_End_sender (P : Program) (w : World) (K : Frag) (mg : Str → Option Value) (base : Heap) : Prop := Get P w K mg base (He.ga K "End") "sender_rows" (ga2 K "End" "sender")
theorem ok_End_sender {P : Program} {w : World} {K : Frag} {mg : Str → Option Value} {base : Heap} (F : HasD K "sender" "End.sender" s_End_sender [] [] (ga2 K "End" "sender")) (T : Txt K mg) : Fn_End_sender P w K mg base := get_E F sc_End_sender rfl T.c_End T.n_End_sender_rows bd_End_sender

/-- an end as data -/
abbrev endD (C : Addr) (hs ss : List D) : D := .ins C ["hearer_rows", "sender_rows", "table"] [.tup hs, .tup ss, .lst (tabD "hearer" hs ++ tabD "sender" ss)]
/-- End(hearer, sender) of sound machines -/
theorem i_End {K : Frag} {xx : DX} {O : Ow} {q : DQ} {hD sD : D} {hs ss : List D} (hh : SeqD O hD hs) (hS : SeqD O sD ss) (so : Sound hs ss) (h : q (endD (He.ga K "End") hs ss) O) :
    ([hD, sD] ++ ([] : List D)).length + 1 = 3 ∧ ∀ x dx, O x = none → O dx = none → dx ≠ x →
      f_End___init__ K (.ref x :: ([hD, sD] ++ [])) (setO O x (.ins (He.ga K "End") dx [])) (fun d O2 => d = .non ∧ iceI (He.ga K "End") q (.ref x) O2) xx := by
  refine ⟨rfl, fun x dx hx _ _ => ⟨x, dx, hD, sD, hs, ss, rfl, setO_same, hh.set (fun _ z => by rw [hx] at z; cases z), hS.set (fun _ z => by rw [hx] at z; cases z), so, fun O' p e1 e2 e3 hsub => ⟨rfl, dx, _, e1, O, ?_, ?_⟩⟩⟩
  · rw [delO_set hx] at hsub
    intro r o e
    have h1 : r ≠ x := fun z => by rw [z, hx] at e; cases e
    have h2 : r ≠ p := fun z => by
      have hpx : p ≠ x := fun z => by rw [z, e1] at e2; cases e2
      rw [setO_ne hpx] at e3
      rw [z, e3] at e; cases e
    unfold cutO
    rw [if_neg]
    · exact hsub r o e
    · rintro (z | z)
      · exact h1 z
      · simp only [frzP, fld3, e2, Bool.or_false] at z
        exact h2 (by simpa using z)
  · simp only [fld3, List.map_cons, List.map_nil, frzD, e2]
    exact h
end
end K24

set_option Elab.async false
set_option linter.all false
set_option maxRecDepth 100000
set_option maxHeartbeats 4000000
namespace K24
open PySem PySem.Spec PyProof.Rows L2 DL
open ClX (CRead CVal)
local macro_rules | `(tactic| walk_at "d1") => `(tactic| first | ((with_reducible apply i_var); exact rfl) | ((with_reducible apply i_gtup); exact rfl) | ((with_reducible apply i_augI); exact rfl) | ((with_reducible apply i_ixT); exact rfl) | ((with_reducible apply i_ixL); exact rfl) | with_reducible refine i_seq ?_ | with_reducible refine i_asg ?_ | with_reducible refine i_gname ?_ | with_reducible refine i_c ?_ | with_reducible refine i_op ?_ | with_reducible refine i_cb ?_ | with_reducible refine i_cons ?_ | with_reducible refine i_nil ?_ | with_reducible refine i_expr ?_ | with_reducible refine i_ret ?_ | with_reducible refine i_retN ?_ | with_reducible refine i_next ?_ | with_reducible refine i_for ?_ | with_reducible refine i_par ?_ | with_reducible refine i_test ?_ | with_reducible refine i_tup ?_ | with_reducible refine i_lst ?_ | ((with_reducible refine i_sz ?_ ?_); (focus exact Nat.le_of_ble_eq_true rfl)) | with_reducible refine i_lstO ?_ | with_reducible refine i_break ?_ | with_reducible refine i_cont ?_ | with_reducible refine i_gnil ?_ | with_reducible refine i_gcons ?_ | with_reducible refine i_tru ?_ | with_reducible refine i_and ?_ | with_reducible refine i_or ?_ | with_reducible refine i_not ?_ | with_reducible refine i_andV ?_ | with_reducible refine i_orV ?_ | with_reducible refine i_notV ?_ | with_reducible refine i_neg ?_ | with_reducible refine i_chain ?_ | with_reducible refine i_call ?_ | with_reducible refine i_callK ?_ | with_reducible refine i_append ?_ | with_reducible refine i_gsub ?_ | with_reducible refine i_sl ?_ | with_reducible refine i_slT ?_ | with_reducible refine i_slL ?_ | with_reducible refine i_oN ?_ | with_reducible refine i_oS ?_ | with_reducible refine i_lc ?_ | with_reducible refine i_lcO ?_ | with_reducible refine i_yes ?_ | with_reducible refine i_listRg1 ?_ | with_reducible refine i_rg1 ?_ | with_reducible refine i_rg2 ?_ | with_reducible refine i_seqI ?_ | with_reducible refine i_seqT ?_ | with_reducible refine i_seqL ?_ | with_reducible refine i_lt ?_ | with_reducible refine i_le ?_ | with_reducible refine i_gt ?_ | with_reducible refine i_ge ?_ | with_reducible refine i_sub ?_ | with_reducible refine i_addI ?_ | with_reducible refine i_int ?_ | with_reducible refine i_intb ?_ | with_reducible refine i_abs ?_ | with_reducible refine i_min2 ?_ | with_reducible refine i_max2 ?_ | with_reducible refine i_isN ?_ | with_reducible refine i_notN ?_ | with_reducible refine i_lenL ?_ | with_reducible refine i_lenT ?_ | ((with_reducible apply i_ixO); (focus (first | assumption | exact setO_same | (rw [setO_ne (by assumption)]; first | assumption | exact setO_same))); exact rfl) | ((with_reducible apply i_lenO); (focus (first | assumption | exact setO_same | (rw [setO_ne (by assumption)]; first | assumption | exact setO_same)))) | ((with_reducible apply i_appK); (focus (first | assumption | exact setO_same | (rw [setO_ne (by assumption)]; first | assumption | exact setO_same)))) | ((with_reducible apply i_subK); (focus (first | assumption | exact setO_same | (rw [setO_ne (by assumption)]; first | assumption | exact setO_same))); exact rfl) | ((with_reducible apply i_slO); (focus (first | assumption | exact setO_same | (rw [setO_ne (by assumption)]; first | assumption | exact setO_same)))) | ((with_reducible apply i_seqO); (focus (first | assumption | exact setO_same | (rw [setO_ne (by assumption)]; first | assumption | exact setO_same)))) | ((with_reducible apply i_appK2); (focus (first | assumption | exact setO_same | (rw [setO_ne (by assumption)]; first | assumption | exact setO_same)))) | with_reducible refine i_ice ?_ | with_reducible refine i_iceL ?_ | ((with_reducible apply i_iceK); (focus (first | assumption | exact setO_same | (rw [setO_ne (by assumption)]; first | assumption | exact setO_same)))) | with_reducible refine i_fld ?_ | ((with_reducible apply i_fldK); (focus (first | assumption | exact setO_same | (rw [setO_ne (by assumption)]; first | assumption | exact setO_same))); exact rfl) | with_reducible refine i_sfld ?_ | with_reducible refine i_make ?_ | with_reducible refine i_callK0 ?_ | with_reducible refine i_enum2 ?_ | with_reducible refine i_enumL ?_ | with_reducible refine i_enumT ?_ | with_reducible refine i_par3 ?_ | with_reducible refine i_dsp2 ?_ | ((with_reducible apply i_isi (b := true)); exact rfl; exact rfl; exact rfl) | ((with_reducible apply i_isi (b := false)); exact rfl; exact rfl; exact rfl) | with_reducible refine i_eqI ?_ | with_reducible refine i_neI ?_ | with_reducible refine i_truB ?_ | ((with_reducible apply i_fldI); exact rfl) | with_reducible refine i_iceI ?_ | with_reducible refine i_join ?_ | with_reducible refine i_dict0 ?_ | with_reducible refine i_isiI ?_ | with_reducible refine i_ownIn ?_ | with_reducible refine i_ownEq ?_ | with_reducible refine i_ownLen ?_ | with_reducible refine i_ownStr ?_ | with_reducible refine i_strS ?_ | with_reducible refine i_fmt ?_ | with_reducible refine i_pop ?_ | with_reducible refine i_listRg2 ?_ | with_reducible refine i_listRg2O ?_ | ((with_reducible apply i_popK); (focus (first | assumption | exact setO_same | (rw [setO_ne (by assumption)]; first | assumption | exact setO_same)))) | with_reducible refine i_raise ?_ | with_reducible refine i_tryAs ?_ | with_reducible refine i_xf ?_ | ((with_reducible apply i_xfK); exact rfl) | with_reducible refine i_js ?_ | with_reducible refine i_js0 ?_ | with_reducible refine i_makeK0 ?_ | with_reducible refine i_own ?_ | with_reducible refine i_ownT ?_ | with_reducible refine i_lenZ ?_ | with_reducible refine i_sortZ ?_ | with_reducible refine i_setL ?_ | with_reducible refine i_sc ?_ | with_reducible refine i_key ?_ | with_reducible refine i_revL ?_ | with_reducible refine i_revT ?_ | with_reducible refine i_zip ?_ | with_reducible refine i_ltAI ?_ | with_reducible refine i_ltAS ?_ | with_reducible refine i_inRg1 ?_ | with_reducible refine i_inRg2 ?_ | with_reducible refine i_listRg1O ?_ | with_reducible refine i_tryM ?_ | with_reducible refine i_xi ?_ | with_reducible refine i_split ?_ | with_reducible refine i_m0 ?_ | with_reducible refine i_m0K ?_ | with_reducible refine i_starA ?_ | with_reducible refine i_cm ?_ | with_reducible refine i_cmK ?_ | ((with_reducible apply i_makeL); exact rfl) | with_reducible refine i_int2I ?_ | with_reducible refine i_int2B ?_ | with_reducible refine i_clear ?_ | ((with_reducible apply i_clearK); (focus (first | assumption | exact setO_same | (rw [setO_ne (by assumption)]; first | assumption | exact setO_same)))) | with_reducible refine i_meth ?_ | with_reducible refine i_dput ?_ | with_reducible refine i_dict0N ?_ | with_reducible refine i_dc ?_ | with_reducible refine i_dct ?_ | with_reducible refine i_ckw ?_ | with_reducible refine i_iceA ?_ | with_reducible refine i_get2 ?_ | with_reducible refine i_prop ?_ | with_reducible refine i_propI ?_ | ((with_reducible apply i_methI); exact rfl) | ((with_reducible apply i_methO); (focus (first | assumption | exact setO_same | (rw [setO_ne (by assumption)]; first | assumption | exact setO_same))); exact rfl))
local macro_rules | `(tactic| walk_at "dl") => `(tactic| repeat (walk_at "d1"))
local macro_rules | `(tactic| walk_at "dw") => `(tactic| repeat (first | with_reducible refine i_if ?_ | with_reducible refine i_ifE ?_ | walk_at "d1"))

section
variable {P : Program} {w : World} {K : Frag} {mg : Str → Option Value} {base : Heap}
/-! ### draws (the kind with 48271) -/
abbrev f_law_take : DF := f_take
abbrev f_law_bag : DF := f_bag
abbrev N_law_take : List Str := ["_law_bag_here", "_law_many", "_law_digit", "_law_mixed"]
abbrev P_law_take : List Str := ["_law_bag_here", "_law_many"]
theorem sc_law_take : FnScope N_law_take P_law_take (defScope s_law_take) := ⟨rfl, rfl, rfl, by decide +kernel, rfl, by decide +kernel, by decide +kernel⟩
theorem bd_law_take : Bd0 "_law_take" "_law_take" s_law_take P_law_take := fun _ _ _ _ _ _ us hl => match us, hl with | [_, _], _ => rfl
abbrev Fn_law_take (P : Program) (w : World) (K : Frag) (mg : Str → Option Value) (base : Heap) : Prop := Fn P w K mg base "_law_take" "_law_take" s_law_take [] [] P_law_take 2 1 f_law_take (He.ga K "_law_take")
theorem ok_law_take {P : Program} {w : World} {K : Frag} {mg : Str → Option Value} {base : Heap} (F : HasD K "_law_take" "_law_take" s_law_take [] [] (He.ga K "_law_take")) (T : Txt K mg) : Fn_law_take P w K mg base := by
  have sc := sc_law_take
  refine fn_E (k := 0) F sc rfl fun cdv A outer s H E O0 H0 F0 ds O q xx hl hf S => ⟨_,
      (ds_cons (ds_if (st_gt S (so_ix S (de_var (pv 0)) de_int (fun _ _ => rfl)) de_int)
       (ds_cons (ds_set (ps_set (i := 2) sc.nd rfl (by first | exact Or.inl rfl | exact Or.inr rfl) (so_mod S (so_int S rfl T.b_int (da_cons (so_ix S (de_var (pv 0)) de_int (fun _ _ => rfl)) da_nil)) (de_var (pv 1)))))
       (ds_cons (ds_asg (ps_asg (so_fdiv S (so_ix S (de_var (pv 0)) de_int (fun _ _ => rfl)) (de_var (pv 1))) (dg_sub (pg_sub (de_var (pv 0)) de_int set_list))))
       (ds_one (ds_ret (de_var (pv 2))))))
       ds_nil)
      (ds_cons (ds_asg (ps_asg (so_add S (so_ix S (de_var (pv 0)) de_int (fun _ _ => rfl)) de_int) (dg_sub (pg_sub (de_var (pv 0)) de_int set_list))))
      (ds_cons (ds_asg (ps_asg (so_mod S (so_int S rfl T.b_int (da_cons (so_add S (so_add S (so_mul S (so_ix S (de_var (pv 0)) de_int (fun _ _ => rfl)) de_int) (so_mul S (so_mul S de_int (so_ix S (de_var (pv 0)) de_int (fun _ _ => rfl))) (so_ix S (de_var (pv 0)) de_int (fun _ _ => rfl)))) de_int) da_nil)) de_int) (dg_sub (pg_sub (de_var (pv 0)) de_int set_list))))
      (ds_cons (ds_set (ps_set (i := 3) sc.nd rfl (by first | exact Or.inl rfl | exact Or.inr rfl) (so_mod S (so_int S rfl T.b_int (da_cons (so_add S (so_pow S (so_fdiv S (so_ix S (de_var (pv 0)) de_int (fun _ _ => rfl)) de_int) de_int) (so_mul S de_int (so_ix S (de_var (pv 0)) de_int (fun _ _ => rfl)))) da_nil)) de_int)))
      (ds_one (ds_ret (so_mod S (so_int S rfl T.b_int (da_cons (so_fdiv S (de_var (pv 3)) de_int) da_nil)) (de_var (pv 1)))))))))
      , ?_⟩
  obtain ⟨p, n, m, rfl, ⟨a, b, c, hp, h2, h3, h4, h5⟩, h6, h0, h1, hq⟩ := hf
  walk_at "dw"
  refine if_d (fun ha => ?_) (fun ha => ?_)
  · walk_at "dl"
    refine i_mod h0 ?_
    walk_at "dl"
    refine i_fdiv ⟨h0, by omega⟩ ?_
    walk_at "dl"
    exact rt_same (hq _ _ (Int.emod_nonneg _ (by omega)) (Int.emod_lt_of_pos _ h0) ⟨_, _, _, setO_same, h2, h3, h4, by omega⟩)
  · walk_at "dl"
    refine i_mulI (.inr ⟨by decide, by decide⟩) ?_
    walk_at "dl"
    refine i_mulI (.inl ⟨by decide, by decide⟩) ?_
    walk_at "dl"
    refine i_mulI (.inr ⟨by omega, by omega⟩) ?_
    walk_at "dl"
    refine i_mod (by decide) ?_
    generalize hx : _ % (2147483647 : Int) = x
    have hx1 : 0 ≤ x := by subst hx; exact Int.emod_nonneg _ (by decide)
    have hx2 : x < 2147483647 := by subst hx; exact Int.emod_lt_of_pos _ (by decide)
    walk_at "dl"
    refine i_fdiv ⟨by decide, by decide⟩ ?_
    walk_at "dl"
    refine i_pow (powW (m := 40) (by omega) (by decide) (by decide) (by decide)) ?_
    walk_at "dl"
    refine i_mulI (.inl ⟨by decide, by decide⟩) ?_
    walk_at "dl"
    refine i_mod (by decide) ?_
    walk_at "dl"
    refine i_fdiv ⟨by decide, by decide⟩ ?_
    walk_at "dl"
    refine i_mod h0 ?_
    rw [setO_setO]
    refine rt_same (hq _ _ (Int.emod_nonneg _ (by omega)) (Int.emod_lt_of_pos _ h0) ⟨a, x, c + 1, ?_, by omega, by omega, by omega, by omega⟩)
    rw [setO_same]
    rfl
abbrev N_law_bag : List Str := ["_law_script", "_law_at", "_law_cell", "_law_digits"]
abbrev P_law_bag : List Str := ["_law_script", "_law_at"]
theorem sc_law_bag : FnScope N_law_bag P_law_bag (defScope s_law_bag) := ⟨rfl, rfl, rfl, by decide +kernel, rfl, by decide +kernel, by decide +kernel⟩
theorem bd_law_bag : Bd0 "_law_bag" "_law_bag" s_law_bag P_law_bag := fun _ _ _ _ _ _ us hl => match us, hl with | [_, _], _ => rfl
abbrev Fn_law_bag (P : Program) (w : World) (K : Frag) (mg : Str → Option Value) (base : Heap) : Prop := Fn P w K mg base "_law_bag" "_law_bag" s_law_bag [] [] P_law_bag 2 1 f_law_bag (He.ga K "_law_bag")
theorem ok_law_bag {P : Program} {w : World} {K : Frag} {mg : Str → Option Value} {base : Heap} (F : HasD K "_law_bag" "_law_bag" s_law_bag [] [] (He.ga K "_law_bag")) (T : Txt K mg) : Fn_law_bag P w K mg base := by
  have sc := sc_law_bag
  refine fn_E (k := 0) F sc rfl fun cdv A outer s H E O0 H0 F0 ds O q xx hl hf S => ⟨_,
      (ds_cons (ds_set (ps_set (i := 2) sc.nd rfl (by first | exact Or.inl rfl | exact Or.inr rfl) (de_if (st_lt S (de_var (pv 1)) (so_len S rfl T.b_len (da_cons (de_var (pv 0)) da_nil))) (so_ix S (de_var (pv 0)) (de_var (pv 1)) (fun _ _ => rfl)) de_int)))
      (ds_cons (ds_set (ps_set (i := 3) sc.nd rfl (by first | exact Or.inl rfl | exact Or.inr rfl) (de_if (st_ge S (so_abs S rfl T.b_abs (da_cons (de_var (pv 2)) da_nil)) (so_pow S de_int de_int)) (so_abs S rfl T.b_abs (da_cons (de_var (pv 2)) da_nil)) de_int)))
      (ds_one (ds_ret (de_lstO (da_cons (de_var (pv 3)) (da_cons (so_mod S (so_int S rfl T.b_int (da_cons (so_add S (so_add S (so_add S (so_mul S (de_var (pv 2)) de_int) (so_mul S (so_mul S de_int (de_var (pv 1))) (de_var (pv 1)))) (so_mul S de_int (de_var (pv 1)))) de_int) da_nil)) de_int) (da_cons de_int da_nil))))))))
      , ?_⟩
  obtain ⟨ns, at_, rfl, h0, h1, hq⟩ := hf
  walk_at "dl"
  refine join (fun d => ∃ c : Int, d = .int c) ?_ fun q' hq' => ?_
  case refine_2 =>
    walk_at "dw"
    refine if_d (fun ha => ?_) (fun ha => ?_)
    · obtain ⟨d, e1, e⟩ := atI_in h0 ha
      obtain ⟨c, _, rfl⟩ := map_get e1
      walk_at "dl"
      exact i_ixL e (hq' _ ⟨_, rfl⟩)
    · walk_at "dl"
      exact hq' _ ⟨_, rfl⟩
  rintro _ ⟨cell, rfl⟩
  walk_at "dl"
  refine join (fun d => ∃ c : Int, d = .int c) ?_ fun q' hq' => ?_
  case refine_2 =>
    walk_at "dw"
    refine i_pow (powW (m := 40) (by decide) (by decide) (by decide) (by decide)) ?_
    walk_at "dl"
    refine if_d (fun ha => ?_) (fun ha => ?_)
    · walk_at "dl"
      exact hq' _ ⟨_, rfl⟩
    · walk_at "dl"
      exact hq' _ ⟨_, rfl⟩
  rintro _ ⟨dig, rfl⟩
  walk_at "dl"
  refine i_mulI (.inr ⟨by decide, by decide⟩) ?_
  walk_at "dl"
  refine i_mulI (.inl ⟨by decide, by decide⟩) ?_
  walk_at "dl"
  refine i_mulI (.inr ⟨by omega, by omega⟩) ?_
  walk_at "dl"
  refine i_mulI (.inl ⟨by decide, by decide⟩) ?_
  walk_at "dl"
  refine i_mod (by decide) ?_
  generalize hx : _ % (2147483629 : Int) = x
  have hx1 : 0 ≤ x := by subst hx; exact Int.emod_nonneg _ (by decide)
  have hx2 : x < 2147483629 := by subst hx; exact Int.emod_lt_of_pos _ (by decide)
  walk_at "dl"
  exact fun p hp => rt_same (hq p _ hp ⟨_, _, _, setO_same, by omega, by omega, by decide, by decide⟩)
end
end K24

set_option Elab.async false
set_option linter.all false
set_option maxRecDepth 100000
set_option maxHeartbeats 4000000
namespace K24
open PySem PySem.Spec PyProof.Rows L2 DL
open ClX (CRead CVal)
local macro_rules | `(tactic| walk_at "d1") => `(tactic| first | ((with_reducible apply i_var); exact rfl) | ((with_reducible apply i_gtup); exact rfl) | ((with_reducible apply i_augI); exact rfl) | ((with_reducible apply i_ixT); exact rfl) | ((with_reducible apply i_ixL); exact rfl) | with_reducible refine i_seq ?_ | with_reducible refine i_asg ?_ | with_reducible refine i_gname ?_ | with_reducible refine i_c ?_ | with_reducible refine i_op ?_ | with_reducible refine i_cb ?_ | with_reducible refine i_cons ?_ | with_reducible refine i_nil ?_ | with_reducible refine i_expr ?_ | with_reducible refine i_ret ?_ | with_reducible refine i_retN ?_ | with_reducible refine i_next ?_ | with_reducible refine i_for ?_ | with_reducible refine i_par ?_ | with_reducible refine i_test ?_ | with_reducible refine i_tup ?_ | with_reducible refine i_lst ?_ | ((with_reducible refine i_sz ?_ ?_); (focus exact Nat.le_of_ble_eq_true rfl)) | with_reducible refine i_lstO ?_ | with_reducible refine i_break ?_ | with_reducible refine i_cont ?_ | with_reducible refine i_gnil ?_ | with_reducible refine i_gcons ?_ | with_reducible refine i_tru ?_ | with_reducible refine i_and ?_ | with_reducible refine i_or ?_ | with_reducible refine i_not ?_ | with_reducible refine i_andV ?_ | with_reducible refine i_orV ?_ | with_reducible refine i_notV ?_ | with_reducible refine i_neg ?_ | with_reducible refine i_chain ?_ | with_reducible refine i_call ?_ | with_reducible refine i_callK ?_ | with_reducible refine i_append ?_ | with_reducible refine i_gsub ?_ | with_reducible refine i_sl ?_ | with_reducible refine i_slT ?_ | with_reducible refine i_slL ?_ | with_reducible refine i_oN ?_ | with_reducible refine i_oS ?_ | with_reducible refine i_lc ?_ | with_reducible refine i_lcO ?_ | with_reducible refine i_yes ?_ | with_reducible refine i_listRg1 ?_ | with_reducible refine i_rg1 ?_ | with_reducible refine i_rg2 ?_ | with_reducible refine i_seqI ?_ | with_reducible refine i_seqT ?_ | with_reducible refine i_seqL ?_ | with_reducible refine i_lt ?_ | with_reducible refine i_le ?_ | with_reducible refine i_gt ?_ | with_reducible refine i_ge ?_ | with_reducible refine i_sub ?_ | with_reducible refine i_addI ?_ | with_reducible refine i_int ?_ | with_reducible refine i_intb ?_ | with_reducible refine i_abs ?_ | with_reducible refine i_min2 ?_ | with_reducible refine i_max2 ?_ | with_reducible refine i_isN ?_ | with_reducible refine i_notN ?_ | with_reducible refine i_lenL ?_ | with_reducible refine i_lenT ?_ | ((with_reducible apply i_ixO); (focus (first | assumption | exact setO_same | (rw [setO_ne (by assumption)]; first | assumption | exact setO_same))); exact rfl) | ((with_reducible apply i_lenO); (focus (first | assumption | exact setO_same | (rw [setO_ne (by assumption)]; first | assumption | exact setO_same)))) | ((with_reducible apply i_appK); (focus (first | assumption | exact setO_same | (rw [setO_ne (by assumption)]; first | assumption | exact setO_same)))) | ((with_reducible apply i_subK); (focus (first | assumption | exact setO_same | (rw [setO_ne (by assumption)]; first | assumption | exact setO_same))); exact rfl) | ((with_reducible apply i_slO); (focus (first | assumption | exact setO_same | (rw [setO_ne (by assumption)]; first | assumption | exact setO_same)))) | ((with_reducible apply i_seqO); (focus (first | assumption | exact setO_same | (rw [setO_ne (by assumption)]; first | assumption | exact setO_same)))) | ((with_reducible apply i_appK2); (focus (first | assumption | exact setO_same | (rw [setO_ne (by assumption)]; first | assumption | exact setO_same)))) | with_reducible refine i_ice ?_ | with_reducible refine i_iceL ?_ | ((with_reducible apply i_iceK); (focus (first | assumption | exact setO_same | (rw [setO_ne (by assumption)]; first | assumption | exact setO_same)))) | with_reducible refine i_fld ?_ | ((with_reducible apply i_fldK); (focus (first | assumption | exact setO_same | (rw [setO_ne (by assumption)]; first | assumption | exact setO_same))); exact rfl) | with_reducible refine i_sfld ?_ | with_reducible refine i_make ?_ | with_reducible refine i_callK0 ?_ | with_reducible refine i_enum2 ?_ | with_reducible refine i_enumL ?_ | with_reducible refine i_enumT ?_ | with_reducible refine i_par3 ?_ | with_reducible refine i_dsp2 ?_ | ((with_reducible apply i_isi (b := true)); exact rfl; exact rfl; exact rfl) | ((with_reducible apply i_isi (b := false)); exact rfl; exact rfl; exact rfl) | with_reducible refine i_eqI ?_ | with_reducible refine i_neI ?_ | with_reducible refine i_truB ?_ | ((with_reducible apply i_fldI); exact rfl) | with_reducible refine i_iceI ?_ | with_reducible refine i_join ?_ | with_reducible refine i_dict0 ?_ | with_reducible refine i_isiI ?_ | with_reducible refine i_ownIn ?_ | with_reducible refine i_ownEq ?_ | with_reducible refine i_ownLen ?_ | with_reducible refine i_ownStr ?_ | with_reducible refine i_strS ?_ | with_reducible refine i_fmt ?_ | with_reducible refine i_pop ?_ | with_reducible refine i_listRg2 ?_ | with_reducible refine i_listRg2O ?_ | ((with_reducible apply i_popK); (focus (first | assumption | exact setO_same | (rw [setO_ne (by assumption)]; first | assumption | exact setO_same)))) | with_reducible refine i_raise ?_ | with_reducible refine i_tryAs ?_ | with_reducible refine i_xf ?_ | ((with_reducible apply i_xfK); exact rfl) | with_reducible refine i_js ?_ | with_reducible refine i_js0 ?_ | with_reducible refine i_makeK0 ?_ | with_reducible refine i_own ?_ | with_reducible refine i_ownT ?_ | with_reducible refine i_lenZ ?_ | with_reducible refine i_sortZ ?_ | with_reducible refine i_setL ?_ | with_reducible refine i_sc ?_ | with_reducible refine i_key ?_ | with_reducible refine i_revL ?_ | with_reducible refine i_revT ?_ | with_reducible refine i_zip ?_ | with_reducible refine i_ltAI ?_ | with_reducible refine i_ltAS ?_ | with_reducible refine i_inRg1 ?_ | with_reducible refine i_inRg2 ?_ | with_reducible refine i_listRg1O ?_ | with_reducible refine i_tryM ?_ | with_reducible refine i_xi ?_ | with_reducible refine i_split ?_ | with_reducible refine i_m0 ?_ | with_reducible refine i_m0K ?_ | with_reducible refine i_starA ?_ | with_reducible refine i_cm ?_ | with_reducible refine i_cmK ?_ | ((with_reducible apply i_makeL); exact rfl) | with_reducible refine i_int2I ?_ | with_reducible refine i_int2B ?_ | with_reducible refine i_clear ?_ | ((with_reducible apply i_clearK); (focus (first | assumption | exact setO_same | (rw [setO_ne (by assumption)]; first | assumption | exact setO_same)))) | with_reducible refine i_meth ?_ | with_reducible refine i_dput ?_ | with_reducible refine i_dict0N ?_ | with_reducible refine i_dc ?_ | with_reducible refine i_dct ?_ | with_reducible refine i_ckw ?_ | with_reducible refine i_iceA ?_ | with_reducible refine i_get2 ?_ | with_reducible refine i_prop ?_ | with_reducible refine i_propI ?_ | ((with_reducible apply i_methI); exact rfl) | ((with_reducible apply i_methO); (focus (first | assumption | exact setO_same | (rw [setO_ne (by assumption)]; first | assumption | exact setO_same))); exact rfl))
local macro_rules | `(tactic| walk_at "dl") => `(tactic| repeat (walk_at "d1"))
local macro_rules | `(tactic| walk_at "dw") => `(tactic| repeat (first | with_reducible refine i_if ?_ | with_reducible refine i_ifE ?_ | walk_at "d1"))

section
variable {P : Program} {w : World} {K : Frag} {mg : Str → Option Value} {base : Heap}
/-! ### ends with a way -/
def BitL (ps : List Int) : Prop := ∀ x ∈ ps, x = 0 ∨ x = 1
def f_law_puts : DF := fun ds O q _ => ∃ (p : Addr) (n : Nat) (m : Int), ds = [.ref p, .int (n : Nat)] ∧ Bag O p m ∧ m < 2 ^ 38 ∧ n < 1000 ∧ ∀ (ps : List Int) (O' : Ow), ps.length = n → BitL ps → Ex p O O' → Bag O' p (m + n) → q (.lst (ps.map D.int)) O'
abbrev N_law_puts : List Str := ["_law_bag_here", "_law_many", "_law_spot_here"]
abbrev P_law_puts : List Str := ["_law_bag_here", "_law_many"]
theorem sc_law_puts : FnScope N_law_puts P_law_puts (defScope s_law_puts) := ⟨rfl, rfl, rfl, by decide +kernel, rfl, by decide +kernel, by decide +kernel⟩
theorem bd_law_puts : Bd0 "_law_puts" "_law_puts" s_law_puts P_law_puts := fun _ _ _ _ _ _ us hl => match us, hl with | [_, _], _ => rfl
abbrev Fn_law_puts (P : Program) (w : World) (K : Frag) (mg : Str → Option Value) (base : Heap) : Prop := Fn P w K mg base "_law_puts" "_law_puts" s_law_puts [] [] P_law_puts 2 2 f_law_puts (He.ga K "_law_puts")
structure C_law_puts (P : Program) (w : World) (K : Frag) (mg : Str → Option Value) (base : Heap) : Prop where
  law_take : Fn_law_take P w K mg base
theorem ok_law_puts {P : Program} {w : World} {K : Frag} {mg : Str → Option Value} {base : Heap} (F : HasD K "_law_puts" "_law_puts" s_law_puts [] [] (He.ga K "_law_puts")) (T : Txt K mg) (C : C_law_puts P w K mg base) : Fn_law_puts P w K mg base := by
  have sc := sc_law_puts
  refine fn_E (k := 1) F sc rfl fun cdv A outer s H E O0 H0 F0 ds O q xx hl hf S => ⟨_,
      (ds_one (ds_ret (de_lc (simG_name (vs := [2]) (i := 2) (by decide)) (pe_lc (own := [("_law_spot_here", 2)]) (g := (gName 2)) rfl sc.nd (di_range1 rfl T.b_range (da_cons (de_var (pv 1)) da_nil)) (blkOk_by (own := [("_law_spot_here", 2)]) (N := N_law_puts) (sc := defScope s_law_puts) (by decide +kernel)) (fun _ _ _ _ _ => (pg_name (i := 2) sc.nd rfl (by first | exact Or.inl rfl | exact Or.inr rfl))) (fun _ _ _ _ _ => dts_nil) (fun _ _ _ _ _ => (so_sub S.blk de_int (so_int S.blk rfl T.b_int (da_cons (so_eq S.blk (so_callF S.blk C.law_take (by decide) T.g_law_take bd_law_take rfl (da_cons (de_var (pv 0)) (da_cons de_int da_nil))) de_int) da_nil))))))))
      , ?_⟩
  obtain ⟨p, n, m, rfl, hb, hm, h0, hq⟩ := hf
  walk_at "dl"
  refine ⟨⟨by omega, by omega⟩, ?_⟩
  rw [rgD_zs]
  have hzl : ((zs 0 (n : Nat)).map D.int).length = n := by rw [List.length_map, zs_len]; omega
  refine ⟨by rw [hzl, sizeLine_eq]; omega, ?_⟩
  refine lcGo_inv (fun i ys O' => ∃ ps : List Int, Ex p O O' ∧ Bag O' p (m + i) ∧ ps.length = i ∧ BitL ps ∧ ys = ps.map D.int) ⟨[], Ex.refl, by simpa using hb, rfl, by simp [BitL], rfl⟩ (fun _ _ _ _ => trivial) ?_ ?_
  · rintro i x ys O1 k z hx ⟨ps, hx1, hb1, hl, hbit, rfl⟩ hk
    have hi : i < n := by
      have := (List.getElem?_eq_some_iff.mp hx).1
      rw [hzl] at this; exact this
    walk_at "dl"
    refine iteT ?_
    walk_at "dl"
    refine ⟨rfl, p, 5, _, rfl, hb1, by omega, by decide, by decide, fun y o1 hy0 hy1 hb2 => ?_⟩
    walk_at "dl"
    refine hk _ _ _ (.refl _) ⟨ps ++ [1 - if decide (y = 0) = true then 1 else 0], hx1.set, hb2.mono (by omega), by simp [hl], fun x hx => ?_, by simp⟩
    rcases List.mem_append.mp hx with h | h
    · exact hbit x h
    · simp only [List.mem_cons, List.mem_nil_iff, or_false] at h
      subst h
      split <;> simp
  · rintro ys O1 ⟨ps, hx1, hb1, hl, hbit, rfl⟩
    rw [hzl] at hl hb1
    exact rt_same (hq ps O1 hl hbit hx1 hb1)
def f_law_clean : DF := fun ds O q _ => ∃ as bs : List Int, ds = [.lst (as.map D.int), .lst (bs.map D.int)] ∧ as.length ≤ 100 ∧ bs.length ≤ 100 ∧ ∀ cs : List Int, as.length ≤ cs.length → bs.length ≤ cs.length → q (.lst (cs.map D.int)) O
abbrev N_law_clean : List Str := ["_law_one", "_law_other", "_law_many", "_law_ones", "_law_others", "_law_spot_here"]
abbrev P_law_clean : List Str := ["_law_one", "_law_other"]
theorem sc_law_clean : FnScope N_law_clean P_law_clean (defScope s_law_clean) := ⟨rfl, rfl, rfl, by decide +kernel, rfl, by decide +kernel, by decide +kernel⟩
theorem bd_law_clean : Bd0 "_law_clean" "_law_clean" s_law_clean P_law_clean := fun _ _ _ _ _ _ us hl => match us, hl with | [_, _], _ => rfl
abbrev Fn_law_clean (P : Program) (w : World) (K : Frag) (mg : Str → Option Value) (base : Heap) : Prop := Fn P w K mg base "_law_clean" "_law_clean" s_law_clean [] [] P_law_clean 2 1 f_law_clean (He.ga K "_law_clean")
theorem ok_law_clean {P : Program} {w : World} {K : Frag} {mg : Str → Option Value} {base : Heap} (F : HasD K "_law_clean" "_law_clean" s_law_clean [] [] (He.ga K "_law_clean")) (T : Txt K mg) : Fn_law_clean P w K mg base := by
  have sc := sc_law_clean
  refine fn_E (k := 0) F sc rfl fun cdv A outer s H E O0 H0 F0 ds O q xx hl hf S => ⟨_,
      (ds_cons (ds_set (ps_set (i := 2) sc.nd rfl (by first | exact Or.inl rfl | exact Or.inr rfl) (so_max2 S rfl rfl T.b_max (da_cons (so_len S rfl T.b_len (da_cons (de_var (pv 0)) da_nil)) (da_cons (so_len S rfl T.b_len (da_cons (de_var (pv 1)) da_nil)) da_nil)))))
      (ds_cons (ds_asg (ps_asg (de_tup (da_cons (so_add S (de_var (pv 0)) (so_rep S (de_lstO (da_cons de_int da_nil)) (de_var (pv 2)))) (da_cons (so_add S (de_var (pv 1)) (so_rep S (de_lstO (da_cons de_int da_nil)) (de_var (pv 2)))) da_nil))) (dg_tup rfl rfl (dgs_cons (dg_name (pg_name (i := 3) sc.nd rfl (by first | exact Or.inl rfl | exact Or.inr rfl))) (dgs_cons (dg_name (pg_name (i := 4) sc.nd rfl (by first | exact Or.inl rfl | exact Or.inr rfl))) dgs_nil)))))
      (ds_one (ds_ret (de_lc (simG_name (vs := [5]) (i := 5) (by decide)) (pe_lc (own := [("_law_spot_here", 5)]) (g := (gName 5)) rfl sc.nd (di_range1 rfl T.b_range (da_cons (de_var (pv 2)) da_nil)) (blkOk_by (own := [("_law_spot_here", 5)]) (N := N_law_clean) (sc := defScope s_law_clean) (by decide +kernel)) (fun _ _ _ _ _ => (pg_name (i := 5) sc.nd rfl (by first | exact Or.inl rfl | exact Or.inr rfl))) (fun _ _ _ _ _ => dts_nil) (fun _ _ _ _ _ => (so_min2 S.blk rfl rfl T.b_min (da_cons (so_ix S.blk (de_var (pv 3)) (de_var (pv 5)) (fun _ _ => rfl)) (da_cons (so_ix S.blk (de_var (pv 4)) (de_var (pv 5)) (fun _ _ => rfl)) da_nil))))))))))
      , ?_⟩
  obtain ⟨as, bs, rfl, ha, hb, hq⟩ := hf
  walk_at "dl"
  generalize hn : (if ((bs.map D.int).length : Int) > ((as.map D.int).length : Int) then ((bs.map D.int).length : Int) else ((as.map D.int).length : Int)) = mx
  have hmx : (as.length : Int) ≤ mx ∧ (bs.length : Int) ≤ mx ∧ 0 ≤ mx ∧ mx ≤ 100 := by
    subst hn
    simp only [List.length_map]
    split <;> omega
  intro r1 hr1
  walk_at "dl"
  refine i_rep setO_same ⟨hmx.2.2.1, by omega⟩ (by decide) ?_
  rw [flat_one]
  refine i_addL (line_ok (by simp only [List.length_map, List.length_replicate]; omega)) ?_
  walk_at "dl"
  intro r2 hr2
  walk_at "dl"
  refine i_rep setO_same ⟨hmx.2.2.1, by omega⟩ (by decide) ?_
  rw [flat_one]
  refine i_addL (line_ok (by simp only [List.length_map, List.length_replicate]; omega)) ?_
  have eA : ∀ as : List Int, as.map D.int ++ List.replicate mx.toNat (.int 1) = (as ++ List.replicate mx.toNat 1).map D.int := fun as => by simp
  rw [eA, eA]
  have hO : SubO O (setO (setO O r1 (.lst [.int 1])) r2 (.lst [.int 1])) := (SubO.fresh hr1).trans (SubO.fresh hr2)
  generalize setO (setO O r1 (.lst [.int 1])) r2 (.lst [.int 1]) = O1 at hO ⊢
  walk_at "dl"
  refine ⟨⟨by omega, by omega⟩, ?_⟩
  rw [rgD_zs]
  have hzl : ((zs 0 mx).map D.int).length = mx.toNat := by rw [List.length_map, zs_len]; omega
  refine ⟨by rw [hzl, sizeLine_eq]; omega, ?_⟩
  refine lcGo_inv (fun i ys O' => ∃ cs : List Int, O' = O1 ∧ cs.length = i ∧ ys = cs.map D.int) ⟨[], rfl, rfl, rfl⟩ (fun _ _ _ _ => trivial) ?_ ?_
  · rintro i x ys O2 k z hx ⟨cs, rfl, hl, rfl⟩ hk
    obtain ⟨y, hy, rfl⟩ := map_get hx
    obtain ⟨y0, y1⟩ := zs_mem (List.mem_of_getElem? hy)
    walk_at "dl"
    refine iteT ?_
    have at1 : ∀ as : List Int, ∃ v : Int, atI ((as ++ List.replicate mx.toNat 1).map D.int) y = some (.int v) := fun as => by
      obtain ⟨d, e1, e2⟩ := atI_in (ds := (as ++ List.replicate mx.toNat 1).map D.int) y0 (by simp; omega)
      obtain ⟨v, _, rfl⟩ := map_get e1
      exact ⟨v, e2⟩
    obtain ⟨v1, e1⟩ := at1 as
    obtain ⟨v2, e2⟩ := at1 bs
    walk_at "dl"
    refine i_ixL e1 ?_
    walk_at "dl"
    refine i_ixL e2 ?_
    walk_at "dl"
    exact hk _ _ _ (.refl _) ⟨cs ++ [if v2 < v1 then v2 else v1], rfl, by simp [hl], by simp⟩
  · rintro ys O2 ⟨cs, rfl, hl, rfl⟩
    rw [hzl] at hl
    exact ⟨O, hO, hq cs (by omega) (by omega)⟩
/-- a place: one of some rows, or a word -/
def PlIn (js : List Int) (ws : List Str) (d : D) : Prop := (∃ i ∈ js, d = .int i) ∨ ∃ s ∈ ws, d = .str s
def RowIn (js : List Int) (ws : List Str) (r : D) : Prop := ∃ b p q, r = .tup [.int b, p, q] ∧ (b = 0 ∨ b = 1) ∧ PlIn js ws p ∧ PlIn js ws q
/-- rows with their indexes -/
def Pairs (sp : List Int) (js : List Int) (ws : List Str) (xs : List D) : Prop := xs.length = sp.length ∧ ∀ (i : Nat) (x : D), xs[i]? = some x → ∃ s r, sp[i]? = some s ∧ x = .tup [.int s, r] ∧ RowIn js ws r
theorem PlIn.mono {js js' : List Int} {ws ws' : List Str} {d : D} (h : PlIn js ws d) (hj : ∀ i ∈ js, i ∈ js') (hw : ∀ s ∈ ws, s ∈ ws') : PlIn js' ws' d := by
  rcases h with ⟨i, hi, rfl⟩ | ⟨s, hs, rfl⟩
  · exact .inl ⟨i, hj i hi, rfl⟩
  · exact .inr ⟨s, hw s hs, rfl⟩
theorem plIn_mem {js : List Int} {ws : List Str} {d : D} (h : d ∈ js.map D.int ++ ws.map D.str) : PlIn js ws d := by
  rcases List.mem_append.mp h with h | h
  · obtain ⟨i, hi, rfl⟩ := List.mem_map.mp h
    exact .inl ⟨i, hi, rfl⟩
  · obtain ⟨i, hi, rfl⟩ := List.mem_map.mp h
    exact .inr ⟨i, hi, rfl⟩
theorem Pairs.snoc {sp js : List Int} {ws : List Str} {xs : List D} {s : Int} {r : D} (h : Pairs sp js ws xs) (hr : RowIn js ws r) : Pairs (sp ++ [s]) js ws (xs ++ [D.tup [.int s, r]]) := by
  refine ⟨by simp [h.1], fun i x hx => ?_⟩
  by_cases hi : i < xs.length
  · rw [List.getElem?_append_left hi] at hx
    obtain ⟨s', r', e1, e2, e3⟩ := h.2 i x hx
    exact ⟨s', r', by rw [List.getElem?_append_left (by rw [← h.1]; exact hi)]; exact e1, e2, e3⟩
  · rw [List.getElem?_append_right (by omega)] at hx
    have : i - xs.length = 0 := by
      rcases Nat.eq_zero_or_pos (i - xs.length) with h | h
      · exact h
      · rw [List.getElem?_eq_none (by simp; omega)] at hx; cases hx
    rw [this] at hx
    cases hx
    have hi2 : i = sp.length := by rw [← h.1]; omega
    subst hi2
    exact ⟨s, r, by simp, rfl, hr⟩
def f_law_way : DF := fun ds O q _ => ∃ (p : Addr) (sp ps cs as : List Int) (u : Str) (ws : List Str) (m : Int), ds = [.ref p, .lst (sp.map D.int), .lst (ps.map D.int), .lst (cs.map D.int), .lst (as.map D.int), .lst ((u :: ws).map D.str)] ∧ Bag O p m ∧ m < 2 ^ 38 ∧
  sp.length ≤ 100 ∧ as.length ≤ 100 ∧ ws.length ≤ 10 ∧ sp.length ≤ ps.length ∧ sp.length ≤ cs.length ∧ BitL ps ∧ ∀ (xs : List D) (O' : Ow), Pairs sp (sp ++ as) (u :: ws) xs → Ex p O O' → Bag O' p (m + 1 + sp.length) → q (.lst xs) O'
abbrev N_law_way : List Str := ["_law_bag_here", "_law_spots", "_law_puts_here", "_law_clean_here", "_law_aside_here", "_law_words", "_law_found", "_law_is_ring", "_law_at", "_law_spot_here", "_law_follow", "_law_some", "_law_other"]
abbrev P_law_way : List Str := ["_law_bag_here", "_law_spots", "_law_puts_here", "_law_clean_here", "_law_aside_here", "_law_words"]
theorem sc_law_way : FnScope N_law_way P_law_way (defScope s_law_way) := ⟨rfl, rfl, rfl, by decide +kernel, rfl, by decide +kernel, by decide +kernel⟩
theorem bd_law_way : Bd0 "_law_way" "_law_way" s_law_way P_law_way := fun _ _ _ _ _ _ us hl => match us, hl with | [_, _, _, _, _, _], _ => rfl
abbrev Fn_law_way (P : Program) (w : World) (K : Frag) (mg : Str → Option Value) (base : Heap) : Prop := Fn P w K mg base "_law_way" "_law_way" s_law_way [] [] P_law_way 6 2 f_law_way (He.ga K "_law_way")
structure C_law_way (P : Program) (w : World) (K : Frag) (mg : Str → Option Value) (base : Heap) : Prop where
  law_take : Fn_law_take P w K mg base
theorem ok_law_way {P : Program} {w : World} {K : Frag} {mg : Str → Option Value} {base : Heap} (F : HasD K "_law_way" "_law_way" s_law_way [] [] (He.ga K "_law_way")) (T : Txt K mg) (C : C_law_way P w K mg base) : Fn_law_way P w K mg base := by
  have sc := sc_law_way
  refine fn_E (k := 1) F sc rfl fun cdv A outer s H E O0 H0 F0 ds O q xx hl hf S => ⟨_,
      (ds_cons (ds_par (ps_par (i := 6) (j := 7) rfl sc.nd rfl rfl (by decide) rfl rfl (da_cons (de_lstO da_nil) (da_cons (so_eq S (so_callF S C.law_take (by decide) T.g_law_take bd_law_take rfl (da_cons (de_var (pv 0)) (da_cons de_int da_nil))) de_int) da_nil)) (by rfl)))
      (ds_cons (ds_for (ps_for S.po rfl (di_enum S rfl T.b_enumerate (de_var (pv 1))) (dg_tup rfl rfl (dgs_cons (dg_name (pg_name (i := 8) sc.nd rfl (by first | exact Or.inl rfl | exact Or.inr rfl))) (dgs_cons (dg_name (pg_name (i := 9) sc.nd rfl (by first | exact Or.inl rfl | exact Or.inr rfl))) dgs_nil)))
       (ds_cons (ds_set (ps_set (i := 10) sc.nd rfl (by first | exact Or.inl rfl | exact Or.inr rfl) (so_ix S (so_add S (de_var (pv 1)) (de_lst (da_cons (so_ix S (de_var (pv 5)) de_int (fun _ _ => rfl)) da_nil))) (so_add S (de_var (pv 8)) de_int) (fun _ _ => rfl))))
       (ds_cons (ds_set (ps_set (i := 11) sc.nd rfl (by first | exact Or.inl rfl | exact Or.inr rfl) (so_add S (so_add S (de_if (st_tru S (de_var (pv 7))) (de_var (pv 1)) (de_slice rfl (de_var (pv 1)) (do_some (so_add S (de_var (pv 8)) de_int)) do_none)) (de_var (pv 4))) (de_var (pv 5)))))
       (ds_cons (ds_set (ps_set (i := 12) sc.nd rfl (by first | exact Or.inl rfl | exact Or.inr rfl) (so_ix S (de_var (pv 11)) (so_callF S C.law_take (by decide) T.g_law_take bd_law_take rfl (da_cons (de_var (pv 0)) (da_cons (so_len S rfl T.b_len (da_cons (de_var (pv 11)) da_nil)) da_nil))) (fun _ _ => rfl))))
       (ds_one (ds_expr (so_append S (de_var (pv 6)) (da_cons (de_tup (da_cons (de_var (pv 9)) (da_cons (de_if (st_eq S (so_ix S (de_var (pv 3)) (de_var (pv 8)) (fun _ _ => rfl)) de_int) (de_tup (da_cons (so_ix S (de_var (pv 2)) (de_var (pv 8)) (fun _ _ => rfl)) (da_cons (de_var (pv 10)) (da_cons (de_var (pv 12)) da_nil)))) (de_tup (da_cons (so_ix S (de_var (pv 2)) (de_var (pv 8)) (fun _ _ => rfl)) (da_cons (de_var (pv 12)) (da_cons (de_var (pv 10)) da_nil))))) da_nil))) da_nil)))))))))
      (ds_one (ds_ret (de_ice (de_var (pv 6)))))))
      , ?_⟩
  obtain ⟨p, sp, ps, cs, as, u, ws, m, rfl, hb, hm, l1, l2, l3, l4, l5, hbit, hq⟩ := hf
  walk_at "dl"
  intro pf hpf
  walk_at "dl"
  have hne := hb.off hpf
  have hb0 := hb.put (o := .lst []) hne
  refine ⟨rfl, p, 4, _, rfl, hb0, by omega, by decide, by decide, fun y o1 hy0 hy1 hb1 => ?_⟩
  have X1 : Ex p O (setO (setO O pf (.lst [])) p o1) := (Ex.refl.mine hpf).set
  have at1 : (setO (setO O pf (.lst [])) p o1) pf = some (.lst []) := by rw [setO_ne hne]; exact setO_same
  generalize setO (setO O pf (.lst [])) p o1 = O1 at hb1 X1 at1 ⊢
  walk_at "dl"
  generalize hring : decide (y = 0) = ring
  refine forGo_inv (fun i env O' => ∃ (xs : List D) (x8 x9 x10 x11 x12 : Option D), env = [some (.ref p), some (.lst (sp.map D.int)), some (.lst (ps.map D.int)), some (.lst (cs.map D.int)), some (.lst (as.map D.int)), some (.lst ((u :: ws).map D.str)), some (.ref pf), some (.bl ring), x8, x9, x10, x11, x12] ∧
      Ex p O O' ∧ Bag O' p (m + 1 + i) ∧ O' pf = some (.lst xs) ∧ Pairs (sp.take i) (sp ++ as) (u :: ws) xs) ⟨[], none, none, none, none, none, rfl, X1, by simpa using hb1, at1, by simp [Pairs]⟩ (fun _ _ _ _ _ => trivial) ?_ ?_
  · rintro N i x env O2 hx ⟨xs, x8, x9, x10, x11, x12, rfl, X2, hb2, at2, hxs⟩ hN
    rw [enumD_get, List.getElem?_map] at hx
    cases hs : sp[i]? with
    | none => rw [hs] at hx; cases hx
    | some s =>
    rw [hs] at hx
    cases hx
    have hi : i < sp.length := (List.getElem?_eq_some_iff.mp hs).1
    walk_at "dl"
    refine i_ixL (d := .str u) (atI_nat (j := 0) rfl) ?_
    walk_at "dl"
    refine i_addL (line_ok (by simp; omega)) ?_
    walk_at "dl"
    obtain ⟨fo, e1, e2⟩ := atI_in (ds := sp.map D.int ++ [.str u]) (i := (i : Int) + 1) (by omega) (by simp; omega)
    refine i_ixL e2 ?_
    have hfo : PlIn (sp ++ as) (u :: ws) fo := by
      have := List.mem_of_getElem? e1
      rcases List.mem_append.mp this with h | h
      · obtain ⟨j, hj, rfl⟩ := List.mem_map.mp h
        exact .inl ⟨j, List.mem_append_left _ hj, rfl⟩
      · simp only [List.mem_cons, List.mem_nil_iff, or_false] at h
        subst h
        exact .inr ⟨u, List.mem_cons_self, rfl⟩
    walk_at "dl"
    refine join (fun d => ∃ js : List Int, d = .lst (js.map D.int) ∧ js.length ≤ sp.length ∧ ∀ j ∈ js, j ∈ sp) ?_ fun q' hq' => ?_
    case refine_2 =>
      walk_at "dw"
      cases ring with
      | true =>
        refine iteT ?_
        walk_at "dl"
        exact hq' _ ⟨sp, rfl, Nat.le_refl _, fun j h => h⟩
      | false =>
        refine iteF ?_
        walk_at "dl"
        refine hq' _ ⟨(sp.drop (HT.sIx sp.length 0 (some ((i : Int) + 1)))).take (HT.sIx sp.length sp.length none - HT.sIx sp.length 0 (some ((i : Int) + 1))), ?_, ?_, fun j h => List.mem_of_mem_drop (List.mem_of_mem_take h)⟩
        · simp only [DL.cutD, List.length_map, List.map_take, List.map_drop]
        · rw [List.length_take, List.length_drop]; omega
    rintro _ ⟨js, rfl, hjl, hjs⟩
    walk_at "dl"
    refine i_addL (line_ok (by simp; omega)) ?_
    walk_at "dl"
    refine i_addL (line_ok (by simp; omega)) ?_
    walk_at "dl"
    generalize hso : js.map D.int ++ as.map D.int ++ (u :: ws).map D.str = so
    have hsl : 0 < so.length ∧ so.length < 1000 := by
      rw [← hso]
      simp only [List.length_append, List.length_map, List.length_cons]
      omega
    refine ⟨rfl, p, so.length, _, rfl, hb2, by omega, by omega, by omega, fun z o2 hz0 hz1 hb3 => ?_⟩
    obtain ⟨ot, f1, f2⟩ := atI_in (ds := so) hz0 hz1
    have hot : PlIn (sp ++ as) (u :: ws) ot := by
      have := List.mem_of_getElem? f1
      rw [← hso, ← List.map_append] at this
      exact (plIn_mem this).mono (fun j hj => by
        rcases List.mem_append.mp hj with h | h
        · exact List.mem_append_left _ (hjs j h)
        · exact List.mem_append_right _ h) fun s h => h
    refine i_ixL f2 ?_
    have X3 : Ex p O (setO O2 p o2) := X2.set
    have at3 : (setO O2 p o2) pf = some (.lst xs) := by rw [setO_ne hne]; exact at2
    generalize setO O2 p o2 = O3 at hb3 X3 at3 ⊢
    obtain ⟨pu, g1, g2⟩ := atI_in (ds := ps.map D.int) (i := (i : Int)) (by omega) (by simp; omega)
    obtain ⟨b, hb', rfl⟩ := map_get g1
    have hbb := hbit b (List.mem_of_getElem? hb')
    obtain ⟨cu, c1, c2⟩ := atI_in (ds := cs.map D.int) (i := (i : Int)) (by omega) (by simp; omega)
    obtain ⟨cl, _, rfl⟩ := map_get c1
    walk_at "dl"
    refine join (fun d => RowIn (sp ++ as) (u :: ws) d) ?_ fun q' hq' => ?_
    case refine_2 =>
      walk_at "dw"
      refine i_ixL c2 ?_
      walk_at "dw"
      refine if_d (fun h => ?_) (fun h => ?_)
      · walk_at "dl"
        refine i_ixL g2 ?_
        walk_at "dl"
        exact hq' _ ⟨b, fo, ot, rfl, hbb, hfo, hot⟩
      · walk_at "dl"
        refine i_ixL g2 ?_
        walk_at "dl"
        exact hq' _ ⟨b, ot, fo, rfl, hbb, hot, hfo⟩
    rintro row hrow
    walk_at "dl"
    · exact Nat.lt_of_le_of_lt (Nat.le_of_eq hxs.1) (by rw [List.length_take, sizeLine_eq]; omega)
    refine hN _ _ _ (.refl _) ⟨_, _, _, _, _, _, rfl, X3.mine hpf, (hb3.put hne).mono (by omega), setO_same, ?_⟩
    rw [List.take_add_one, hs]
    exact hxs.snoc hrow
  · rintro env O2 ⟨xs, x8, x9, x10, x11, x12, rfl, X2, hb2, at2, hxs⟩
    rw [enumD_len, List.length_map] at hb2 hxs
    rw [List.take_length] at hxs
    walk_at "dl"
    exact rt_same (hq xs _ hxs (X2.del hpf) (hb2.del hne))
end
end K24

set_option Elab.async false
set_option linter.all false
set_option maxRecDepth 100000
set_option maxHeartbeats 4000000
namespace K24
open PySem PySem.Spec PyProof.Rows L2 DL
open ClX (CRead CVal)
local macro_rules | `(tactic| walk_at "d1") => `(tactic| first | ((with_reducible apply i_var); exact rfl) | ((with_reducible apply i_gtup); exact rfl) | ((with_reducible apply i_augI); exact rfl) | ((with_reducible apply i_ixT); exact rfl) | ((with_reducible apply i_ixL); exact rfl) | with_reducible refine i_seq ?_ | with_reducible refine i_asg ?_ | with_reducible refine i_gname ?_ | with_reducible refine i_c ?_ | with_reducible refine i_op ?_ | with_reducible refine i_cb ?_ | with_reducible refine i_cons ?_ | with_reducible refine i_nil ?_ | with_reducible refine i_expr ?_ | with_reducible refine i_ret ?_ | with_reducible refine i_retN ?_ | with_reducible refine i_next ?_ | with_reducible refine i_for ?_ | with_reducible refine i_par ?_ | with_reducible refine i_test ?_ | with_reducible refine i_tup ?_ | with_reducible refine i_lst ?_ | ((with_reducible refine i_sz ?_ ?_); (focus exact Nat.le_of_ble_eq_true rfl)) | with_reducible refine i_lstO ?_ | with_reducible refine i_break ?_ | with_reducible refine i_cont ?_ | with_reducible refine i_gnil ?_ | with_reducible refine i_gcons ?_ | with_reducible refine i_tru ?_ | with_reducible refine i_and ?_ | with_reducible refine i_or ?_ | with_reducible refine i_not ?_ | with_reducible refine i_andV ?_ | with_reducible refine i_orV ?_ | with_reducible refine i_notV ?_ | with_reducible refine i_neg ?_ | with_reducible refine i_chain ?_ | with_reducible refine i_call ?_ | with_reducible refine i_callK ?_ | with_reducible refine i_append ?_ | with_reducible refine i_gsub ?_ | with_reducible refine i_sl ?_ | with_reducible refine i_slT ?_ | with_reducible refine i_slL ?_ | with_reducible refine i_oN ?_ | with_reducible refine i_oS ?_ | with_reducible refine i_lc ?_ | with_reducible refine i_lcO ?_ | with_reducible refine i_yes ?_ | with_reducible refine i_listRg1 ?_ | with_reducible refine i_rg1 ?_ | with_reducible refine i_rg2 ?_ | with_reducible refine i_seqI ?_ | with_reducible refine i_seqT ?_ | with_reducible refine i_seqL ?_ | with_reducible refine i_lt ?_ | with_reducible refine i_le ?_ | with_reducible refine i_gt ?_ | with_reducible refine i_ge ?_ | with_reducible refine i_sub ?_ | with_reducible refine i_addI ?_ | with_reducible refine i_int ?_ | with_reducible refine i_intb ?_ | with_reducible refine i_abs ?_ | with_reducible refine i_min2 ?_ | with_reducible refine i_max2 ?_ | with_reducible refine i_isN ?_ | with_reducible refine i_notN ?_ | with_reducible refine i_lenL ?_ | with_reducible refine i_lenT ?_ | ((with_reducible apply i_ixO); (focus (first | assumption | exact setO_same | (rw [setO_ne (by assumption)]; first | assumption | exact setO_same))); exact rfl) | ((with_reducible apply i_lenO); (focus (first | assumption | exact setO_same | (rw [setO_ne (by assumption)]; first | assumption | exact setO_same)))) | ((with_reducible apply i_appK); (focus (first | assumption | exact setO_same | (rw [setO_ne (by assumption)]; first | assumption | exact setO_same)))) | ((with_reducible apply i_subK); (focus (first | assumption | exact setO_same | (rw [setO_ne (by assumption)]; first | assumption | exact setO_same))); exact rfl) | ((with_reducible apply i_slO); (focus (first | assumption | exact setO_same | (rw [setO_ne (by assumption)]; first | assumption | exact setO_same)))) | ((with_reducible apply i_seqO); (focus (first | assumption | exact setO_same | (rw [setO_ne (by assumption)]; first | assumption | exact setO_same)))) | ((with_reducible apply i_appK2); (focus (first | assumption | exact setO_same | (rw [setO_ne (by assumption)]; first | assumption | exact setO_same)))) | with_reducible refine i_ice ?_ | with_reducible refine i_iceL ?_ | ((with_reducible apply i_iceK); (focus (first | assumption | exact setO_same | (rw [setO_ne (by assumption)]; first | assumption | exact setO_same)))) | with_reducible refine i_fld ?_ | ((with_reducible apply i_fldK); (focus (first | assumption | exact setO_same | (rw [setO_ne (by assumption)]; first | assumption | exact setO_same))); exact rfl) | with_reducible refine i_sfld ?_ | with_reducible refine i_make ?_ | with_reducible refine i_callK0 ?_ | with_reducible refine i_enum2 ?_ | with_reducible refine i_enumL ?_ | with_reducible refine i_enumT ?_ | with_reducible refine i_par3 ?_ | with_reducible refine i_dsp2 ?_ | ((with_reducible apply i_isi (b := true)); exact rfl; exact rfl; exact rfl) | ((with_reducible apply i_isi (b := false)); exact rfl; exact rfl; exact rfl) | with_reducible refine i_eqI ?_ | with_reducible refine i_neI ?_ | with_reducible refine i_truB ?_ | ((with_reducible apply i_fldI); exact rfl) | with_reducible refine i_iceI ?_ | with_reducible refine i_join ?_ | with_reducible refine i_dict0 ?_ | with_reducible refine i_isiI ?_ | with_reducible refine i_ownIn ?_ | with_reducible refine i_ownEq ?_ | with_reducible refine i_ownLen ?_ | with_reducible refine i_ownStr ?_ | with_reducible refine i_strS ?_ | with_reducible refine i_fmt ?_ | with_reducible refine i_pop ?_ | with_reducible refine i_listRg2 ?_ | with_reducible refine i_listRg2O ?_ | ((with_reducible apply i_popK); (focus (first | assumption | exact setO_same | (rw [setO_ne (by assumption)]; first | assumption | exact setO_same)))) | with_reducible refine i_raise ?_ | with_reducible refine i_tryAs ?_ | with_reducible refine i_xf ?_ | ((with_reducible apply i_xfK); exact rfl) | with_reducible refine i_js ?_ | with_reducible refine i_js0 ?_ | with_reducible refine i_makeK0 ?_ | with_reducible refine i_own ?_ | with_reducible refine i_ownT ?_ | with_reducible refine i_lenZ ?_ | with_reducible refine i_sortZ ?_ | with_reducible refine i_setL ?_ | with_reducible refine i_sc ?_ | with_reducible refine i_key ?_ | with_reducible refine i_revL ?_ | with_reducible refine i_revT ?_ | with_reducible refine i_zip ?_ | with_reducible refine i_ltAI ?_ | with_reducible refine i_ltAS ?_ | with_reducible refine i_inRg1 ?_ | with_reducible refine i_inRg2 ?_ | with_reducible refine i_listRg1O ?_ | with_reducible refine i_tryM ?_ | with_reducible refine i_xi ?_ | with_reducible refine i_split ?_ | with_reducible refine i_m0 ?_ | with_reducible refine i_m0K ?_ | with_reducible refine i_starA ?_ | with_reducible refine i_cm ?_ | with_reducible refine i_cmK ?_ | ((with_reducible apply i_makeL); exact rfl) | with_reducible refine i_int2I ?_ | with_reducible refine i_int2B ?_ | with_reducible refine i_clear ?_ | ((with_reducible apply i_clearK); (focus (first | assumption | exact setO_same | (rw [setO_ne (by assumption)]; first | assumption | exact setO_same)))) | with_reducible refine i_meth ?_ | with_reducible refine i_dput ?_ | with_reducible refine i_dict0N ?_ | with_reducible refine i_dc ?_ | with_reducible refine i_dct ?_ | with_reducible refine i_ckw ?_ | with_reducible refine i_iceA ?_ | with_reducible refine i_get2 ?_ | with_reducible refine i_prop ?_ | with_reducible refine i_propI ?_ | ((with_reducible apply i_methI); exact rfl) | ((with_reducible apply i_methO); (focus (first | assumption | exact setO_same | (rw [setO_ne (by assumption)]; first | assumption | exact setO_same))); exact rfl))
local macro_rules | `(tactic| walk_at "dl") => `(tactic| repeat (walk_at "d1"))
local macro_rules | `(tactic| walk_at "dw") => `(tactic| repeat (first | with_reducible refine i_if ?_ | with_reducible refine i_ifE ?_ | walk_at "d1"))

section
variable {P : Program} {w : World} {K : Frag} {mg : Str → Option Value} {base : Heap}
def f_law_aside : DF := fun ds O q _ => ∃ (p : Addr) (sp : List Int) (u : Str) (ws : List Str) (strong : Bool) (m : Int), ds = [.ref p, .lst (sp.map D.int), .lst ((u :: ws).map D.str), .bl strong] ∧ Bag O p m ∧ m < 2 ^ 38 ∧
  sp.length ≤ 100 ∧ ws.length ≤ 10 ∧ ∀ (xs : List D) (O' : Ow), Pairs sp sp (u :: ws) xs → Ex p O O' → Bag O' p (m + 3 * sp.length) → q (.lst xs) O'
abbrev N_law_aside : List Str := ["_law_bag_here", "_law_spots", "_law_words", "_law_is_strong", "_law_found", "_law_at", "_law_spot_here", "_law_some", "_law_put"]
abbrev P_law_aside : List Str := ["_law_bag_here", "_law_spots", "_law_words", "_law_is_strong"]
theorem sc_law_aside : FnScope N_law_aside P_law_aside (defScope s_law_aside) := ⟨rfl, rfl, rfl, by decide +kernel, rfl, by decide +kernel, by decide +kernel⟩
theorem bd_law_aside : Bd0 "_law_aside" "_law_aside" s_law_aside P_law_aside := fun _ _ _ _ _ _ us hl => match us, hl with | [_, _, _, _], _ => rfl
abbrev Fn_law_aside (P : Program) (w : World) (K : Frag) (mg : Str → Option Value) (base : Heap) : Prop := Fn P w K mg base "_law_aside" "_law_aside" s_law_aside [] [] P_law_aside 4 2 f_law_aside (He.ga K "_law_aside")
structure C_law_aside (P : Program) (w : World) (K : Frag) (mg : Str → Option Value) (base : Heap) : Prop where
  law_take : Fn_law_take P w K mg base
theorem ok_law_aside {P : Program} {w : World} {K : Frag} {mg : Str → Option Value} {base : Heap} (F : HasD K "_law_aside" "_law_aside" s_law_aside [] [] (He.ga K "_law_aside")) (T : Txt K mg) (C : C_law_aside P w K mg base) : Fn_law_aside P w K mg base := by
  have sc := sc_law_aside
  refine fn_E (k := 1) F sc rfl fun cdv A outer s H E O0 H0 F0 ds O q xx hl hf S => ⟨_,
      (ds_cons (ds_set (ps_set (i := 4) sc.nd rfl (by first | exact Or.inl rfl | exact Or.inr rfl) (de_lstO da_nil)))
      (ds_cons (ds_for (ps_for S.po rfl (di_enum S rfl T.b_enumerate (de_var (pv 1))) (dg_tup rfl rfl (dgs_cons (dg_name (pg_name (i := 5) sc.nd rfl (by first | exact Or.inl rfl | exact Or.inr rfl))) (dgs_cons (dg_name (pg_name (i := 6) sc.nd rfl (by first | exact Or.inl rfl | exact Or.inr rfl))) dgs_nil)))
       (ds_cons (ds_set (ps_set (i := 7) sc.nd rfl (by first | exact Or.inl rfl | exact Or.inr rfl) (so_add S (de_slice rfl (de_var (pv 1)) (do_some (so_add S (de_var (pv 5)) de_int)) do_none) (de_var (pv 2)))))
       (ds_cons (ds_set (ps_set (i := 8) sc.nd rfl (by first | exact Or.inl rfl | exact Or.inr rfl) (de_if (st_tru S (de_var (pv 3))) (so_int S rfl T.b_int (da_cons (so_eq S (so_callF S C.law_take (by decide) T.g_law_take bd_law_take rfl (da_cons (de_var (pv 0)) (da_cons de_int da_nil))) de_int) da_nil)) (so_callF S C.law_take (by decide) T.g_law_take bd_law_take rfl (da_cons (de_var (pv 0)) (da_cons de_int da_nil))))))
       (ds_one (ds_expr (so_append S (de_var (pv 4)) (da_cons (de_tup (da_cons (de_var (pv 6)) (da_cons (de_tup (da_cons (de_var (pv 8)) (da_cons (so_ix S (de_var (pv 7)) (so_callF S C.law_take (by decide) T.g_law_take bd_law_take rfl (da_cons (de_var (pv 0)) (da_cons (so_len S rfl T.b_len (da_cons (de_var (pv 7)) da_nil)) da_nil))) (fun _ _ => rfl)) (da_cons (so_ix S (de_var (pv 7)) (so_callF S C.law_take (by decide) T.g_law_take bd_law_take rfl (da_cons (de_var (pv 0)) (da_cons (so_len S rfl T.b_len (da_cons (de_var (pv 7)) da_nil)) da_nil))) (fun _ _ => rfl)) da_nil)))) da_nil))) da_nil))))))))
      (ds_one (ds_ret (de_ice (de_var (pv 4)))))))
      , ?_⟩
  obtain ⟨p, sp, u, ws, strong, m, rfl, hb, hm, l1, l3, hq⟩ := hf
  walk_at "dl"
  intro pf hpf
  have hne := hb.off hpf
  have hb1 := hb.put (o := .lst []) hne
  have X1 : Ex p O (setO O pf (.lst [])) := Ex.refl.mine hpf
  have at1 : (setO O pf (.lst [])) pf = some (.lst []) := setO_same
  generalize setO O pf (.lst []) = O1 at hb1 X1 at1 ⊢
  walk_at "dl"
  refine forGo_inv (fun i env O' => ∃ (xs : List D) (x5 x6 x7 x8 : Option D), env = [some (.ref p), some (.lst (sp.map D.int)), some (.lst ((u :: ws).map D.str)), some (.bl strong), some (.ref pf), x5, x6, x7, x8] ∧
      Ex p O O' ∧ Bag O' p (m + 3 * i) ∧ O' pf = some (.lst xs) ∧ Pairs (sp.take i) sp (u :: ws) xs) ⟨[], none, none, none, none, rfl, X1, by simpa using hb1, at1, by simp [Pairs]⟩ (fun _ _ _ _ _ => trivial) ?_ ?_
  · rintro N i x env O2 hx ⟨xs, x5, x6, x7, x8, rfl, X2, hb2, at2, hxs⟩ hN
    rw [enumD_get, List.getElem?_map] at hx
    cases hs : sp[i]? with
    | none => rw [hs] at hx; cases hx
    | some s =>
    rw [hs] at hx
    cases hx
    have hi : i < sp.length := (List.getElem?_eq_some_iff.mp hs).1
    walk_at "dl"
    have hcut : ∃ js : List Int, DL.cutD (sp.map D.int) (some ((i : Int) + 1)) none = js.map D.int ∧ js.length ≤ sp.length ∧ ∀ j ∈ js, j ∈ sp := by
      refine ⟨(sp.drop (HT.sIx sp.length 0 (some ((i : Int) + 1)))).take (HT.sIx sp.length sp.length none - HT.sIx sp.length 0 (some ((i : Int) + 1))), ?_, ?_, fun j h => List.mem_of_mem_drop (List.mem_of_mem_take h)⟩
      · simp only [DL.cutD, List.length_map, List.map_take, List.map_drop]
      · rw [List.length_take, List.length_drop]; omega
    obtain ⟨js, ejs, hjl, hjs⟩ := hcut
    rw [ejs]
    refine i_addL (line_ok (by simp; omega)) ?_
    walk_at "dl"
    generalize hso : js.map D.int ++ (u :: ws).map D.str = so
    have hsl : 0 < so.length ∧ so.length < 1000 := by
      rw [← hso]
      simp only [List.length_append, List.length_map, List.length_cons]
      omega
    have hpl : ∀ d ∈ so, PlIn sp (u :: ws) d := fun d hd => by
      rw [← hso] at hd
      exact (plIn_mem hd).mono hjs fun s h => h
    refine joinO (fun d O3 => ∃ b : Int, d = .int b ∧ (b = 0 ∨ b = 1) ∧ Ex p O O3 ∧ Bag O3 p (m + 3 * i + 1) ∧ O3 pf = some (.lst xs)) ?_ fun N' hN' => ?_
    case refine_2 =>
      walk_at "dw"
      cases strong with
      | true =>
        refine iteT ?_
        walk_at "dl"
        refine ⟨rfl, p, 3, _, rfl, hb2, by omega, by decide, by decide, fun z o2 hz0 hz1 hb3 => ?_⟩
        walk_at "dl"
        exact hN' _ _ ⟨_, rfl, by split <;> simp, X2.set, hb3.mono (by omega), by rw [setO_ne hne]; exact at2⟩
      | false =>
        refine iteF ?_
        walk_at "dl"
        refine ⟨rfl, p, 2, _, rfl, hb2, by omega, by decide, by decide, fun z o2 hz0 hz1 hb3 => ?_⟩
        exact hN' _ _ ⟨_, rfl, by omega, X2.set, hb3.mono (by omega), by rw [setO_ne hne]; exact at2⟩
    rintro _ O3 ⟨b, rfl, hbb, X3, hb3, at3⟩
    walk_at "dl"
    refine ⟨rfl, p, so.length, _, rfl, hb3, by omega, by omega, by omega, fun z o2 hz0 hz1 hb4 => ?_⟩
    obtain ⟨p1, f1, f2⟩ := atI_in (ds := so) hz0 hz1
    refine i_ixL f2 ?_
    walk_at "dl"
    refine ⟨rfl, p, so.length, _, rfl, hb4, by omega, by omega, by omega, fun z o3 hz0 hz1 hb5 => ?_⟩
    obtain ⟨p2, f3, f4⟩ := atI_in (ds := so) hz0 hz1
    refine i_ixL f4 ?_
    rw [setO_setO] at hb5 ⊢
    have X5 : Ex p O (setO O3 p o3) := X3.set
    have at5 : (setO O3 p o3) pf = some (.lst xs) := by rw [setO_ne hne]; exact at3
    generalize setO O3 p o3 = O5 at hb5 X5 at5 ⊢
    walk_at "dl"
    · exact Nat.lt_of_le_of_lt (Nat.le_of_eq hxs.1) (by rw [List.length_take, sizeLine_eq]; omega)
    refine hN _ _ _ (.refl _) ⟨_, _, _, _, _, rfl, X5.mine hpf, (hb5.put hne).mono (by omega), setO_same, ?_⟩
    rw [List.take_add_one, hs]
    exact hxs.snoc ⟨b, p1, p2, rfl, hbb, hpl p1 (List.mem_of_getElem? f1), hpl p2 (List.mem_of_getElem? f3)⟩
  · rintro env O2 ⟨xs, x5, x6, x7, x8, rfl, X2, hb2, at2, hxs⟩
    rw [enumD_len, List.length_map] at hb2 hxs
    rw [List.take_length] at hxs
    walk_at "dl"
    exact rt_same (hq xs _ hxs (X2.del hpf) (hb2.del hne))
/-! ### sorted by the index -/
theorem zs_app {a b c : Int} (h1 : a ≤ b) (h2 : b ≤ c) : zs a c = zs a b ++ zs b c := by
  unfold zs
  have e : (c - a).toNat = (b - a).toNat + (c - b).toNat := by omega
  rw [e, List.range_add, List.map_append, List.map_map]
  congr 1
  apply List.map_congr_left
  intro k _
  simp only [Function.comp_apply]
  omega
theorem zs_one {a : Int} : zs a (a + 1) = [a] := by
  unfold zs
  have e : (a + 1 - a).toNat = 1 := by omega
  rw [e]
  simp [List.range_succ]
theorem zs_cons' {a c : Int} (h : a < c) : zs a c = a :: zs (a + 1) c := by
  rw [zs_app (b := a + 1) (by omega) (by omega), zs_one]
  rfl
theorem zs_sorted (a c : Int) : (zs a c).Pairwise (· ≤ ·) := by
  unfold zs
  rw [List.pairwise_map]
  exact List.pairwise_lt_range.imp fun h => by omega
/-- the second item -/
def snd2 : D → D
  | .tup [_, r] => r
  | d => d
theorem srt_rows {xs : List D} {ks : List Int} {N : Nat} (hl : xs.length = ks.length) (hk : ∀ (i : Nat) (x : D), xs[i]? = some x → ∃ s r, ks[i]? = some s ∧ x = .tup [.int s, r]) (hp : ks.Perm (zs 0 N)) :
    (srtK xs).length = N ∧ ∀ (i : Nat) (x : D), (srtK xs)[i]? = some x → ∃ r, x = .tup [.int (i : Nat), r] ∧ x ∈ xs := by
  have hm : xs.map kI = ks := by
    apply List.ext_getElem?
    intro i
    rw [List.getElem?_map]
    cases e : xs[i]? with
    | none =>
      have := List.getElem?_eq_none_iff.mp e
      rw [List.getElem?_eq_none (by omega)]
      rfl
    | some x =>
      obtain ⟨s, r, e1, rfl⟩ := hk i x e
      rw [e1]; rfl
  have hperm : (srtK xs).Perm xs := List.mergeSort_perm _ _
  have hkp : ((srtK xs).map kI).Perm (zs 0 N) := (hperm.map kI).trans (by rw [hm]; exact hp)
  have hs : ((srtK xs).map kI).Pairwise (· ≤ ·) := by
    rw [srtK_eq, List.pairwise_map]
    refine (List.pairwise_mergeSort (le := fun a b : D => decide (kI a ≤ kI b)) ?_ ?_ xs).imp fun h => of_decide_eq_true h
    · intro a b c h1 h2
      simp only [decide_eq_true_eq] at h1 h2 ⊢
      omega
    · intro a b
      simp only [Bool.or_eq_true, decide_eq_true_eq]
      omega
  have he : (srtK xs).map kI = zs 0 N := List.Perm.eq_of_pairwise (fun a b _ _ h1 h2 => by omega) hs (zs_sorted 0 N) hkp
  have hlen : (srtK xs).length = N := by
    have := congrArg List.length he
    rw [List.length_map, zs_len] at this
    omega
  refine ⟨hlen, fun i x hx => ?_⟩
  have hmem : x ∈ xs := hperm.mem_iff.mp (List.mem_of_getElem? hx)
  obtain ⟨j, hj⟩ := List.mem_iff_getElem?.mp hmem
  obtain ⟨s, r, _, rfl⟩ := hk j x hj
  have h1 : ((srtK xs).map kI)[i]? = some s := by rw [List.getElem?_map, hx]; rfl
  have hi : i < N := by rw [← hlen]; exact (List.getElem?_eq_some_iff.mp hx).1
  rw [he] at h1
  unfold zs at h1
  rw [List.getElem?_map, List.getElem?_range (by omega)] at h1
  simp only [Option.map_some, Option.some.injEq] at h1
  have : s = (i : Nat) := by omega
  subst this
  exact ⟨r, rfl, hmem⟩
theorem Pairs.app {s1 s2 js1 js2 : List Int} {w1 w2 : List Str} {x1 x2 : List D} (h1 : Pairs s1 js1 w1 x1) (h2 : Pairs s2 js2 w2 x2) :
    (x1 ++ x2).length = (s1 ++ s2).length ∧ ∀ (i : Nat) (x : D), (x1 ++ x2)[i]? = some x → ∃ s r, (s1 ++ s2)[i]? = some s ∧ x = .tup [.int s, r] := by
  refine ⟨by simp [h1.1, h2.1], fun i x hx => ?_⟩
  by_cases hi : i < x1.length
  · rw [List.getElem?_append_left hi] at hx
    obtain ⟨s, r, e1, e2, _⟩ := h1.2 i x hx
    exact ⟨s, r, by rw [List.getElem?_append_left (by rw [← h1.1]; exact hi)]; exact e1, e2⟩
  · rw [List.getElem?_append_right (by omega)] at hx
    obtain ⟨s, r, e1, e2, _⟩ := h2.2 _ x hx
    exact ⟨s, r, by rw [List.getElem?_append_right (by rw [← h1.1]; omega), ← h1.1]; exact e1, e2⟩
theorem Pairs.key {sp js : List Int} {ws : List Str} {xs : List D} {i : Int} {r : D} (h : Pairs sp js ws xs) (hm : .tup [.int i, r] ∈ xs) : i ∈ sp ∧ RowIn js ws r := by
  obtain ⟨j, hj⟩ := List.mem_iff_getElem?.mp hm
  obtain ⟨s, r', e1, e2, e3⟩ := h.2 j _ hj
  cases e2
  exact ⟨List.mem_of_getElem? e1, e3⟩
theorem RowIn.rowB {js : List Int} {ws ws' : List Str} {r : D} {N : Nat} (h : RowIn js ws r) (hj : ∀ i ∈ js, 0 ≤ i ∧ i < (N : Int)) (hw : ∀ s ∈ ws, s ∈ ws') : rowB N ws' r = true := by
  obtain ⟨b, p, q, rfl, hb, hp, hq⟩ := h
  have key : ∀ d, PlIn js ws d → plB N ws' d = true := by
    rintro d (⟨i, hi, rfl⟩ | ⟨s, hs, rfl⟩)
    · have := hj i hi
      simp only [plB, Bool.and_eq_true, decide_eq_true_eq]
      exact this
    · simp only [plB]
      exact List.contains_iff_mem.mpr (hw s hs)
  have hbb : bitB (.int b) = true := by rcases hb with rfl | rfl <;> rfl
  simp only [DL.rowB, hbb, key p hp, key q hq, Bool.and_self]
theorem RowIn.closed {js : List Int} {ws : List Str} {r : D} {wd : Str} (h : RowIn js ws r) (hw : wd ∉ ws) : nextsB js r = true ∧ noWord wd r = true := by
  obtain ⟨b, p, q, rfl, hb, hp, hq⟩ := h
  have key : ∀ d, PlIn js ws d → (match d with | .int i => js.contains i | _ => true) = true ∧ (match d with | .str s => !(s == wd) | _ => true) = true := by
    rintro d (⟨i, hi, rfl⟩ | ⟨s, hs, rfl⟩)
    · exact ⟨List.contains_iff_mem.mpr hi, rfl⟩
    · refine ⟨rfl, ?_⟩
      have : s ≠ wd := fun z => hw (z ▸ hs)
      simp [this]
  obtain ⟨a1, a2⟩ := key p hp
  obtain ⟨b1, b2⟩ := key q hq
  simp only [nextsB, noWord, Bool.and_eq_true]
  exact ⟨⟨a1, b1⟩, ⟨a2, b2⟩⟩
abbrev N_law_spot : List Str := ["_law_pair"]
abbrev P_law_spot : List Str := ["_law_pair"]
theorem sc_law_spot : FnScope N_law_spot P_law_spot (defScope s_law_spot) := ⟨rfl, rfl, rfl, by decide +kernel, rfl, by decide +kernel, by decide +kernel⟩
theorem bd_law_spot : Bd0 "_law_spot" "_law_spot" s_law_spot P_law_spot := fun _ _ _ _ _ _ us hl => match us, hl with | [_], _ => rfl
abbrev Fn_law_spot (P : Program) (w : World) (K : Frag) (mg : Str → Option Value) (base : Heap) : Prop := Key0 K (He.ga K "_law_spot")
theorem ok_law_spot {P : Program} {w : World} {K : Frag} {mg : Str → Option Value} {base : Heap} (F : HasD K "_law_spot" "_law_spot" s_law_spot [] [] (He.ga K "_law_spot")) (T : Txt K mg) : Fn_law_spot P w K mg base := key0_E F sc_law_spot rfl bd_law_spot rfl (by decide)
/-- two machines as the law draws them -/
def f_law_end : DF := fun ds O q _ => ∃ (p : Addr) (most m : Int), ds = [.ref p, .int most] ∧ Bag O p m ∧ m < 2 ^ 37 ∧ 1 ≤ most ∧ most ≤ 8 ∧
  ∀ (hs ss : List D) (O' : Ow), Sound hs ss → hs.length ≤ 12 → ss.length ≤ 12 → Ex p O O' → Bag O' p (m + 200) → q (.tup [.lst hs, .lst ss]) O'
end
end K24

set_option Elab.async false
set_option linter.all false
set_option maxRecDepth 100000
set_option maxHeartbeats 4000000
namespace K24
open PySem PySem.Spec PyProof.Rows L2 DL
open ClX (CRead CVal)
local macro_rules | `(tactic| walk_at "d1") => `(tactic| first | ((with_reducible apply i_var); exact rfl) | ((with_reducible apply i_gtup); exact rfl) | ((with_reducible apply i_augI); exact rfl) | ((with_reducible apply i_ixT); exact rfl) | ((with_reducible apply i_ixL); exact rfl) | with_reducible refine i_seq ?_ | with_reducible refine i_asg ?_ | with_reducible refine i_gname ?_ | with_reducible refine i_c ?_ | with_reducible refine i_op ?_ | with_reducible refine i_cb ?_ | with_reducible refine i_cons ?_ | with_reducible refine i_nil ?_ | with_reducible refine i_expr ?_ | with_reducible refine i_ret ?_ | with_reducible refine i_retN ?_ | with_reducible refine i_next ?_ | with_reducible refine i_for ?_ | with_reducible refine i_par ?_ | with_reducible refine i_test ?_ | with_reducible refine i_tup ?_ | with_reducible refine i_lst ?_ | ((with_reducible refine i_sz ?_ ?_); (focus exact Nat.le_of_ble_eq_true rfl)) | with_reducible refine i_lstO ?_ | with_reducible refine i_break ?_ | with_reducible refine i_cont ?_ | with_reducible refine i_gnil ?_ | with_reducible refine i_gcons ?_ | with_reducible refine i_tru ?_ | with_reducible refine i_and ?_ | with_reducible refine i_or ?_ | with_reducible refine i_not ?_ | with_reducible refine i_andV ?_ | with_reducible refine i_orV ?_ | with_reducible refine i_notV ?_ | with_reducible refine i_neg ?_ | with_reducible refine i_chain ?_ | with_reducible refine i_call ?_ | with_reducible refine i_callK ?_ | with_reducible refine i_append ?_ | with_reducible refine i_gsub ?_ | with_reducible refine i_sl ?_ | with_reducible refine i_slT ?_ | with_reducible refine i_slL ?_ | with_reducible refine i_oN ?_ | with_reducible refine i_oS ?_ | with_reducible refine i_lc ?_ | with_reducible refine i_lcO ?_ | with_reducible refine i_yes ?_ | with_reducible refine i_listRg1 ?_ | with_reducible refine i_rg1 ?_ | with_reducible refine i_rg2 ?_ | with_reducible refine i_seqI ?_ | with_reducible refine i_seqT ?_ | with_reducible refine i_seqL ?_ | with_reducible refine i_lt ?_ | with_reducible refine i_le ?_ | with_reducible refine i_gt ?_ | with_reducible refine i_ge ?_ | with_reducible refine i_sub ?_ | with_reducible refine i_addI ?_ | with_reducible refine i_int ?_ | with_reducible refine i_intb ?_ | with_reducible refine i_abs ?_ | with_reducible refine i_min2 ?_ | with_reducible refine i_max2 ?_ | with_reducible refine i_isN ?_ | with_reducible refine i_notN ?_ | with_reducible refine i_lenL ?_ | with_reducible refine i_lenT ?_ | ((with_reducible apply i_ixO); (focus (first | assumption | exact setO_same | (rw [setO_ne (by assumption)]; first | assumption | exact setO_same))); exact rfl) | ((with_reducible apply i_lenO); (focus (first | assumption | exact setO_same | (rw [setO_ne (by assumption)]; first | assumption | exact setO_same)))) | ((with_reducible apply i_appK); (focus (first | assumption | exact setO_same | (rw [setO_ne (by assumption)]; first | assumption | exact setO_same)))) | ((with_reducible apply i_subK); (focus (first | assumption | exact setO_same | (rw [setO_ne (by assumption)]; first | assumption | exact setO_same))); exact rfl) | ((with_reducible apply i_slO); (focus (first | assumption | exact setO_same | (rw [setO_ne (by assumption)]; first | assumption | exact setO_same)))) | ((with_reducible apply i_seqO); (focus (first | assumption | exact setO_same | (rw [setO_ne (by assumption)]; first | assumption | exact setO_same)))) | ((with_reducible apply i_appK2); (focus (first | assumption | exact setO_same | (rw [setO_ne (by assumption)]; first | assumption | exact setO_same)))) | with_reducible refine i_ice ?_ | with_reducible refine i_iceL ?_ | ((with_reducible apply i_iceK); (focus (first | assumption | exact setO_same | (rw [setO_ne (by assumption)]; first | assumption | exact setO_same)))) | with_reducible refine i_fld ?_ | ((with_reducible apply i_fldK); (focus (first | assumption | exact setO_same | (rw [setO_ne (by assumption)]; first | assumption | exact setO_same))); exact rfl) | with_reducible refine i_sfld ?_ | with_reducible refine i_make ?_ | with_reducible refine i_callK0 ?_ | with_reducible refine i_enum2 ?_ | with_reducible refine i_enumL ?_ | with_reducible refine i_enumT ?_ | with_reducible refine i_par3 ?_ | with_reducible refine i_dsp2 ?_ | ((with_reducible apply i_isi (b := true)); exact rfl; exact rfl; exact rfl) | ((with_reducible apply i_isi (b := false)); exact rfl; exact rfl; exact rfl) | with_reducible refine i_eqI ?_ | with_reducible refine i_neI ?_ | with_reducible refine i_truB ?_ | ((with_reducible apply i_fldI); exact rfl) | with_reducible refine i_iceI ?_ | with_reducible refine i_join ?_ | with_reducible refine i_dict0 ?_ | with_reducible refine i_isiI ?_ | with_reducible refine i_ownIn ?_ | with_reducible refine i_ownEq ?_ | with_reducible refine i_ownLen ?_ | with_reducible refine i_ownStr ?_ | with_reducible refine i_strS ?_ | with_reducible refine i_fmt ?_ | with_reducible refine i_pop ?_ | with_reducible refine i_listRg2 ?_ | with_reducible refine i_listRg2O ?_ | ((with_reducible apply i_popK); (focus (first | assumption | exact setO_same | (rw [setO_ne (by assumption)]; first | assumption | exact setO_same)))) | with_reducible refine i_raise ?_ | with_reducible refine i_tryAs ?_ | with_reducible refine i_xf ?_ | ((with_reducible apply i_xfK); exact rfl) | with_reducible refine i_js ?_ | with_reducible refine i_js0 ?_ | with_reducible refine i_makeK0 ?_ | with_reducible refine i_own ?_ | with_reducible refine i_ownT ?_ | with_reducible refine i_lenZ ?_ | with_reducible refine i_sortZ ?_ | with_reducible refine i_setL ?_ | with_reducible refine i_sc ?_ | with_reducible refine i_key ?_ | with_reducible refine i_revL ?_ | with_reducible refine i_revT ?_ | with_reducible refine i_zip ?_ | with_reducible refine i_ltAI ?_ | with_reducible refine i_ltAS ?_ | with_reducible refine i_inRg1 ?_ | with_reducible refine i_inRg2 ?_ | with_reducible refine i_listRg1O ?_ | with_reducible refine i_tryM ?_ | with_reducible refine i_xi ?_ | with_reducible refine i_split ?_ | with_reducible refine i_m0 ?_ | with_reducible refine i_m0K ?_ | with_reducible refine i_starA ?_ | with_reducible refine i_cm ?_ | with_reducible refine i_cmK ?_ | ((with_reducible apply i_makeL); exact rfl) | with_reducible refine i_int2I ?_ | with_reducible refine i_int2B ?_ | with_reducible refine i_clear ?_ | ((with_reducible apply i_clearK); (focus (first | assumption | exact setO_same | (rw [setO_ne (by assumption)]; first | assumption | exact setO_same)))) | with_reducible refine i_meth ?_ | with_reducible refine i_dput ?_ | with_reducible refine i_dict0N ?_ | with_reducible refine i_dc ?_ | with_reducible refine i_dct ?_ | with_reducible refine i_ckw ?_ | with_reducible refine i_iceA ?_ | with_reducible refine i_get2 ?_ | with_reducible refine i_prop ?_ | with_reducible refine i_propI ?_ | ((with_reducible apply i_methI); exact rfl) | ((with_reducible apply i_methO); (focus (first | assumption | exact setO_same | (rw [setO_ne (by assumption)]; first | assumption | exact setO_same))); exact rfl))
local macro_rules | `(tactic| walk_at "dl") => `(tactic| repeat (walk_at "d1"))
local macro_rules | `(tactic| walk_at "dw") => `(tactic| repeat (first | with_reducible refine i_if ?_ | with_reducible refine i_ifE ?_ | walk_at "d1"))

section
variable {P : Program} {w : World} {K : Frag} {mg : Str → Option Value} {base : Heap}
theorem sum_perm {a t : Int} (ha : 1 ≤ a) (ht : 0 ≤ t) : ((0 :: zs 2 (a + 1)) ++ (1 :: zs (a + 1) (a + 1 + t))).Perm (zs 0 ((a + 1 + t).toNat : Nat)) := by
  have e : (((a + 1 + t).toNat : Nat) : Int) = a + 1 + t := by omega
  rw [e, zs_cons' (a := 0) (by omega), zs_cons' (a := 0 + 1) (by omega), zs_app (a := 0 + 1 + 1) (b := a + 1) (by omega) (by omega)]
  show (0 :: (zs 2 (a + 1) ++ 1 :: zs (a + 1) (a + 1 + t))).Perm (0 :: 1 :: (zs 2 (a + 1) ++ zs (a + 1) (a + 1 + t)))
  exact List.Perm.cons 0 List.perm_middle
theorem end_hear {a t : Int} {x1 x2 : List D} (ha : 1 ≤ a) (ht : 0 ≤ t) (h1 : Pairs (0 :: zs 2 (a + 1)) ((0 :: zs 2 (a + 1)) ++ (1 :: zs (a + 1) (a + 1 + t))) wHear x1) (h2 : Pairs (1 :: zs (a + 1) (a + 1 + t)) (1 :: zs (a + 1) (a + 1 + t)) ["lost"] x2) :
    (srtK (x1 ++ x2)).length = (a + 1 + t).toNat ∧ Mach wHear ((srtK (x1 ++ x2)).map snd2) ∧ ∃ L, Closed ((srtK (x1 ++ x2)).map snd2) 1 "taken" L := by
  obtain ⟨hl, hk⟩ := h1.app h2
  obtain ⟨hlen, hrow⟩ := srt_rows (N := (a + 1 + t).toNat) hl hk (sum_perm ha ht)
  have rng : ∀ i ∈ (0 :: zs 2 (a + 1)) ++ (1 :: zs (a + 1) (a + 1 + t)), 0 ≤ i ∧ i < (((a + 1 + t).toNat : Nat) : Int) := fun i hi => by
    have := (sum_perm ha ht).mem_iff.mp hi
    exact zs_mem this
  have get : ∀ (i : Nat) (r : D), ((srtK (x1 ++ x2)).map snd2)[i]? = some r → D.tup [.int (i : Nat), r] ∈ x1 ++ x2 := fun i r hr => by
    rw [List.getElem?_map] at hr
    obtain ⟨x, hx, rfl⟩ := Option.map_eq_some_iff.mp hr
    obtain ⟨r', rfl, hm⟩ := hrow i x hx
    exact hm
  refine ⟨hlen, fun r hr => ?_, 1 :: zs (a + 1) (a + 1 + t), List.mem_cons_self, fun i hi r hr => ?_, fun i hi r hr => ?_⟩
  · rw [List.length_map, hlen]
    obtain ⟨i, hi⟩ := List.mem_iff_getElem?.mp hr
    rcases List.mem_append.mp (get i r hi) with h | h
    · exact (h1.key h).2.rowB rng fun s h => h
    · refine RowIn.rowB (h2.key h).2 (fun i hi => rng i (List.mem_append_right _ hi)) fun s hs => ?_
      simp only [List.mem_cons, List.mem_nil_iff, or_false] at hs
      subst hs
      decide +kernel
  all_goals
    have hi0 : 0 ≤ i := (rng i (List.mem_append_right _ hi)).1
    have hm := get _ r hr
    have ei : ((i.toNat : Nat) : Int) = i := by omega
    rw [ei] at hm
    have hx2 : D.tup [.int i, r] ∈ x2 := by
      rcases List.mem_append.mp hm with h | h
      · have hk1 := (h1.key h).1
        exfalso
        rcases List.mem_cons.mp hk1 with z | z <;> rcases List.mem_cons.mp hi with y | y
        · omega
        · have := zs_mem y; omega
        · have := zs_mem z; omega
        · have := zs_mem z; have := zs_mem y; omega
      · exact h
    have := (h2.key hx2).2.closed (wd := "taken") (by decide +kernel)
  · exact this.1
  · exact this.2
theorem end_send {b t : Int} {x1 x2 : List D} (hb : 1 ≤ b) (ht : 0 ≤ t) (h1 : Pairs (zs 0 b) (zs 0 b ++ zs b (b + t)) wSend x1) (h2 : Pairs (zs b (b + t)) (zs b (b + t)) wSend x2) :
    (srtK (x1 ++ x2)).length = (b + t).toNat ∧ Mach wSend ((srtK (x1 ++ x2)).map snd2) := by
  obtain ⟨hl, hk⟩ := h1.app h2
  have e : (((b + t).toNat : Nat) : Int) = b + t := by omega
  have ez : zs 0 b ++ zs b (b + t) = zs 0 (((b + t).toNat : Nat) : Int) := by rw [e, ← zs_app (by omega) (by omega)]
  obtain ⟨hlen, hrow⟩ := srt_rows (N := (b + t).toNat) hl hk (by rw [ez])
  have rng : ∀ i ∈ zs 0 b ++ zs b (b + t), 0 ≤ i ∧ i < (((b + t).toNat : Nat) : Int) := fun i hi => by
    rw [ez] at hi
    exact zs_mem hi
  refine ⟨hlen, fun r hr => ?_⟩
  rw [List.length_map, hlen]
  obtain ⟨x, hx, rfl⟩ := List.mem_map.mp hr
  obtain ⟨i, hi⟩ := List.mem_iff_getElem?.mp hx
  obtain ⟨r', rfl, hm⟩ := hrow i x hi
  rcases List.mem_append.mp hm with h | h
  · exact (h1.key h).2.rowB rng fun s h => h
  · exact (h2.key h).2.rowB (fun i hi => rng i (List.mem_append_right _ hi)) fun s h => h
theorem pairs_tup {s1 s2 js1 js2 : List Int} {w1 w2 : List Str} {x1 x2 : List D} (h1 : Pairs s1 js1 w1 x1) (h2 : Pairs s2 js2 w2 x2) : ∀ x ∈ x1 ++ x2, ∃ i r, x = .tup (.int i :: r) := fun x hx => by
  obtain ⟨i, hi⟩ := List.mem_iff_getElem?.mp hx
  obtain ⟨s, r, _, rfl⟩ := (h1.app h2).2 i x hi
  exact ⟨s, [r], rfl⟩
theorem srt_pair {s1 s2 js1 js2 : List Int} {w1 w2 : List Str} {x1 x2 : List D} (h1 : Pairs s1 js1 w1 x1) (h2 : Pairs s2 js2 w2 x2) {x : D} (hx : x ∈ srtK (x1 ++ x2)) : ∃ s r, x = .tup [s, r] := by
  have hx := List.mem_mergeSort.mp hx
  obtain ⟨i, hi⟩ := List.mem_iff_getElem?.mp hx
  obtain ⟨s, r, _, rfl⟩ := (h1.app h2).2 i x hi
  exact ⟨_, r, rfl⟩
abbrev N_law_end : List Str := ["_law_bag_here", "_law_most", "_law_ears", "_law_mouth", "_law_clean_here", "_law_many", "_law_spots", "_law_lost", "_law_more", "_law_hearer", "_law_sender", "_law_pair"]
abbrev P_law_end : List Str := ["_law_bag_here", "_law_most"]
theorem sc_law_end : FnScope N_law_end P_law_end (defScope s_law_end) := ⟨rfl, rfl, rfl, by decide +kernel, rfl, by decide +kernel, by decide +kernel⟩
theorem bd_law_end : Bd0 "_law_end" "_law_end" s_law_end P_law_end := fun _ _ _ _ _ _ us hl => match us, hl with | [_, _], _ => rfl
abbrev Fn_law_end (P : Program) (w : World) (K : Frag) (mg : Str → Option Value) (base : Heap) : Prop := Fn P w K mg base "_law_end" "_law_end" s_law_end [] [] P_law_end 2 4 f_law_end (He.ga K "_law_end")
structure C_law_end (P : Program) (w : World) (K : Frag) (mg : Str → Option Value) (base : Heap) : Prop where
  law_aside : Fn_law_aside P w K mg base
  law_clean : Fn_law_clean P w K mg base
  law_puts : Fn_law_puts P w K mg base
  law_spot : Fn_law_spot P w K mg base
  law_take : Fn_law_take P w K mg base
  law_way : Fn_law_way P w K mg base
theorem ok_law_end {P : Program} {w : World} {K : Frag} {mg : Str → Option Value} {base : Heap} (F : HasD K "_law_end" "_law_end" s_law_end [] [] (He.ga K "_law_end")) (T : Txt K mg) (C : C_law_end P w K mg base) : Fn_law_end P w K mg base := by
  have sc := sc_law_end
  refine fn_E (k := 3) F sc rfl fun cdv A outer s H E O0 H0 F0 ds O q xx hl hf S => ⟨_,
      (ds_cons (ds_par (ps_par (i := 2) (j := 3) rfl sc.nd rfl rfl (by decide) rfl rfl (da_cons (so_callF S C.law_puts (by decide) T.g_law_puts bd_law_puts rfl (da_cons (de_var (pv 0)) (da_cons (so_add S de_int (so_callF S C.law_take (by decide) T.g_law_take bd_law_take rfl (da_cons (de_var (pv 0)) (da_cons (de_var (pv 1)) da_nil)))) da_nil))) (da_cons (so_callF S C.law_puts (by decide) T.g_law_puts bd_law_puts rfl (da_cons (de_var (pv 0)) (da_cons (so_add S de_int (so_callF S C.law_take (by decide) T.g_law_take bd_law_take rfl (da_cons (de_var (pv 0)) (da_cons (de_var (pv 1)) da_nil)))) da_nil))) da_nil)) (by rfl)))
      (ds_cons (ds_par (ps_par (i := 4) (j := 5) rfl sc.nd rfl rfl (by decide) rfl rfl (da_cons (so_callF S C.law_clean (by decide) T.g_law_clean bd_law_clean rfl (da_cons (de_var (pv 2)) (da_cons (de_var (pv 3)) da_nil))) (da_cons (so_len S rfl T.b_len (da_cons (de_var (pv 2)) da_nil)) da_nil)) (by rfl)))
      (ds_cons (ds_par (ps_par (i := 6) (j := 7) rfl sc.nd rfl rfl (by decide) rfl rfl (da_cons (so_add S (de_lst (da_cons de_int da_nil)) (so_listRg2 S rfl rfl T.b_list rfl T.b_range de_int (so_add S (de_var (pv 5)) de_int))) (da_cons (so_add S (de_lst (da_cons de_int da_nil)) (so_listRg2 S rfl rfl T.b_list rfl T.b_range (so_add S (de_var (pv 5)) de_int) (so_add S (so_add S (de_var (pv 5)) de_int) (so_callF S C.law_take (by decide) T.g_law_take bd_law_take rfl (da_cons (de_var (pv 0)) (da_cons de_int da_nil)))))) da_nil)) (by rfl)))
      (ds_cons (ds_set (ps_set (i := 8) sc.nd rfl (by first | exact Or.inl rfl | exact Or.inr rfl) (so_listRg2 S rfl rfl T.b_list rfl T.b_range (so_len S rfl T.b_len (da_cons (de_var (pv 3)) da_nil)) (so_add S (so_len S rfl T.b_len (da_cons (de_var (pv 3)) da_nil)) (so_callF S C.law_take (by decide) T.g_law_take bd_law_take rfl (da_cons (de_var (pv 0)) (da_cons de_int da_nil)))))))
      (ds_cons (ds_set (ps_set (i := 9) sc.nd rfl (by first | exact Or.inl rfl | exact Or.inr rfl) (so_add S (so_callF S C.law_way (by decide) T.g_law_way bd_law_way rfl (da_cons (de_var (pv 0)) (da_cons (de_var (pv 6)) (da_cons (de_var (pv 2)) (da_cons (de_var (pv 4)) (da_cons (de_var (pv 7)) (da_cons (de_lst (da_cons de_str (da_cons de_str da_nil))) da_nil))))))) (so_callF S C.law_aside (by decide) T.g_law_aside bd_law_aside rfl (da_cons (de_var (pv 0)) (da_cons (de_var (pv 7)) (da_cons (de_lst (da_cons de_str da_nil)) (da_cons de_bl da_nil))))))))
      (ds_cons (ds_set (ps_set (i := 10) sc.nd rfl (by first | exact Or.inl rfl | exact Or.inr rfl) (so_callF S C.law_way (by decide) T.g_law_way bd_law_way rfl (da_cons (de_var (pv 0)) (da_cons (so_listRg1 S rfl rfl T.b_list rfl T.b_range (so_len S rfl T.b_len (da_cons (de_var (pv 3)) da_nil))) (da_cons (de_var (pv 3)) (da_cons (de_var (pv 4)) (da_cons (de_var (pv 8)) (da_cons (de_lst (da_cons de_str (da_cons de_str da_nil))) da_nil)))))))))
      (ds_cons (ds_set (ps_set (i := 10) sc.nd rfl (by first | exact Or.inl rfl | exact Or.inr rfl) (so_add S (de_var (pv 10)) (so_callF S C.law_aside (by decide) T.g_law_aside bd_law_aside rfl (da_cons (de_var (pv 0)) (da_cons (de_var (pv 8)) (da_cons (de_lst (da_cons de_str (da_cons de_str da_nil))) (da_cons de_bl da_nil))))))))
      (ds_one (ds_ret (de_tup (da_cons (de_lc (simG_name (vs := [11]) (i := 11) (by decide)) (pe_lc (own := [("_law_pair", 11)]) (g := (gName 11)) rfl sc.nd (di_seq S (so_sortK S (by decide) C.law_spot rfl T.b_sorted (da_cons (de_var (pv 9)) da_nil) (dk_cons (so_gc (v := .ref (He.ga K "_law_spot")) rfl ⟨_, T.g_law_spot, rfl⟩ (fun _ => .ref _)) dk_nil))) (blkOk_by (own := [("_law_pair", 11)]) (N := N_law_end) (sc := defScope s_law_end) (by decide +kernel)) (fun _ _ _ _ _ => (pg_name (i := 11) sc.nd rfl (by first | exact Or.inl rfl | exact Or.inr rfl))) (fun _ _ _ _ _ => dts_nil) (fun _ _ _ _ _ => (so_ix S.blk (de_var (pv 11)) de_int (fun _ _ => rfl))))) (da_cons (de_lc (simG_name (vs := [11]) (i := 11) (by decide)) (pe_lc (own := [("_law_pair", 11)]) (g := (gName 11)) rfl sc.nd (di_seq S (so_sortK S (by decide) C.law_spot rfl T.b_sorted (da_cons (de_var (pv 10)) da_nil) (dk_cons (so_gc (v := .ref (He.ga K "_law_spot")) rfl ⟨_, T.g_law_spot, rfl⟩ (fun _ => .ref _)) dk_nil))) (blkOk_by (own := [("_law_pair", 11)]) (N := N_law_end) (sc := defScope s_law_end) (by decide +kernel)) (fun _ _ _ _ _ => (pg_name (i := 11) sc.nd rfl (by first | exact Or.inl rfl | exact Or.inr rfl))) (fun _ _ _ _ _ => dts_nil) (fun _ _ _ _ _ => (so_ix S.blk (de_var (pv 11)) de_int (fun _ _ => rfl))))) da_nil))))))))))))
      , ?_⟩
  obtain ⟨p, most, m, rfl, hb, hm, h0, h1, hq⟩ := hf
  walk_at "dl"
  refine ⟨rfl, p, most, _, rfl, hb, by omega, by omega, by omega, fun y o1 hy0 hy1 hb1 => ?_⟩
  walk_at "dl"
  obtain ⟨a, ha⟩ := Int.eq_ofNat_of_zero_le (show 0 ≤ 1 + y by omega)
  rw [ha]
  refine ⟨rfl, p, a, _, rfl, hb1, by omega, by omega, fun ears O1 le be X1 hb2 => ?_⟩
  have X1 : Ex p O O1 := (Ex.refl.set).trans X1
  walk_at "dl"
  refine ⟨rfl, p, most, _, rfl, hb2, by omega, by omega, by omega, fun y2 o2 hy20 hy21 hb3 => ?_⟩
  walk_at "dl"
  obtain ⟨b, hbn⟩ := Int.eq_ofNat_of_zero_le (show 0 ≤ 1 + y2 by omega)
  rw [hbn]
  refine ⟨rfl, p, b, _, rfl, hb3, by omega, by omega, fun mouth O2 lm bm X2 hb4 => ?_⟩
  have X2 : Ex p O O2 := X1.set.trans X2
  walk_at "dl"
  refine ⟨rfl, ears, mouth, rfl, by omega, by omega, fun cs hc1 hc2 => ?_⟩
  walk_at "dl"
  have ela : (((ears.map D.int).length : Nat) : Int) = 1 + y := by rw [List.length_map, le]; omega
  have elb : (((mouth.map D.int).length : Nat) : Int) = 1 + y2 := by rw [List.length_map, lm]; omega
  rw [ela]
  refine ⟨⟨by omega, by omega, by omega, by omega, by omega⟩, ?_⟩
  rw [rgD_zs]
  refine i_addL (line_ok (by simp only [List.length_cons, List.length_nil, List.length_map, zs_len]; omega)) ?_
  walk_at "dl"
  refine ⟨rfl, p, 3, _, rfl, hb4, by omega, by decide, by decide, fun t o3 ht0 ht1 hb5 => ?_⟩
  have X3 : Ex p O (setO O2 p o3) := X2.set
  generalize setO O2 p o3 = O3 at hb5 X3 ⊢
  walk_at "dl"
  refine ⟨⟨by omega, by omega, by omega, by omega, by omega⟩, ?_⟩
  rw [rgD_zs]
  refine i_addL (line_ok (by simp only [List.length_cons, List.length_nil, List.length_map, zs_len]; omega)) ?_
  walk_at "dl"
  rw [elb]
  refine ⟨rfl, p, 2, _, rfl, hb5, by omega, by decide, by decide, fun t2 o4 ht20 ht21 hb6 => ?_⟩
  have X4 : Ex p O (setO O3 p o4) := X3.set
  generalize setO O3 p o4 = O4 at hb6 X4 ⊢
  walk_at "dl"
  refine ⟨⟨by omega, by omega, by omega, by omega, by omega⟩, ?_⟩
  rw [rgD_zs]
  have es : [D.int 0] ++ (zs 2 (1 + y + 1)).map D.int = (0 :: zs 2 (1 + y + 1)).map D.int := rfl
  have el : [D.int 1] ++ (zs (1 + y + 1) (1 + y + 1 + t)).map D.int = (1 :: zs (1 + y + 1) (1 + y + 1 + t)).map D.int := rfl
  rw [es, el]
  walk_at "dl"
  have lsp : (0 :: zs 2 (1 + y + 1)).length = (1 + y).toNat := by rw [List.length_cons, zs_len]; omega
  have llo : (1 :: zs (1 + y + 1) (1 + y + 1 + t)).length = (1 + t).toNat := by rw [List.length_cons, zs_len]; omega
  refine ⟨rfl, p, _, ears, cs, _, "taken", ["lost"], _, rfl, hb6, by omega, by omega, by omega, by decide, by omega, by omega, be, fun xs1 O5 hx1 X5 hb7 => ?_⟩
  have X5 : Ex p O O5 := X4.trans X5
  walk_at "dl"
  refine ⟨rfl, p, _, "lost", [], true, _, rfl, hb7, by omega, by omega, by decide, fun xs2 O6 hx2 X6 hb8 => ?_⟩
  have X6 : Ex p O O6 := X5.trans X6
  walk_at "dl"
  have l1 := hx1.1
  have l2 := hx2.1
  refine i_addL (line_ok (by omega)) ?_
  walk_at "dl"
  rw [elb]
  refine ⟨⟨by omega, by omega, by omega, by omega, by omega⟩, ?_⟩
  rw [rgD_zs]
  walk_at "dl"
  have lse : (zs 0 (1 + y2)).length = (1 + y2).toNat := by rw [zs_len]; omega
  have lmo : (zs (1 + y2) (1 + y2 + t2)).length = t2.toNat := by rw [zs_len]; omega
  refine ⟨rfl, p, _, mouth, cs, _, "done", ["again"], _, rfl, hb8, by omega, by omega, by omega, by decide, by omega, by omega, bm, fun xs3 O7 hx3 X7 hb9 => ?_⟩
  have X7 : Ex p O O7 := X6.trans X7
  walk_at "dl"
  refine ⟨rfl, p, _, "done", ["again"], false, _, rfl, hb9, by omega, by omega, by decide, fun xs4 O8 hx4 X8 hb10 => ?_⟩
  have X8 : Ex p O O8 := X7.trans X8
  walk_at "dl"
  have l3 := hx3.1
  have l4 := hx4.1
  refine i_addL (line_ok (by omega)) ?_
  have hx1 : Pairs (0 :: zs 2 (1 + y + 1)) ((0 :: zs 2 (1 + y + 1)) ++ (1 :: zs (1 + y + 1) (1 + y + 1 + t))) wHear xs1 := hx1
  have hx3 : Pairs (zs 0 (1 + y2)) (zs 0 (1 + y2) ++ zs (1 + y2) (1 + y2 + t2)) wSend xs3 := hx3
  have hx4 : Pairs (zs (1 + y2) (1 + y2 + t2)) (zs (1 + y2) (1 + y2 + t2)) wSend xs4 := hx4
  obtain ⟨hl1, hm1, hc1'⟩ := end_hear (by omega) ht0 hx1 hx2
  obtain ⟨hl2, hm2⟩ := end_send (by omega) ht20 hx3 hx4
  walk_at "dl"
  refine i_sortK rfl (pairs_tup hx1 hx2) ?_
  walk_at "dl"
  refine ⟨line_ok (by omega), ?_⟩
  refine lcGo_map snd2 trivial (fun x hx k z hk => ?_) ?_
  · obtain ⟨s', r', rfl⟩ := srt_pair hx1 hx2 hx
    walk_at "dl"
    refine iteT ?_
    walk_at "dl"
    exact hk _ (.refl _)
  walk_at "dl"
  refine i_sortK rfl (pairs_tup hx3 hx4) ?_
  walk_at "dl"
  refine ⟨line_ok (by omega), ?_⟩
  refine lcGo_map snd2 trivial (fun x hx k z hk => ?_) ?_
  · obtain ⟨s', r', rfl⟩ := srt_pair hx3 hx4 hx
    walk_at "dl"
    refine iteT ?_
    walk_at "dl"
    exact hk _ (.refl _)
  walk_at "dl"
  refine rt_same (hq _ _ _ ⟨by rw [List.length_map]; omega, by rw [List.length_map]; omega, by rw [List.length_map]; omega, by rw [List.length_map]; omega, hm1, hm2, hc1'⟩ (by rw [List.length_map]; omega) (by rw [List.length_map]; omega) X8 (hb10.mono (by omega)))
end
end K24

set_option Elab.async false
set_option linter.all false
set_option maxRecDepth 100000
set_option maxHeartbeats 4000000
namespace K24
open PySem PySem.Spec PyProof.Rows L2 DL
open ClX (CRead CVal)
local macro_rules | `(tactic| walk_at "d1") => `(tactic| first | ((with_reducible apply i_var); exact rfl) | ((with_reducible apply i_gtup); exact rfl) | ((with_reducible apply i_augI); exact rfl) | ((with_reducible apply i_ixT); exact rfl) | ((with_reducible apply i_ixL); exact rfl) | with_reducible refine i_seq ?_ | with_reducible refine i_asg ?_ | with_reducible refine i_gname ?_ | with_reducible refine i_c ?_ | with_reducible refine i_op ?_ | with_reducible refine i_cb ?_ | with_reducible refine i_cons ?_ | with_reducible refine i_nil ?_ | with_reducible refine i_expr ?_ | with_reducible refine i_ret ?_ | with_reducible refine i_retN ?_ | with_reducible refine i_next ?_ | with_reducible refine i_for ?_ | with_reducible refine i_par ?_ | with_reducible refine i_test ?_ | with_reducible refine i_tup ?_ | with_reducible refine i_lst ?_ | ((with_reducible refine i_sz ?_ ?_); (focus exact Nat.le_of_ble_eq_true rfl)) | with_reducible refine i_lstO ?_ | with_reducible refine i_break ?_ | with_reducible refine i_cont ?_ | with_reducible refine i_gnil ?_ | with_reducible refine i_gcons ?_ | with_reducible refine i_tru ?_ | with_reducible refine i_and ?_ | with_reducible refine i_or ?_ | with_reducible refine i_not ?_ | with_reducible refine i_andV ?_ | with_reducible refine i_orV ?_ | with_reducible refine i_notV ?_ | with_reducible refine i_neg ?_ | with_reducible refine i_chain ?_ | with_reducible refine i_call ?_ | with_reducible refine i_callK ?_ | with_reducible refine i_append ?_ | with_reducible refine i_gsub ?_ | with_reducible refine i_sl ?_ | with_reducible refine i_slT ?_ | with_reducible refine i_slL ?_ | with_reducible refine i_oN ?_ | with_reducible refine i_oS ?_ | with_reducible refine i_lc ?_ | with_reducible refine i_lcO ?_ | with_reducible refine i_yes ?_ | with_reducible refine i_listRg1 ?_ | with_reducible refine i_rg1 ?_ | with_reducible refine i_rg2 ?_ | with_reducible refine i_seqI ?_ | with_reducible refine i_seqT ?_ | with_reducible refine i_seqL ?_ | with_reducible refine i_lt ?_ | with_reducible refine i_le ?_ | with_reducible refine i_gt ?_ | with_reducible refine i_ge ?_ | with_reducible refine i_sub ?_ | with_reducible refine i_addI ?_ | with_reducible refine i_int ?_ | with_reducible refine i_intb ?_ | with_reducible refine i_abs ?_ | with_reducible refine i_min2 ?_ | with_reducible refine i_max2 ?_ | with_reducible refine i_isN ?_ | with_reducible refine i_notN ?_ | with_reducible refine i_lenL ?_ | with_reducible refine i_lenT ?_ | ((with_reducible apply i_ixO); (focus (first | assumption | exact setO_same | (rw [setO_ne (by assumption)]; first | assumption | exact setO_same))); exact rfl) | ((with_reducible apply i_lenO); (focus (first | assumption | exact setO_same | (rw [setO_ne (by assumption)]; first | assumption | exact setO_same)))) | ((with_reducible apply i_appK); (focus (first | assumption | exact setO_same | (rw [setO_ne (by assumption)]; first | assumption | exact setO_same)))) | ((with_reducible apply i_subK); (focus (first | assumption | exact setO_same | (rw [setO_ne (by assumption)]; first | assumption | exact setO_same))); exact rfl) | ((with_reducible apply i_slO); (focus (first | assumption | exact setO_same | (rw [setO_ne (by assumption)]; first | assumption | exact setO_same)))) | ((with_reducible apply i_seqO); (focus (first | assumption | exact setO_same | (rw [setO_ne (by assumption)]; first | assumption | exact setO_same)))) | ((with_reducible apply i_appK2); (focus (first | assumption | exact setO_same | (rw [setO_ne (by assumption)]; first | assumption | exact setO_same)))) | with_reducible refine i_ice ?_ | with_reducible refine i_iceL ?_ | ((with_reducible apply i_iceK); (focus (first | assumption | exact setO_same | (rw [setO_ne (by assumption)]; first | assumption | exact setO_same)))) | with_reducible refine i_fld ?_ | ((with_reducible apply i_fldK); (focus (first | assumption | exact setO_same | (rw [setO_ne (by assumption)]; first | assumption | exact setO_same))); exact rfl) | with_reducible refine i_sfld ?_ | with_reducible refine i_make ?_ | with_reducible refine i_callK0 ?_ | with_reducible refine i_enum2 ?_ | with_reducible refine i_enumL ?_ | with_reducible refine i_enumT ?_ | with_reducible refine i_par3 ?_ | with_reducible refine i_dsp2 ?_ | ((with_reducible apply i_isi (b := true)); exact rfl; exact rfl; exact rfl) | ((with_reducible apply i_isi (b := false)); exact rfl; exact rfl; exact rfl) | with_reducible refine i_eqI ?_ | with_reducible refine i_neI ?_ | with_reducible refine i_truB ?_ | ((with_reducible apply i_fldI); exact rfl) | with_reducible refine i_iceI ?_ | with_reducible refine i_join ?_ | with_reducible refine i_dict0 ?_ | with_reducible refine i_isiI ?_ | with_reducible refine i_ownIn ?_ | with_reducible refine i_ownEq ?_ | with_reducible refine i_ownLen ?_ | with_reducible refine i_ownStr ?_ | with_reducible refine i_strS ?_ | with_reducible refine i_fmt ?_ | with_reducible refine i_pop ?_ | with_reducible refine i_listRg2 ?_ | with_reducible refine i_listRg2O ?_ | ((with_reducible apply i_popK); (focus (first | assumption | exact setO_same | (rw [setO_ne (by assumption)]; first | assumption | exact setO_same)))) | with_reducible refine i_raise ?_ | with_reducible refine i_tryAs ?_ | with_reducible refine i_xf ?_ | ((with_reducible apply i_xfK); exact rfl) | with_reducible refine i_js ?_ | with_reducible refine i_js0 ?_ | with_reducible refine i_makeK0 ?_ | with_reducible refine i_own ?_ | with_reducible refine i_ownT ?_ | with_reducible refine i_lenZ ?_ | with_reducible refine i_sortZ ?_ | with_reducible refine i_setL ?_ | with_reducible refine i_sc ?_ | with_reducible refine i_key ?_ | with_reducible refine i_revL ?_ | with_reducible refine i_revT ?_ | with_reducible refine i_zip ?_ | with_reducible refine i_ltAI ?_ | with_reducible refine i_ltAS ?_ | with_reducible refine i_inRg1 ?_ | with_reducible refine i_inRg2 ?_ | with_reducible refine i_listRg1O ?_ | with_reducible refine i_tryM ?_ | with_reducible refine i_xi ?_ | with_reducible refine i_split ?_ | with_reducible refine i_m0 ?_ | with_reducible refine i_m0K ?_ | with_reducible refine i_starA ?_ | with_reducible refine i_cm ?_ | with_reducible refine i_cmK ?_ | ((with_reducible apply i_makeL); exact rfl) | with_reducible refine i_int2I ?_ | with_reducible refine i_int2B ?_ | with_reducible refine i_clear ?_ | ((with_reducible apply i_clearK); (focus (first | assumption | exact setO_same | (rw [setO_ne (by assumption)]; first | assumption | exact setO_same)))) | with_reducible refine i_meth ?_ | with_reducible refine i_dput ?_ | with_reducible refine i_dict0N ?_ | with_reducible refine i_dc ?_ | with_reducible refine i_dct ?_ | with_reducible refine i_ckw ?_ | with_reducible refine i_iceA ?_ | with_reducible refine i_get2 ?_ | with_reducible refine i_prop ?_ | with_reducible refine i_propI ?_ | ((with_reducible apply i_methI); exact rfl) | ((with_reducible apply i_methO); (focus (first | assumption | exact setO_same | (rw [setO_ne (by assumption)]; first | assumption | exact setO_same))); exact rfl))
local macro_rules | `(tactic| walk_at "dl") => `(tactic| repeat (walk_at "d1"))
local macro_rules | `(tactic| walk_at "dw") => `(tactic| repeat (first | with_reducible refine i_if ?_ | with_reducible refine i_ifE ?_ | walk_at "d1"))

section
variable {P : Program} {w : World} {K : Frag} {mg : Str → Option Value} {base : Heap}
/-! ### places of standings -/
/-- a row or a word -/
def Plc (d : D) : Prop := (∃ i, d = .int i) ∨ ∃ s, d = .str s ∧ strGood s = true
def wHr : List Str := ["lost", "taken"]
def wSr : List Str := ["again", "done", "silent"]
theorem wHr_good : wHr.all strGood = true := by decide +kernel
theorem wSr_good : wSr.all strGood = true := by decide +kernel
theorem Plc.good {d : D} (h : Plc d) : good d = true := by
  rcases h with ⟨i, rfl⟩ | ⟨s, rfl, hs⟩
  · exact good_int _
  · exact good_str hs
theorem Plc.dep {d : D} (h : Plc d) : (py d).depth = 0 := by
  rcases h with ⟨i, rfl⟩ | ⟨s, rfl, hs⟩ <;> simp [py, PyData.depth]
theorem plB_plc {n : Int} {ws : List Str} (hw : ws.all strGood = true) {d : D} (h : plB n ws d = true) : Plc d := by
  rcases plB_cases h with ⟨i, rfl, _⟩ | ⟨s, rfl, hs⟩
  · exact .inl ⟨i, rfl⟩
  · exact .inr ⟨s, rfl, List.all_eq_true.mp hw s hs⟩
def nbl : D → Bool
  | .bl _ => false
  | _ => true
theorem Plc.nbl {d : D} (h : Plc d) : nbl d = true := by
  rcases h with ⟨i, rfl⟩ | ⟨s, rfl, hs⟩ <;> rfl
def f_is_row : DF := fun ds O q _ => ∃ d, ds = [d] ∧ pd d = true ∧ nbl d = true ∧ q (.bl (isRw d)) O
abbrev N_is_row : List Str := ["place"]
abbrev P_is_row : List Str := ["place"]
theorem sc_is_row : FnScope N_is_row P_is_row (defScope s_is_row) := ⟨rfl, rfl, rfl, by decide +kernel, rfl, by decide +kernel, by decide +kernel⟩
theorem bd_is_row : Bd0 "is_row" "is_row" s_is_row P_is_row := fun _ _ _ _ _ _ us hl => match us, hl with | [_], _ => rfl
abbrev Fn_is_row (P : Program) (w : World) (K : Frag) (mg : Str → Option Value) (base : Heap) : Prop := Fn P w K mg base "is_row" "is_row" s_is_row [] [] P_is_row 1 1 f_is_row (He.ga K "is_row")
theorem ok_is_row {P : Program} {w : World} {K : Frag} {mg : Str → Option Value} {base : Heap} (F : HasD K "is_row" "is_row" s_is_row [] [] (He.ga K "is_row")) (T : Txt K mg) : Fn_is_row P w K mg base := by
  have sc := sc_is_row
  refine fn_E (k := 0) F sc rfl fun cdv A outer s H E O0 H0 F0 ds O q xx hl hf S => ⟨_,
      (ds_one (ds_ret (so_isi S rfl T.b_isinstance (da_cons (de_var (pv 0)) (da_cons (so_ty (n := "int") rfl T.b_int) da_nil)))))
      , ?_⟩
  obtain ⟨d, rfl, h0, h1, hq⟩ := hf
  cases d <;> simp [pd] at h0 <;> first | (cases h1; done) | (walk_at "dl"; exact rt_same hq)
/-- the rows, then the words, each in ascending order -/
def spl (xs : List D) : List D := srtD (xs.filter isRw) ++ srtD (xs.filter fun d => !isRw d)
theorem spl_perm (xs : List D) : (spl xs).Perm xs := by
  refine ((List.mergeSort_perm _ _).append (List.mergeSort_perm _ _)).trans ?_
  exact List.filter_append_perm _ _
theorem spl_len (xs : List D) : (spl xs).length = xs.length := (spl_perm xs).length_eq
theorem fm_guard (p : D → Bool) (xs : List D) : xs.filterMap (fun d => if p d = true then some d else none) = xs.filter p := by
  induction xs with
  | nil => rfl
  | cons x xs ih => rw [List.filterMap_cons, List.filter_cons, ih]; cases p x <;> simp
def f_sorted_places : DF := fun ds O q _ => ∃ d xs, ds = [d] ∧ SeqD O d xs ∧ (∀ x ∈ xs, Plc x) ∧ xs.length ≤ 50000 ∧ q (.tup (spl xs)) O
theorem i_seqS {O : Ow} {d : D} {xs : List D} {qi : List D → (Ow → Prop) → Ow → Prop} (h : SeqD O d xs) (hq : ∀ Gd : Ow → Prop, Gd O → qi xs Gd O) : seqK qi d O := by
  rcases h with rfl | rfl | ⟨p, rfl, e⟩
  · exact i_seqL (hq _ trivial)
  · exact i_seqT (hq _ trivial)
  · exact i_seqO e (hq _ rfl)
abbrev N_sorted_places : List Str := ["places", "rows", "place"]
abbrev P_sorted_places : List Str := ["places"]
theorem sc_sorted_places : FnScope N_sorted_places P_sorted_places (defScope s_sorted_places) := ⟨rfl, rfl, rfl, by decide +kernel, rfl, by decide +kernel, by decide +kernel⟩
theorem bd_sorted_places : Bd0 "sorted_places" "sorted_places" s_sorted_places P_sorted_places := fun _ _ _ _ _ _ us hl => match us, hl with | [_], _ => rfl
abbrev Fn_sorted_places (P : Program) (w : World) (K : Frag) (mg : Str → Option Value) (base : Heap) : Prop := Fn P w K mg base "sorted_places" "sorted_places" s_sorted_places [] [] P_sorted_places 1 2 f_sorted_places (He.ga K "sorted_places")
structure C_sorted_places (P : Program) (w : World) (K : Frag) (mg : Str → Option Value) (base : Heap) : Prop where
  is_row : Fn_is_row P w K mg base
theorem ok_sorted_places {P : Program} {w : World} {K : Frag} {mg : Str → Option Value} {base : Heap} (F : HasD K "sorted_places" "sorted_places" s_sorted_places [] [] (He.ga K "sorted_places")) (T : Txt K mg) (C : C_sorted_places P w K mg base) : Fn_sorted_places P w K mg base := by
  have sc := sc_sorted_places
  refine fn_E (k := 1) F sc rfl fun cdv A outer s H E O0 H0 F0 ds O q xx hl hf S => ⟨_,
      (ds_cons (ds_set (ps_set (i := 1) sc.nd rfl (by first | exact Or.inl rfl | exact Or.inr rfl) (so_sorted S rfl T.b_sorted (da_cons (de_lc (simG_name (vs := [2]) (i := 2) (by decide)) (pe_lc (own := [("place", 2)]) (g := (gName 2)) rfl sc.nd (di_seq S (de_var (pv 0))) (blkOk_by (own := [("place", 2)]) (N := N_sorted_places) (sc := defScope s_sorted_places) (by decide +kernel)) (fun _ _ _ _ _ => (pg_name (i := 2) sc.nd rfl (by first | exact Or.inl rfl | exact Or.inr rfl))) (fun _ _ _ _ _ => (dts_one (st_tru S.blk (so_callF S.blk C.is_row (by decide) T.g_is_row bd_is_row rfl (da_cons (de_var (pv 2)) da_nil))))) (fun _ _ _ _ _ => (de_var (pv 2))))) da_nil))))
      (ds_one (ds_ret (so_tuple S rfl T.b_tuple (da_cons (so_add S (de_var (pv 1)) (so_sorted S rfl T.b_sorted (da_cons (de_lc (simG_name (vs := [2]) (i := 2) (by decide)) (pe_lc (own := [("place", 2)]) (g := (gName 2)) rfl sc.nd (di_seq S (de_var (pv 0))) (blkOk_by (own := [("place", 2)]) (N := N_sorted_places) (sc := defScope s_sorted_places) (by decide +kernel)) (fun _ _ _ _ _ => (pg_name (i := 2) sc.nd rfl (by first | exact Or.inl rfl | exact Or.inr rfl))) (fun _ _ _ _ _ => (dts_one (dt_not (st_tru S.blk (so_callF S.blk C.is_row (by decide) T.g_is_row bd_is_row rfl (da_cons (de_var (pv 2)) da_nil)))))) (fun _ _ _ _ _ => (de_var (pv 2))))) da_nil))) da_nil)))))
      , ?_⟩
  obtain ⟨d, xs, rfl, hd, hx, hl, hq⟩ := hf
  walk_at "dl"
  refine i_seqS hd fun Gd hg => ?_
  refine ⟨line_ok (by omega), ?_⟩
  refine lcGo_fm (fun d => if isRw d = true then some d else none) hg (fun d hm k z h1 h0 => ?_) ?_
  · have hp := hx d hm
    walk_at "dl"
    refine ⟨rfl, d, rfl, good_pd hp.good, hp.nbl, ?_⟩
    walk_at "dl"
    cases e : isRw d with
    | true => exact iteT (by walk_at "dl"; exact h1 _ _ (by rw [e]; rfl) (.refl _))
    | false => exact iteF (h0 _ (by rw [e]; rfl) (.refl _))
  rw [fm_guard]
  walk_at "dl"
  refine i_sortInts (fun d hd => ?_) ?_
  · rw [List.mem_filter] at hd
    rcases hx d hd.1 with h | ⟨s, rfl, _⟩
    · exact h
    · cases hd.2
  walk_at "dl"
  refine i_seqS hd fun Gd hg => ?_
  refine ⟨line_ok (by omega), ?_⟩
  refine lcGo_fm (fun d => if (!isRw d) = true then some d else none) hg (fun d hm k z h1 h0 => ?_) ?_
  · have hp := hx d hm
    walk_at "dl"
    refine ⟨rfl, d, rfl, good_pd hp.good, hp.nbl, ?_⟩
    walk_at "dl"
    cases e : isRw d with
    | true => exact iteF (h0 _ (by rw [e]; rfl) (.refl _))
    | false => exact iteT (by walk_at "dl"; exact h1 _ _ (by rw [e]; rfl) (.refl _))
  rw [fm_guard fun d => !isRw d]
  walk_at "dl"
  refine i_sortStrs (fun d hd => ?_) ?_
  · rw [List.mem_filter] at hd
    rcases hx d hd.1 with ⟨i, rfl⟩ | ⟨s, rfl, _⟩
    · cases hd.2
    · exact ⟨s, rfl⟩
  have hlen := spl_len xs
  unfold spl at hlen
  rw [List.length_append] at hlen
  refine i_addL (line_ok (by omega)) ?_
  walk_at "dl"
  refine ⟨_, rfl, ?_⟩
  walk_at "dl"
  exact rt_same hq
def f_is_place : DF := fun ds O q _ => ∃ d rs ws, ds = [d, .tup rs, .tup (ws.map D.str)] ∧ good d = true ∧ ws.all strGood = true ∧ q (.bl (plB rs.length ws d)) O
abbrev N_is_place : List Str := ["thing", "machine", "words"]
abbrev P_is_place : List Str := ["thing", "machine", "words"]
theorem sc_is_place : FnScope N_is_place P_is_place (defScope s_is_place) := ⟨rfl, rfl, rfl, by decide +kernel, rfl, by decide +kernel, by decide +kernel⟩
theorem bd_is_place : Bd0 "is_place" "is_place" s_is_place P_is_place := fun _ _ _ _ _ _ us hl => match us, hl with | [_, _, _], _ => rfl
abbrev Fn_is_place (P : Program) (w : World) (K : Frag) (mg : Str → Option Value) (base : Heap) : Prop := Fn P w K mg base "is_place" "is_place" s_is_place [] [] P_is_place 3 2 f_is_place (He.ga K "is_place")
structure C_is_place (P : Program) (w : World) (K : Frag) (mg : Str → Option Value) (base : Heap) : Prop where
  is_integer : Fn_is_integer P w K mg base
theorem ok_is_place {P : Program} {w : World} {K : Frag} {mg : Str → Option Value} {base : Heap} (F : HasD K "is_place" "is_place" s_is_place [] [] (He.ga K "is_place")) (T : Txt K mg) (C : C_is_place P w K mg base) : Fn_is_place P w K mg base := by
  have sc := sc_is_place
  refine fn_E (k := 1) F sc rfl fun cdv A outer s H E O0 H0 F0 ds O q xx hl hf S => ⟨_,
      (ds_cons (ds_if (st_tru S (so_callF S C.is_integer (by decide) T.g_is_integer bd_is_integer rfl (da_cons (de_var (pv 0)) da_nil)))
       (ds_one (ds_ret (so_chain op_le sim_le op_lt sim_lt de_int (de_var (pv 0)) (so_len S rfl T.b_len (da_cons (de_var (pv 1)) da_nil)))))
       ds_nil)
      (ds_one (ds_ret (de_and (so_isi S rfl T.b_isinstance (da_cons (de_var (pv 0)) (da_cons (so_ty (n := "str") rfl T.b_str) da_nil))) (de_one (so_in S (de_var (pv 0)) (de_var (pv 2))))))))
      , ?_⟩
  obtain ⟨d, rs, ws, rfl, h0, h1, hq⟩ := hf
  walk_at "dw"
  refine ⟨rfl, d, rfl, good_pd h0, ?_⟩
  refine ⟨_, rfl, ?_⟩
  cases d <;> dsimp only [intB]
  case ref => simp [good, pd] at h0
  case ty => simp [good, pd] at h0
  case ins => simp [good, pd] at h0
  case int i =>
    refine iteT ?_
    walk_at "dl"
    have hq' : q (.bl (decide (0 ≤ i) && decide (i < (rs.length : Int)))) O := hq
    by_cases hi : 0 ≤ i
    · rw [decide_eq_true hi] at hq' ⊢
      rw [Bool.true_and] at hq'
      walk_at "dl"
      exact rt_same hq'
    · rw [decide_eq_false hi] at hq' ⊢
      rw [Bool.false_and] at hq'
      exact rt_same hq'
  case str x =>
    refine iteF ?_
    walk_at "dl"
    refine i_inStr (good_of_str h0) h1 (rt_same ?_)
    exact hq
  all_goals
    refine iteF ?_
    walk_at "dl"
    exact rt_same hq
/-! ### standings -/
def ivl : D → Int
  | .int i => i
  | _ => 0
/-- whether places are the rows in ascending order, then the words -/
def ordB (hs : List D) : Bool := PyData.eqv (py (.tup hs)) (py (.tup (spl hs)))
/-- the crowd and how many it is -/
def crwB (n : Int) (l k : Int) : D → Bool
  | .non => decide (k = 0)
  | c => plB n wHr c && if isRw c then decide (1 ≤ k) && decide (k ≤ l + 1) else decide (k = 1)
/-- whether a value is a standing -/
def stB (n m : Int) : D → Bool
  | .tup [l, s, c, k, .tup hs] => intB l && (decide (0 ≤ ivl l) && decide (ivl l ≤ 4 - (hs.length : Int))) && (intB k && plB m wSr s) && (hs.all (plB n wHr) && ordB hs) && crwB n (ivl l) (ivl k) c
  | _ => false
def tupB : D → Bool
  | .tup _ => true
  | _ => false
theorem isi_tup {d : D} {O : Ow} {q : DQ} (h : good d = true) (hq : q (.bl (tupB d)) O) : dIsi [d, .ty "tuple"] O q := by
  cases d <;> first | (simp [good, pd] at h; done) | exact i_isi (a := _) rfl rfl rfl hq
def f_is_standing (K : Frag) : DF := fun ds O q _ => ∃ hs ss d, ds = [endD (He.ga K "End") hs ss, d] ∧ good d = true ∧ hs.length ≤ 100 ∧ ss.length ≤ 100 ∧ q (.bl (stB hs.length ss.length d)) O
abbrev N_is_standing : List Str := ["end", "thing", "left", "sender", "crowd", "many", "hit", "place"]
abbrev P_is_standing : List Str := ["end", "thing"]
theorem sc_is_standing : FnScope N_is_standing P_is_standing (defScope s_is_standing) := ⟨rfl, rfl, rfl, by decide +kernel, rfl, by decide +kernel, by decide +kernel⟩
theorem bd_is_standing : Bd0 "is_standing" "is_standing" s_is_standing P_is_standing := fun _ _ _ _ _ _ us hl => match us, hl with | [_, _], _ => rfl
abbrev Fn_is_standing (P : Program) (w : World) (K : Frag) (mg : Str → Option Value) (base : Heap) : Prop := Fn P w K mg base "is_standing" "is_standing" s_is_standing [] [] P_is_standing 2 3 (f_is_standing K) (He.ga K "is_standing")
structure C_is_standing (P : Program) (w : World) (K : Frag) (mg : Str → Option Value) (base : Heap) : Prop where
  End_hearer : Fn_End_hearer P w K mg base
  End_sender : Fn_End_sender P w K mg base
  is_integer : Fn_is_integer P w K mg base
  is_place : Fn_is_place P w K mg base
  is_row : Fn_is_row P w K mg base
  sorted_places : Fn_sorted_places P w K mg base
theorem ok_is_standing {P : Program} {w : World} {K : Frag} {mg : Str → Option Value} {base : Heap} (F : HasD K "is_standing" "is_standing" s_is_standing [] [] (He.ga K "is_standing")) (T : Txt K mg) (C : C_is_standing P w K mg base) : Fn_is_standing P w K mg base := by
  have sc := sc_is_standing
  refine fn_E (k := 2) F sc rfl fun cdv A outer s H E O0 H0 F0 ds O q xx hl hf S => ⟨_,
      (ds_cons (ds_if (PW.pt (dw_or (dt_not (st_tru S (so_isi S rfl T.b_isinstance (da_cons (de_var (pv 1)) (da_cons (so_ty (n := "tuple") rfl T.b_tuple) da_nil))))) (dw_or1 (st_ne S (so_len S rfl T.b_len (da_cons (de_var (pv 1)) da_nil)) de_int))))
       (ds_one (ds_ret de_bl))
       ds_nil)
      (ds_cons (ds_asg (ps_asg (de_var (pv 1)) (dg_tup rfl rfl (dgs_cons (dg_name (pg_name (i := 2) sc.nd rfl (by first | exact Or.inl rfl | exact Or.inr rfl))) (dgs_cons (dg_name (pg_name (i := 3) sc.nd rfl (by first | exact Or.inl rfl | exact Or.inr rfl))) (dgs_cons (dg_name (pg_name (i := 4) sc.nd rfl (by first | exact Or.inl rfl | exact Or.inr rfl))) (dgs_cons (dg_name (pg_name (i := 5) sc.nd rfl (by first | exact Or.inl rfl | exact Or.inr rfl))) (dgs_cons (dg_name (pg_name (i := 6) sc.nd rfl (by first | exact Or.inl rfl | exact Or.inr rfl))) dgs_nil))))))))
      (ds_cons (ds_if (PW.pt (dw_or (dt_not (st_tru S (so_callF S C.is_integer (by decide) T.g_is_integer bd_is_integer rfl (da_cons (de_var (pv 2)) da_nil)))) (dw_or (dt_not (st_tru S (so_isi S rfl T.b_isinstance (da_cons (de_var (pv 6)) (da_cons (so_ty (n := "tuple") rfl T.b_tuple) da_nil))))) (dw_or1 (dt_not (st_chain op_le sim_le op_le sim_le de_int (de_var (pv 2)) (so_sub S (so_gc rfl T.g_MOST_WRONG T.d_MOST_WRONG) (so_len S rfl T.b_len (da_cons (de_var (pv 6)) da_nil)))))))))
       (ds_one (ds_ret de_bl))
       ds_nil)
      (ds_cons (ds_if (PW.pt (dw_or (dt_not (st_tru S (so_callF S C.is_integer (by decide) T.g_is_integer bd_is_integer rfl (da_cons (de_var (pv 5)) da_nil)))) (dw_or1 (dt_not (st_tru S (so_callF S C.is_place (by decide) T.g_is_place bd_is_place rfl (da_cons (de_var (pv 3)) (da_cons (so_propE S (by decide) T.c_End T.p_End_sender C.End_sender (de_var (pv 0))) (da_cons (so_gc rfl T.g_SENDER_PLACES T.d_SENDER_PLACES) da_nil)))))))))
       (ds_one (ds_ret de_bl))
       ds_nil)
      (ds_cons (ds_if (PW.pt (dw_or (dt_not (st_tru S (so_all S rfl rfl T.b_all (da_cons (de_lc (simG_name (vs := [7]) (i := 7) (by decide)) (pe_lc (own := [("place", 7)]) (g := (gName 7)) rfl sc.nd (di_seq S (de_var (pv 6))) (blkOk_by (own := [("place", 7)]) (N := N_is_standing) (sc := defScope s_is_standing) (by decide +kernel)) (fun _ _ _ _ _ => (pg_name (i := 7) sc.nd rfl (by first | exact Or.inl rfl | exact Or.inr rfl))) (fun _ _ _ _ _ => dts_nil) (fun _ _ _ _ _ => (so_callF S.blk C.is_place (by decide) T.g_is_place bd_is_place rfl (da_cons (de_var (pv 7)) (da_cons (so_propE S.blk (by decide) T.c_End T.p_End_hearer C.End_hearer (de_var (pv 0))) (da_cons (so_gc rfl T.g_HEARER_WORDS_standings T.d_HEARER_WORDS_standings) da_nil))))))) da_nil)))) (dw_or1 (st_ne S (de_var (pv 6)) (so_callF S C.sorted_places (by decide) T.g_sorted_places bd_sorted_places rfl (da_cons (de_var (pv 6)) da_nil))))))
       (ds_one (ds_ret de_bl))
       ds_nil)
      (ds_cons (ds_if (st_is S (de_var (pv 4)) de_non)
       (ds_one (ds_ret (so_eq S (de_var (pv 5)) de_int)))
       ds_nil)
      (ds_cons (ds_if (dt_not (st_tru S (so_callF S C.is_place (by decide) T.g_is_place bd_is_place rfl (da_cons (de_var (pv 4)) (da_cons (so_propE S (by decide) T.c_End T.p_End_hearer C.End_hearer (de_var (pv 0))) (da_cons (so_gc rfl T.g_HEARER_WORDS_standings T.d_HEARER_WORDS_standings) da_nil))))))
       (ds_one (ds_ret de_bl))
       ds_nil)
      (ds_one (ds_ret (de_if (st_tru S (so_callF S C.is_row (by decide) T.g_is_row bd_is_row rfl (da_cons (de_var (pv 4)) da_nil))) (so_chain op_le sim_le op_le sim_le de_int (de_var (pv 5)) (so_add S (de_var (pv 2)) de_int)) (so_eq S (de_var (pv 5)) de_int)))))))))))
      , ?_⟩
  obtain ⟨hs, ss, d, rfl, h0, l1, l2, hq⟩ := hf
  have hF : stB hs.length ss.length d = false → q (.bl false) O := fun e => by rw [e] at hq; exact hq
  walk_at "dw"
  refine isi_tup h0 ?_
  cases d
  case tup ts =>
    walk_at "dw"
    refine iteF ?_
    walk_at "dw"
    by_cases h3 : ((ts.length : Nat) : Int) = 5
    case neg =>
      rw [decide_eq_false h3]
      refine iteT ?_
      walk_at "dl"
      refine rt_same (hF ?_)
      unfold stB
      split
      · rename_i e; cases e; exact absurd rfl h3
      · rfl
    rw [decide_eq_true h3]
    refine iteF ?_
    match ts, h3, h0, hF, hq with
    | [l, s, c, k, h], _, h0, hF, hq =>
    have gl := good_tup h0 l (by simp)
    have gs := good_tup h0 s (by simp)
    have gc := good_tup h0 c (by simp)
    have gk := good_tup h0 k (by simp)
    have gh := good_tup h0 h (by simp)
    walk_at "dw"
    refine ⟨rfl, l, rfl, good_pd gl, ?_⟩
    cases hil : intB l with
    | false =>
      walk_at "dw"
      refine iteT ?_
      walk_at "dl"
      refine rt_same (hF ?_)
      cases h <;> simp [stB, hil]
    | true =>
    obtain ⟨li, rfl⟩ : ∃ i, l = .int i := by cases l <;> first | cases hil; done | exact ⟨_, rfl⟩
    walk_at "dw"
    refine iteF ?_
    walk_at "dw"
    refine isi_tup gh ?_
    rcases (by cases h <;> simp [tupB] : (∃ hh, h = .tup hh) ∨ tupB h = false) with ⟨hh, rfl⟩ | hnt
    case inr =>
      rw [hnt]
      walk_at "dw"
      refine iteT ?_
      walk_at "dl"
      refine rt_same (hF ?_)
      cases h <;> first | (cases hnt; done) | rfl
    case inl =>
      walk_at "dw"
      refine iteF ?_
      walk_at "dw"
      by_cases hl0 : 0 ≤ li
      case neg =>
        rw [decide_eq_false hl0]
        refine iteT ?_
        walk_at "dl"
        refine rt_same (hF ?_)
        simp [stB, ivl, hl0]
      rw [decide_eq_true hl0]
      walk_at "dw"
      by_cases hl1 : li ≤ 4 - (hh.length : Int)
      case neg =>
        rw [decide_eq_false hl1]
        refine iteT ?_
        walk_at "dl"
        refine rt_same (hF ?_)
        simp [stB, ivl, hl1]
      rw [decide_eq_true hl1]
      refine iteF ?_
      refine i_next ?_
      walk_at "dw"
      refine ⟨rfl, k, rfl, good_pd gk, ?_⟩
      cases hik : intB k with
      | false =>
        walk_at "dw"
        refine iteT ?_
        walk_at "dl"
        refine rt_same (hF ?_)
        simp [stB, hik]
      | true =>
      obtain ⟨ki, rfl⟩ : ∃ i, k = .int i := by cases k <;> first | cases hik; done | exact ⟨_, rfl⟩
      walk_at "dw"
      refine iteF ?_
      walk_at "dw"
      refine ⟨rfl, s, ss, wSr, rfl, gs, wSr_good, ?_⟩
      walk_at "dw"
      cases hps : plB ss.length wSr s with
      | false =>
        refine iteT ?_
        walk_at "dl"
        refine rt_same (hF ?_)
        simp [stB, hps]
      | true =>
      refine iteF ?_
      refine i_next ?_
      walk_at "dw"
      have hlh : hh.length ≤ 4 := by omega
      refine ⟨line_ok (by omega), ?_⟩
      refine lcGo_map (fun d => .bl (plB hs.length wHr d)) trivial (fun d hd k z hk => ?_) ?_
      · walk_at "dl"
        refine iteT ?_
        walk_at "dl"
        exact ⟨rfl, d, hs, wHr, rfl, good_tup gh d hd, wHr_good, hk _ (.refl _)⟩
      walk_at "dl"
      refine i_all (bs := hh.map (plB hs.length wHr)) ?_ ?_
      · simp only [asL, List.map_map]
        rfl
      walk_at "dw"
      have e5 : (hh.map (plB hs.length wHr)).all id = hh.all (plB hs.length wHr) := by rw [List.all_map]; rfl
      rw [e5]
      cases hal : hh.all (plB hs.length wHr) with
      | false =>
        refine iteT ?_
        walk_at "dl"
        refine rt_same (hF ?_)
        simp only [stB, hal, Bool.false_and, Bool.and_false]
      | true =>
      refine iteF ?_
      have hpl : ∀ x ∈ hh, Plc x := fun x hx => plB_plc wHr_good (List.all_eq_true.mp hal x hx)
      walk_at "dw"
      refine ⟨rfl, .tup hh, hh, rfl, .inr (.inl rfl), hpl, by omega, ?_⟩
      have g2 : good (.tup (spl hh)) = true := good_tupI fun x hx => ⟨(hpl x ((spl_perm hh).mem_iff.mp hx)).good, by rw [(hpl x ((spl_perm hh).mem_iff.mp hx)).dep]; omega⟩
      refine i_neG gh g2 ?_
      show ite _ _ _
      cases hob : ordB hh with
      | false =>
        unfold ordB at hob
        rw [hob]
        refine iteT ?_
        walk_at "dl"
        refine rt_same (hF ?_)
        have : ordB hh = false := hob
        simp [stB, this]
      | true =>
      have hob' := hob
      unfold ordB at hob
      rw [hob]
      refine iteF ?_
      refine i_next ?_
      have e6 : stB hs.length ss.length (.tup [.int li, s, c, .int ki, .tup hh]) = crwB hs.length li ki c := by
        have a0 : decide (0 ≤ ivl (.int li)) = true := decide_eq_true hl0
        have a1 : decide (ivl (.int li) ≤ 4 - (hh.length : Int)) = true := decide_eq_true hl1
        simp only [stB, hps, hal, hob', a0, a1]
        rfl
      rw [e6] at hq
      walk_at "dw"
      cases c
      case non =>
        refine iteT ?_
        walk_at "dl"
        exact rt_same hq
      case ref => simp [good, pd] at gc
      case ty => simp [good, pd] at gc
      case ins => simp [good, pd] at gc
      all_goals
        rename_i cx
        refine iteF ?_
        refine i_next ?_
        walk_at "dw"
        refine ⟨rfl, _, hs, wHr, rfl, gc, wHr_good, ?_⟩
        walk_at "dw"
        simp only [crwB] at hq
        cases hpc : plB hs.length wHr _ with
        | false =>
          rw [hpc, Bool.false_and] at hq
          refine iteT ?_
          walk_at "dl"
          exact rt_same hq
        | true =>
        rw [hpc, Bool.true_and] at hq
        refine iteF ?_
        refine i_next ?_
        walk_at "dw"
        refine ⟨rfl, _, rfl, good_pd gc, (plB_plc wHr_good hpc).nbl, ?_⟩
        walk_at "dw"
        first
          | (rcases plB_plc wHr_good hpc with ⟨_, e⟩ | ⟨_, e, _⟩ <;> cases e; done)
          | (refine iteT ?_
             have hq' : q (.bl (decide (1 ≤ ki) && decide (ki ≤ li + 1))) O := hq
             walk_at "dw"
             by_cases hk1 : 1 ≤ ki
             · rw [decide_eq_true hk1, Bool.true_and] at hq'
               rw [decide_eq_true hk1]
               walk_at "dw"
               exact rt_same hq'
             · rw [decide_eq_false hk1, Bool.false_and] at hq'
               rw [decide_eq_false hk1]
               exact rt_same hq')
          | (refine iteF ?_
             walk_at "dw"
             exact rt_same hq)
  case ref => simp [good, pd] at h0
  case ty => simp [good, pd] at h0
  case ins => simp [good, pd] at h0
  all_goals
    walk_at "dw"
    refine iteT ?_
    walk_at "dl"
    exact rt_same (hF rfl)
end
end K24

set_option Elab.async false
set_option linter.all false
set_option maxRecDepth 100000
set_option maxHeartbeats 4000000
namespace K24
open PySem PySem.Spec PyProof.Rows L2 DL
open ClX (CRead CVal)
local macro_rules | `(tactic| walk_at "d1") => `(tactic| first | ((with_reducible apply i_var); exact rfl) | ((with_reducible apply i_gtup); exact rfl) | ((with_reducible apply i_augI); exact rfl) | ((with_reducible apply i_ixT); exact rfl) | ((with_reducible apply i_ixL); exact rfl) | with_reducible refine i_seq ?_ | with_reducible refine i_asg ?_ | with_reducible refine i_gname ?_ | with_reducible refine i_c ?_ | with_reducible refine i_op ?_ | with_reducible refine i_cb ?_ | with_reducible refine i_cons ?_ | with_reducible refine i_nil ?_ | with_reducible refine i_expr ?_ | with_reducible refine i_ret ?_ | with_reducible refine i_retN ?_ | with_reducible refine i_next ?_ | with_reducible refine i_for ?_ | with_reducible refine i_par ?_ | with_reducible refine i_test ?_ | with_reducible refine i_tup ?_ | with_reducible refine i_lst ?_ | ((with_reducible refine i_sz ?_ ?_); (focus exact Nat.le_of_ble_eq_true rfl)) | with_reducible refine i_lstO ?_ | with_reducible refine i_break ?_ | with_reducible refine i_cont ?_ | with_reducible refine i_gnil ?_ | with_reducible refine i_gcons ?_ | with_reducible refine i_tru ?_ | with_reducible refine i_and ?_ | with_reducible refine i_or ?_ | with_reducible refine i_not ?_ | with_reducible refine i_andV ?_ | with_reducible refine i_orV ?_ | with_reducible refine i_notV ?_ | with_reducible refine i_neg ?_ | with_reducible refine i_chain ?_ | with_reducible refine i_call ?_ | with_reducible refine i_callK ?_ | with_reducible refine i_append ?_ | with_reducible refine i_gsub ?_ | with_reducible refine i_sl ?_ | with_reducible refine i_slT ?_ | with_reducible refine i_slL ?_ | with_reducible refine i_oN ?_ | with_reducible refine i_oS ?_ | with_reducible refine i_lc ?_ | with_reducible refine i_lcO ?_ | with_reducible refine i_yes ?_ | with_reducible refine i_listRg1 ?_ | with_reducible refine i_rg1 ?_ | with_reducible refine i_rg2 ?_ | with_reducible refine i_seqI ?_ | with_reducible refine i_seqT ?_ | with_reducible refine i_seqL ?_ | with_reducible refine i_lt ?_ | with_reducible refine i_le ?_ | with_reducible refine i_gt ?_ | with_reducible refine i_ge ?_ | with_reducible refine i_sub ?_ | with_reducible refine i_addI ?_ | with_reducible refine i_int ?_ | with_reducible refine i_intb ?_ | with_reducible refine i_abs ?_ | with_reducible refine i_min2 ?_ | with_reducible refine i_max2 ?_ | with_reducible refine i_isN ?_ | with_reducible refine i_notN ?_ | with_reducible refine i_lenL ?_ | with_reducible refine i_lenT ?_ | ((with_reducible apply i_ixO); (focus (first | assumption | exact setO_same | (rw [setO_ne (by assumption)]; first | assumption | exact setO_same))); exact rfl) | ((with_reducible apply i_lenO); (focus (first | assumption | exact setO_same | (rw [setO_ne (by assumption)]; first | assumption | exact setO_same)))) | ((with_reducible apply i_appK); (focus (first | assumption | exact setO_same | (rw [setO_ne (by assumption)]; first | assumption | exact setO_same)))) | ((with_reducible apply i_subK); (focus (first | assumption | exact setO_same | (rw [setO_ne (by assumption)]; first | assumption | exact setO_same))); exact rfl) | ((with_reducible apply i_slO); (focus (first | assumption | exact setO_same | (rw [setO_ne (by assumption)]; first | assumption | exact setO_same)))) | ((with_reducible apply i_seqO); (focus (first | assumption | exact setO_same | (rw [setO_ne (by assumption)]; first | assumption | exact setO_same)))) | ((with_reducible apply i_appK2); (focus (first | assumption | exact setO_same | (rw [setO_ne (by assumption)]; first | assumption | exact setO_same)))) | with_reducible refine i_ice ?_ | with_reducible refine i_iceL ?_ | ((with_reducible apply i_iceK); (focus (first | assumption | exact setO_same | (rw [setO_ne (by assumption)]; first | assumption | exact setO_same)))) | with_reducible refine i_fld ?_ | ((with_reducible apply i_fldK); (focus (first | assumption | exact setO_same | (rw [setO_ne (by assumption)]; first | assumption | exact setO_same))); exact rfl) | with_reducible refine i_sfld ?_ | with_reducible refine i_make ?_ | with_reducible refine i_callK0 ?_ | with_reducible refine i_enum2 ?_ | with_reducible refine i_enumL ?_ | with_reducible refine i_enumT ?_ | with_reducible refine i_par3 ?_ | with_reducible refine i_dsp2 ?_ | ((with_reducible apply i_isi (b := true)); exact rfl; exact rfl; exact rfl) | ((with_reducible apply i_isi (b := false)); exact rfl; exact rfl; exact rfl) | with_reducible refine i_eqI ?_ | with_reducible refine i_neI ?_ | with_reducible refine i_truB ?_ | ((with_reducible apply i_fldI); exact rfl) | with_reducible refine i_iceI ?_ | with_reducible refine i_join ?_ | with_reducible refine i_dict0 ?_ | with_reducible refine i_isiI ?_ | with_reducible refine i_ownIn ?_ | with_reducible refine i_ownEq ?_ | with_reducible refine i_ownLen ?_ | with_reducible refine i_ownStr ?_ | with_reducible refine i_strS ?_ | with_reducible refine i_fmt ?_ | with_reducible refine i_pop ?_ | with_reducible refine i_listRg2 ?_ | with_reducible refine i_listRg2O ?_ | ((with_reducible apply i_popK); (focus (first | assumption | exact setO_same | (rw [setO_ne (by assumption)]; first | assumption | exact setO_same)))) | with_reducible refine i_raise ?_ | with_reducible refine i_tryAs ?_ | with_reducible refine i_xf ?_ | ((with_reducible apply i_xfK); exact rfl) | with_reducible refine i_js ?_ | with_reducible refine i_js0 ?_ | with_reducible refine i_makeK0 ?_ | with_reducible refine i_own ?_ | with_reducible refine i_ownT ?_ | with_reducible refine i_lenZ ?_ | with_reducible refine i_sortZ ?_ | with_reducible refine i_setL ?_ | with_reducible refine i_sc ?_ | with_reducible refine i_key ?_ | with_reducible refine i_revL ?_ | with_reducible refine i_revT ?_ | with_reducible refine i_zip ?_ | with_reducible refine i_ltAI ?_ | with_reducible refine i_ltAS ?_ | with_reducible refine i_inRg1 ?_ | with_reducible refine i_inRg2 ?_ | with_reducible refine i_listRg1O ?_ | with_reducible refine i_tryM ?_ | with_reducible refine i_xi ?_ | with_reducible refine i_split ?_ | with_reducible refine i_m0 ?_ | with_reducible refine i_m0K ?_ | with_reducible refine i_starA ?_ | with_reducible refine i_cm ?_ | with_reducible refine i_cmK ?_ | ((with_reducible apply i_makeL); exact rfl) | with_reducible refine i_int2I ?_ | with_reducible refine i_int2B ?_ | with_reducible refine i_clear ?_ | ((with_reducible apply i_clearK); (focus (first | assumption | exact setO_same | (rw [setO_ne (by assumption)]; first | assumption | exact setO_same)))) | with_reducible refine i_meth ?_ | with_reducible refine i_dput ?_ | with_reducible refine i_dict0N ?_ | with_reducible refine i_dc ?_ | with_reducible refine i_dct ?_ | with_reducible refine i_ckw ?_ | with_reducible refine i_iceA ?_ | with_reducible refine i_get2 ?_ | with_reducible refine i_prop ?_ | with_reducible refine i_propI ?_ | ((with_reducible apply i_methI); exact rfl) | ((with_reducible apply i_methO); (focus (first | assumption | exact setO_same | (rw [setO_ne (by assumption)]; first | assumption | exact setO_same))); exact rfl))
local macro_rules | `(tactic| walk_at "dl") => `(tactic| repeat (walk_at "d1"))
local macro_rules | `(tactic| walk_at "dw") => `(tactic| repeat (first | with_reducible refine i_if ?_ | with_reducible refine i_ifE ?_ | walk_at "d1"))

/-! ### places in order, in plain words -/
def leK : Key → Key → Bool
  | .inl i, .inl j => decide (i ≤ j)
  | .inl _, .inr _ => true
  | .inr _, .inl _ => false
  | .inr s, .inr t => decide (s.cps.toList ≤ t.cps.toList)
theorem leK_tr : ∀ a b c : Key, leK a b = true → leK b c = true → leK a c = true
  | .inl a, .inl b, .inl c, h1, h2 => by simp only [leK, decide_eq_true_eq] at *; omega
  | .inl a, .inl b, .inr c, h1, h2 => rfl
  | .inl a, .inr b, .inl c, h1, h2 => by cases h2
  | .inl a, .inr b, .inr c, h1, h2 => rfl
  | .inr a, .inl b, _, h1, h2 => by cases h1
  | .inr a, .inr b, .inl c, h1, h2 => by cases h2
  | .inr a, .inr b, .inr c, h1, h2 => by simp only [leK, decide_eq_true_eq] at *; exact List.le_trans h1 h2
theorem leK_tot : ∀ a b : Key, (leK a b || leK b a) = true
  | .inl a, .inl b => by simp only [leK, Bool.or_eq_true, decide_eq_true_eq]; omega
  | .inl a, .inr b => rfl
  | .inr a, .inl b => rfl
  | .inr a, .inr b => by simp only [leK, Bool.or_eq_true, decide_eq_true_eq]; exact List.le_total _ _
theorem leK_anti : ∀ a b : Key, leK a b = true → leK b a = true → a = b
  | .inl a, .inl b, h1, h2 => by simp only [leK, decide_eq_true_eq] at *; rw [show a = b by omega]
  | .inl a, .inr b, h1, h2 => by cases h2
  | .inr a, .inl b, h1, h2 => by cases h1
  | .inr a, .inr b, h1, h2 => by simp only [leK, decide_eq_true_eq] at *; rw [str_antisymm h1 h2]
theorem srt_int (ns : List Int) : srtD (ns.map D.int) = (ns.mergeSort fun a b => decide (a ≤ b)).map D.int := by
  symm
  refine List.map_mergeSort fun a _ b _ => ?_
  have := congrFun (congrFun (PySem.W.dataLe_int (fun b : Int => b)) a) b
  rw [← this]
  rfl
def kis : List Key → List Int := List.filterMap fun k => match k with | .inl i => some i | _ => none
def kss : List Key → List Str := List.filterMap fun k => match k with | .inr s => some s | _ => none
theorem kis_filter : ∀ ks : List Key, (ks.map datM).filter isRw = (kis ks).map D.int
  | [] => rfl
  | .inl i :: ks => by simp only [List.map_cons, datM, List.filter_cons, isRw, if_true, kis_filter ks, kis, List.filterMap_cons]
  | .inr s :: ks => by
    simp only [List.map_cons, datM, List.filter_cons, isRw, kis, List.filterMap_cons]
    exact kis_filter ks
theorem kss_filter : ∀ ks : List Key, (ks.map datM).filter (fun d => !isRw d) = (kss ks).map D.str
  | [] => rfl
  | .inr i :: ks => by
    rw [List.map_cons, List.filter_cons_of_pos rfl, kss_filter ks]
    rfl
  | .inl s :: ks => by
    simp only [List.map_cons, datM, List.filter_cons, isRw, kss, List.filterMap_cons]
    exact kss_filter ks
/-- the places in order -/
def sok (ks : List Key) : List Key := ks.mergeSort leK
def sok2 (ks : List Key) : List Key := ((kis ks).mergeSort fun a b => decide (a ≤ b)).map .inl ++ ((kss ks).mergeSort fun a b => decide (a.cps.toList ≤ b.cps.toList)).map .inr
theorem spl_sok2 (ks : List Key) : spl (ks.map datM) = (sok2 ks).map datM := by
  unfold spl sok2
  rw [kis_filter, kss_filter, srt_int, srt_str, List.map_append, List.map_map, List.map_map]
  rfl
theorem key_perm : ∀ ks : List Key, ((kis ks).map Sum.inl ++ (kss ks).map Sum.inr : List Key).Perm ks
  | [] => .nil
  | .inl i :: ks => by
    simp only [kis, kss, List.filterMap_cons, List.map_cons, List.cons_append]
    exact (key_perm ks).cons _
  | .inr s :: ks => by
    simp only [kis, kss, List.filterMap_cons, List.map_cons]
    exact List.perm_middle.trans ((key_perm ks).cons _)
theorem sok2_perm (ks : List Key) : (sok2 ks).Perm ks := (((List.mergeSort_perm _ _).map _).append ((List.mergeSort_perm _ _).map _)).trans (key_perm ks)
theorem sok2_pw (ks : List Key) : (sok2 ks).Pairwise fun a b => leK a b = true := by
  unfold sok2
  rw [List.pairwise_append]
  refine ⟨List.pairwise_map.mpr ?_, List.pairwise_map.mpr ?_, fun a ha b hb => ?_⟩
  · exact List.pairwise_mergeSort (le := fun a b : Int => decide (a ≤ b)) (fun a b c h1 h2 => by simp only [decide_eq_true_eq] at *; omega) (fun a b => by simp only [Bool.or_eq_true, decide_eq_true_eq]; omega) _
  · exact List.pairwise_mergeSort (le := fun a b : Str => decide (a.cps.toList ≤ b.cps.toList)) (fun a b c h1 h2 => by simp only [decide_eq_true_eq] at *; exact List.le_trans h1 h2) (fun a b => by simp only [Bool.or_eq_true, decide_eq_true_eq]; exact List.le_total _ _) _
  · obtain ⟨_, _, rfl⟩ := List.mem_map.mp ha
    obtain ⟨_, _, rfl⟩ := List.mem_map.mp hb
    rfl
theorem sok_eq (ks : List Key) : sok2 ks = sok ks :=
  List.Perm.eq_of_pairwise (fun a b _ _ h1 h2 => leK_anti a b h1 h2) (sok2_pw ks) (List.pairwise_mergeSort leK_tr leK_tot ks) ((sok2_perm ks).trans (List.mergeSort_perm ks _).symm)
theorem spl_sok (ks : List Key) : spl (ks.map datM) = (sok ks).map datM := by rw [spl_sok2, sok_eq]
theorem sok_id {ks : List Key} : sok ks = ks ↔ ks.Pairwise fun a b => leK a b = true :=
  ⟨fun e => by rw [← e]; exact List.pairwise_mergeSort leK_tr leK_tot ks, fun h => List.mergeSort_of_pairwise h⟩
theorem map_datM_inj {a b : List Key} (h : a.map datM = b.map datM) : a = b := List.map_inj_right (fun _ _ => datM_inj) |>.mp h
theorem plc_keys : ∀ {hs : List D}, (∀ x ∈ hs, Plc x) → ∃ ks : List Key, hs = ks.map datM
  | [], _ => ⟨[], rfl⟩
  | h :: hs, hp => by
    obtain ⟨ks, rfl⟩ := plc_keys fun x hx => hp x (List.mem_cons_of_mem _ hx)
    rcases hp h List.mem_cons_self with ⟨i, rfl⟩ | ⟨s, rfl, _⟩
    · exact ⟨.inl i :: ks, rfl⟩
    · exact ⟨.inr s :: ks, rfl⟩
theorem nb_datM (ks : List Key) : nbs (ks.map datM) = true := by
  induction ks with
  | nil => rfl
  | cons k ks ih => cases k <;> simp [datM, nbs, nb, ih]
theorem ordB_iff {ks : List Key} : ordB (ks.map datM) = true ↔ ks.Pairwise fun a b => leK a b = true := by
  unfold ordB
  rw [eqv_iff (by rw [nb]; exact nb_datM ks) (by rw [nb, spl_sok]; exact nb_datM _), spl_sok]
  constructor
  · intro e
    injection e with e
    exact sok_id.mp (map_datM_inj e).symm
  · intro h
    rw [sok_id.mpr h]
/-- a place behind another one -/
def stpOk : D → D → Bool
  | .str _, .int _ => false
  | .str s, .str t => !decide (t.cps.toList < s.cps.toList)
  | .int i, .int j => !decide (j < i)
  | _, _ => true
theorem stp_le : ∀ a b : Key, stpOk (datM a) (datM b) = leK a b
  | .inl a, .inl b => by simp only [datM, stpOk, leK]; rw [Bool.eq_iff_iff]; simp
  | .inl a, .inr b => rfl
  | .inr a, .inl b => rfl
  | .inr a, .inr b => by simp only [datM, stpOk, leK]; rw [Bool.eq_iff_iff]; simp [List.not_lt]
def ordL (hs : List D) : Bool := (hs.zip hs.tail).all fun p => stpOk p.1 p.2
theorem ordL_pw : ∀ ks : List Key, ordL (ks.map datM) = true ↔ ks.Pairwise fun a b => leK a b = true
  | [] => by simp [ordL]
  | [a] => by simp [ordL]
  | a :: b :: ks => by
    have ih := ordL_pw (b :: ks)
    have e : ordL ((a :: b :: ks).map datM) = (leK a b && ordL ((b :: ks).map datM)) := by
      rw [← stp_le]
      rfl
    rw [e, Bool.and_eq_true, ih]
    constructor
    · rintro ⟨h1, h2⟩
      refine List.pairwise_cons.mpr ⟨fun x hx => ?_, h2⟩
      rcases List.mem_cons.mp hx with rfl | hx
      · exact h1
      · exact leK_tr _ _ _ h1 ((List.pairwise_cons.mp h2).1 x hx)
    · intro h
      obtain ⟨h1, h2⟩ := List.pairwise_cons.mp h
      exact ⟨h1 b List.mem_cons_self, h2⟩
theorem ord_same {hs : List D} (h : ∀ x ∈ hs, Plc x) : ordL hs = ordB hs := by
  obtain ⟨ks, rfl⟩ := plc_keys h
  rw [Bool.eq_iff_iff, ordL_pw, ordB_iff]
section
variable {P : Program} {w : World} {K : Frag} {mg : Str → Option Value} {base : Heap}
/-! ### what is due -/
def f_law_is_number : DF := fun ds O q _ => ∃ d, ds = [d] ∧ pd d = true ∧ q (.bl (intB d)) O
abbrev N_law_is_number : List Str := ["_law_thing"]
abbrev P_law_is_number : List Str := ["_law_thing"]
theorem sc_law_is_number : FnScope N_law_is_number P_law_is_number (defScope s_law_is_number) := ⟨rfl, rfl, rfl, by decide +kernel, rfl, by decide +kernel, by decide +kernel⟩
theorem bd_law_is_number : Bd0 "_law_is_number" "_law_is_number" s_law_is_number P_law_is_number := fun _ _ _ _ _ _ us hl => match us, hl with | [_], _ => rfl
abbrev Fn_law_is_number (P : Program) (w : World) (K : Frag) (mg : Str → Option Value) (base : Heap) : Prop := Fn P w K mg base "_law_is_number" "_law_is_number" s_law_is_number [] [] P_law_is_number 1 1 f_law_is_number (He.ga K "_law_is_number")
theorem ok_law_is_number {P : Program} {w : World} {K : Frag} {mg : Str → Option Value} {base : Heap} (F : HasD K "_law_is_number" "_law_is_number" s_law_is_number [] [] (He.ga K "_law_is_number")) (T : Txt K mg) : Fn_law_is_number P w K mg base := by
  have sc := sc_law_is_number
  refine fn_E (k := 0) F sc rfl fun cdv A outer s H E O0 H0 F0 ds O q xx hl hf S => ⟨_,
      (ds_one (ds_ret (de_and (so_isi S rfl T.b_isinstance (da_cons (de_var (pv 0)) (da_cons (so_ty (n := "int") rfl T.b_int) da_nil))) (de_one (de_not (so_isi S rfl T.b_isinstance (da_cons (de_var (pv 0)) (da_cons (so_ty (n := "bool") rfl T.b_bool) da_nil))))))))
      , ?_⟩
  obtain ⟨d, rfl, h0, hq⟩ := hf
  cases d <;> simp [pd] at h0 <;> (walk_at "dl"; exact rt_same hq)
def f_law_is_place : DF := fun ds O q _ => ∃ d rs ws, ds = [d, .lst rs, .lst (ws.map D.str)] ∧ good d = true ∧ ws.all strGood = true ∧ rs.length ≤ 1000 ∧ q (.bl (plB rs.length ws d)) O
abbrev N_law_is_place : List Str := ["_law_thing", "_law_rows", "_law_words"]
abbrev P_law_is_place : List Str := ["_law_thing", "_law_rows", "_law_words"]
theorem sc_law_is_place : FnScope N_law_is_place P_law_is_place (defScope s_law_is_place) := ⟨rfl, rfl, rfl, by decide +kernel, rfl, by decide +kernel, by decide +kernel⟩
theorem bd_law_is_place : Bd0 "_law_is_place" "_law_is_place" s_law_is_place P_law_is_place := fun _ _ _ _ _ _ us hl => match us, hl with | [_, _, _], _ => rfl
abbrev Fn_law_is_place (P : Program) (w : World) (K : Frag) (mg : Str → Option Value) (base : Heap) : Prop := Fn P w K mg base "_law_is_place" "_law_is_place" s_law_is_place [] [] P_law_is_place 3 2 f_law_is_place (He.ga K "_law_is_place")
structure C_law_is_place (P : Program) (w : World) (K : Frag) (mg : Str → Option Value) (base : Heap) : Prop where
  law_is_number : Fn_law_is_number P w K mg base
theorem ok_law_is_place {P : Program} {w : World} {K : Frag} {mg : Str → Option Value} {base : Heap} (F : HasD K "_law_is_place" "_law_is_place" s_law_is_place [] [] (He.ga K "_law_is_place")) (T : Txt K mg) (C : C_law_is_place P w K mg base) : Fn_law_is_place P w K mg base := by
  have sc := sc_law_is_place
  refine fn_E (k := 1) F sc rfl fun cdv A outer s H E O0 H0 F0 ds O q xx hl hf S => ⟨_,
      (ds_cons (ds_if (st_tru S (so_isi S rfl T.b_isinstance (da_cons (de_var (pv 0)) (da_cons (so_ty (n := "str") rfl T.b_str) da_nil))))
       (ds_one (ds_ret (so_in S (de_var (pv 0)) (de_var (pv 2)))))
       ds_nil)
      (ds_one (ds_ret (de_and (so_callF S C.law_is_number (by decide) T.g_law_is_number bd_law_is_number rfl (da_cons (de_var (pv 0)) da_nil)) (de_one (so_inRg1 S rfl T.b_range (de_var (pv 0)) (so_len S rfl T.b_len (da_cons (de_var (pv 1)) da_nil))))))))
      , ?_⟩
  obtain ⟨d, rs, ws, rfl, h0, h1, h2, hq⟩ := hf
  walk_at "dw"
  cases d
  case ref => simp [good, pd] at h0
  case ty => simp [good, pd] at h0
  case ins => simp [good, pd] at h0
  case str x =>
    walk_at "dw"
    refine iteT ?_
    walk_at "dl"
    exact i_inStrL (good_of_str h0) h1 (rt_same hq)
  case int i =>
    walk_at "dw"
    refine iteF ?_
    refine i_next ?_
    walk_at "dw"
    refine ⟨rfl, _, rfl, rfl, ?_⟩
    dsimp only [intB]
    walk_at "dw"
    refine rt_same (q := q) ?_
    have e : decide (0 ≤ i ∧ i < (rs.length : Int)) = plB rs.length ws (.int i) := by
      show _ = (decide (0 ≤ i) && decide (i < (rs.length : Int)))
      rw [Bool.eq_iff_iff]; simp
    rw [e]
    exact hq
  all_goals
    walk_at "dw"
    refine iteF ?_
    refine i_next ?_
    walk_at "dw"
    refine ⟨rfl, _, rfl, good_pd h0, ?_⟩
    exact rt_same hq
def f_law_is_in_order : DF := fun ds O q _ => ∃ hs, ds = [.tup hs] ∧ (∀ x ∈ hs, Plc x) ∧ hs.length ≤ 1000 ∧ q (.bl (ordL hs)) O
abbrev N_law_is_in_order : List Str := ["_law_places", "_law_one", "_law_other"]
abbrev P_law_is_in_order : List Str := ["_law_places"]
theorem sc_law_is_in_order : FnScope N_law_is_in_order P_law_is_in_order (defScope s_law_is_in_order) := ⟨rfl, rfl, rfl, by decide +kernel, rfl, by decide +kernel, by decide +kernel⟩
theorem bd_law_is_in_order : Bd0 "_law_is_in_order" "_law_is_in_order" s_law_is_in_order P_law_is_in_order := fun _ _ _ _ _ _ us hl => match us, hl with | [_], _ => rfl
abbrev Fn_law_is_in_order (P : Program) (w : World) (K : Frag) (mg : Str → Option Value) (base : Heap) : Prop := Fn P w K mg base "_law_is_in_order" "_law_is_in_order" s_law_is_in_order [] [] P_law_is_in_order 1 1 f_law_is_in_order (He.ga K "_law_is_in_order")
theorem ok_law_is_in_order {P : Program} {w : World} {K : Frag} {mg : Str → Option Value} {base : Heap} (F : HasD K "_law_is_in_order" "_law_is_in_order" s_law_is_in_order [] [] (He.ga K "_law_is_in_order")) (T : Txt K mg) : Fn_law_is_in_order P w K mg base := by
  have sc := sc_law_is_in_order
  refine fn_E (k := 0) F sc rfl fun cdv A outer s H E O0 H0 F0 ds O q xx hl hf S => ⟨_,
      (ds_cons (ds_for (ps_for S.po rfl (di_zip S rfl T.b_zip (da_cons (de_var (pv 0)) (da_cons (de_slice rfl (de_var (pv 0)) (do_some de_int) do_none) da_nil))) (dg_tup rfl rfl (dgs_cons (dg_name (pg_name (i := 1) sc.nd rfl (by first | exact Or.inl rfl | exact Or.inr rfl))) (dgs_cons (dg_name (pg_name (i := 2) sc.nd rfl (by first | exact Or.inl rfl | exact Or.inr rfl))) dgs_nil)))
       (ds_cons (ds_if (PW.pt (dw_and (st_tru S (so_isi S rfl T.b_isinstance (da_cons (de_var (pv 1)) (da_cons (so_ty (n := "str") rfl T.b_str) da_nil)))) (dw_and1 (dt_not (st_tru S (so_isi S rfl T.b_isinstance (da_cons (de_var (pv 2)) (da_cons (so_ty (n := "str") rfl T.b_str) da_nil))))))))
        (ds_one (ds_ret de_bl))
        ds_nil)
       (ds_one (ds_if (PW.pt (dw_and (st_eq S (so_isi S rfl T.b_isinstance (da_cons (de_var (pv 1)) (da_cons (so_ty (n := "str") rfl T.b_str) da_nil))) (so_isi S rfl T.b_isinstance (da_cons (de_var (pv 2)) (da_cons (so_ty (n := "str") rfl T.b_str) da_nil)))) (dw_and1 (st_ltA S (de_var (pv 2)) (de_var (pv 1))))))
        (ds_one (ds_ret de_bl))
        ds_nil)))))
      (ds_one (ds_ret de_bl)))
      , ?_⟩
  obtain ⟨hs, rfl, hp, hl, hq⟩ := hf
  walk_at "dl"
  have hcut : DL.cutD hs (some 1) none = hs.tail := by
    cases hs with
    | nil => rfl
    | cons d ds =>
      unfold DL.cutD
      rw [show (some 1 : Option Int) = some ((1 : Nat) : Int) from rfl, HT.sIx_nat, HT.sIx_none]
      simp
  rw [hcut]
  refine ⟨hs, hs.tail, .inl ⟨rfl, rfl, ?_⟩⟩
  refine forGo_inv (fun i env O' => (∃ x1 x2 : Option D, env = [some (.tup hs), x1, x2]) ∧ O' = O ∧ ∀ j p, j < i → (hs.zip hs.tail)[j]? = some p → stpOk p.1 p.2 = true) ⟨⟨_, _, rfl⟩, rfl, fun j p h => absurd h (Nat.not_lt_zero _)⟩ (fun _ _ _ _ _ => trivial) ?_ ?_
  · rintro N i d env O2 hd ⟨⟨x1, x2, rfl⟩, rfl, hinv⟩ hN
    unfold zipD at hd
    rw [List.getElem?_map] at hd
    obtain ⟨⟨a, b⟩, hab, rfl⟩ := Option.map_eq_some_iff.mp hd
    obtain ⟨ha, hb⟩ := List.getElem?_zip_eq_some.mp hab
    have pa := hp a (List.mem_of_getElem? ha)
    have pb := hp b (List.mem_of_mem_tail (List.mem_of_getElem? hb))
    have hbad : stpOk a b = false → q (.bl false) O2 := fun e => by
      have : ordL hs = false := by
        rw [Bool.eq_false_iff]
        intro z
        have := List.all_eq_true.mp z _ (List.mem_of_getElem? hab)
        rw [e] at this
        cases this
      rw [this] at hq
      exact hq
    have hgood : stpOk a b = true → ∀ j p, j < i + 1 → (hs.zip hs.tail)[j]? = some p → stpOk p.1 p.2 = true := fun e j p hj hjp => by
      rcases Nat.lt_succ_iff_lt_or_eq.mp hj with h | rfl
      · exact hinv j p h hjp
      · rw [hab] at hjp
        cases hjp
        exact e
    change dgTup _ _ (D.tup [a, b]) _ _ _
    rcases pa with ⟨ia, rfl⟩ | ⟨sa, rfl, ga⟩ <;> rcases pb with ⟨ib, rfl⟩ | ⟨sb, rfl, gb⟩
    · walk_at "dw"
      refine iteF ?_
      refine i_next ?_
      walk_at "dw"
      refine i_eqG (good_bl _) (good_bl _) ?_
      refine iteT ?_
      walk_at "dw"
      refine if_d (fun h => ?_) (fun h => ?_)
      · walk_at "dl"
        exact rt_same (hbad (by simp [stpOk, h]))
      · refine i_next ?_
        exact hN _ _ _ (.refl _) ⟨⟨_, _, rfl⟩, rfl, hgood (by simp [stpOk]; omega)⟩
    · walk_at "dw"
      refine iteF ?_
      refine i_next ?_
      walk_at "dw"
      refine i_eqG (good_bl _) (good_bl _) ?_
      refine iteF ?_
      refine i_next ?_
      exact hN _ _ _ (.refl _) ⟨⟨_, _, rfl⟩, rfl, hgood rfl⟩
    · walk_at "dw"
      refine iteT ?_
      walk_at "dl"
      exact rt_same (hbad rfl)
    · walk_at "dw"
      refine iteT ?_
      walk_at "dw"
      refine iteF ?_
      refine i_next ?_
      walk_at "dw"
      refine i_eqG (good_bl _) (good_bl _) ?_
      refine iteT ?_
      walk_at "dw"
      refine if_d (fun h => ?_) (fun h => ?_)
      · walk_at "dl"
        exact rt_same (hbad (by simp only [stpOk, decide_eq_true h]; rfl))
      · refine i_next ?_
        exact hN _ _ _ (.refl _) ⟨⟨_, _, rfl⟩, rfl, hgood (by simp only [stpOk, decide_eq_false h]; rfl)⟩
  · rintro env O2 ⟨⟨x1, x2, rfl⟩, rfl, hinv⟩
    walk_at "dl"
    have : ordL hs = true := List.all_eq_true.mpr fun p hp => by
      obtain ⟨j, hj⟩ := List.mem_iff_getElem?.mp hp
      refine hinv j p ?_ hj
      have := (List.getElem?_eq_some_iff.mp hj).1
      simpa [zipD] using this
    rw [this] at hq
    exact rt_same hq
/-- a value that is small enough to be gone through -/
structure Fit (d : D) : Prop where
  g : good d = true
  l : ∀ ds, d = .tup ds → ds.length ≤ 100 ∧ ∀ xs, .tup xs ∈ ds → xs.length ≤ 100
theorem any_false {f : D → Bool} : ∀ xs : List D, ((xs.map fun d => D.bl (f d)).any fun r => PyData.eqv (py r) (py (.bl false))) = !(xs.all f)
  | [] => rfl
  | x :: xs => by
    rw [List.map_cons, List.any_cons, any_false xs, List.all_cons]
    have : PyData.eqv (py (.bl (f x))) (py (.bl false)) = !f x := by
      cases f x <;> rfl
    rw [this]
    cases f x <;> rfl
theorem gnlt : ∀ d ∈ [D.non, D.str "lost", D.str "taken"], good d = true ∧ (py d).depth ≤ 60 := by
  intro d hd
  simp only [List.mem_cons, List.mem_nil_iff, or_false] at hd
  rcases hd with rfl | rfl | rfl
  · exact ⟨good_non, by simp [py, PyData.depth]⟩
  · exact ⟨good_str (by decide +kernel), by simp [py, PyData.depth]⟩
  · exact ⟨good_str (by decide +kernel), by simp [py, PyData.depth]⟩
theorem any_nlt (x : Str) : ([D.non, D.str "lost", D.str "taken"].any fun r => PyData.eqv (py r) (py (.str x))) = wHr.contains x := by
  rw [← any_strs wHr]
  simp [wHr, pys, py, PyData.eqv]
def f_law_due : DF := fun ds O q _ => ∃ hs ss d, ds = [.tup [.lst hs, .lst ss], d] ∧ Fit d ∧ hs.length ≤ 100 ∧ ss.length ≤ 100 ∧ q (.bl (stB hs.length ss.length d)) O
abbrev N_law_due : List Str := ["_law_machines", "_law_thing", "_law_hearer", "_law_sender", "_law_left", "_law_mouth", "_law_crowd", "_law_many", "_law_hit", "_law_place"]
abbrev P_law_due : List Str := ["_law_machines", "_law_thing"]
theorem sc_law_due : FnScope N_law_due P_law_due (defScope s_law_due) := ⟨rfl, rfl, rfl, by decide +kernel, rfl, by decide +kernel, by decide +kernel⟩
theorem bd_law_due : Bd0 "_law_due" "_law_due" s_law_due P_law_due := fun _ _ _ _ _ _ us hl => match us, hl with | [_, _], _ => rfl
abbrev Fn_law_due (P : Program) (w : World) (K : Frag) (mg : Str → Option Value) (base : Heap) : Prop := Fn P w K mg base "_law_due" "_law_due" s_law_due [] [] P_law_due 2 3 f_law_due (He.ga K "_law_due")
structure C_law_due (P : Program) (w : World) (K : Frag) (mg : Str → Option Value) (base : Heap) : Prop where
  law_is_in_order : Fn_law_is_in_order P w K mg base
  law_is_number : Fn_law_is_number P w K mg base
  law_is_place : Fn_law_is_place P w K mg base
theorem ok_law_due {P : Program} {w : World} {K : Frag} {mg : Str → Option Value} {base : Heap} (F : HasD K "_law_due" "_law_due" s_law_due [] [] (He.ga K "_law_due")) (T : Txt K mg) (C : C_law_due P w K mg base) : Fn_law_due P w K mg base := by
  have sc := sc_law_due
  refine fn_E (k := 2) F sc rfl fun cdv A outer s H E O0 H0 F0 ds O q xx hl hf S => ⟨_,
      (ds_cons (ds_asg (ps_asg (de_var (pv 0)) (dg_tup rfl rfl (dgs_cons (dg_name (pg_name (i := 2) sc.nd rfl (by first | exact Or.inl rfl | exact Or.inr rfl))) (dgs_cons (dg_name (pg_name (i := 3) sc.nd rfl (by first | exact Or.inl rfl | exact Or.inr rfl))) dgs_nil)))))
      (ds_cons (ds_if (PW.pt (dw_or (dt_not (st_tru S (so_isi S rfl T.b_isinstance (da_cons (de_var (pv 1)) (da_cons (so_ty (n := "tuple") rfl T.b_tuple) da_nil))))) (dw_or1 (st_ne S (so_len S rfl T.b_len (da_cons (de_var (pv 1)) da_nil)) de_int))))
       (ds_one (ds_ret de_bl))
       ds_nil)
      (ds_cons (ds_asg (ps_asg (de_var (pv 1)) (dg_tup rfl rfl (dgs_cons (dg_name (pg_name (i := 4) sc.nd rfl (by first | exact Or.inl rfl | exact Or.inr rfl))) (dgs_cons (dg_name (pg_name (i := 5) sc.nd rfl (by first | exact Or.inl rfl | exact Or.inr rfl))) (dgs_cons (dg_name (pg_name (i := 6) sc.nd rfl (by first | exact Or.inl rfl | exact Or.inr rfl))) (dgs_cons (dg_name (pg_name (i := 7) sc.nd rfl (by first | exact Or.inl rfl | exact Or.inr rfl))) (dgs_cons (dg_name (pg_name (i := 8) sc.nd rfl (by first | exact Or.inl rfl | exact Or.inr rfl))) dgs_nil))))))))
      (ds_cons (ds_if (PW.pt (dw_or (dt_not (st_tru S (so_callF S C.law_is_number (by decide) T.g_law_is_number bd_law_is_number rfl (da_cons (de_var (pv 4)) da_nil)))) (dw_or (st_lt S (de_var (pv 4)) de_int) (dw_or (dt_not (st_tru S (so_isi S rfl T.b_isinstance (da_cons (de_var (pv 8)) (da_cons (so_ty (n := "tuple") rfl T.b_tuple) da_nil))))) (dw_or1 (st_gt S (so_add S (de_var (pv 4)) (so_len S rfl T.b_len (da_cons (de_var (pv 8)) da_nil))) de_int))))))
       (ds_one (ds_ret de_bl))
       ds_nil)
      (ds_cons (ds_if (PW.pt (dw_or (dt_not (st_tru S (so_callF S C.law_is_number (by decide) T.g_law_is_number bd_law_is_number rfl (da_cons (de_var (pv 7)) da_nil)))) (dw_or1 (dt_not (st_tru S (so_callF S C.law_is_place (by decide) T.g_law_is_place bd_law_is_place rfl (da_cons (de_var (pv 5)) (da_cons (de_var (pv 3)) (da_cons (de_lst (da_cons de_str (da_cons de_str (da_cons de_str da_nil)))) da_nil)))))))))
       (ds_one (ds_ret de_bl))
       ds_nil)
      (ds_cons (ds_if (PW.pt (dw_or (st_in S de_bl (de_lc (simG_name (vs := [9]) (i := 9) (by decide)) (pe_lc (own := [("_law_place", 9)]) (g := (gName 9)) rfl sc.nd (di_seq S (de_var (pv 8))) (blkOk_by (own := [("_law_place", 9)]) (N := N_law_due) (sc := defScope s_law_due) (by decide +kernel)) (fun _ _ _ _ _ => (pg_name (i := 9) sc.nd rfl (by first | exact Or.inl rfl | exact Or.inr rfl))) (fun _ _ _ _ _ => dts_nil) (fun _ _ _ _ _ => (so_callF S.blk C.law_is_place (by decide) T.g_law_is_place bd_law_is_place rfl (da_cons (de_var (pv 9)) (da_cons (de_var (pv 2)) (da_cons (de_lst (da_cons de_str (da_cons de_str da_nil))) da_nil)))))))) (dw_or1 (dt_not (st_tru S (so_callF S C.law_is_in_order (by decide) T.g_law_is_in_order bd_law_is_in_order rfl (da_cons (de_var (pv 8)) da_nil)))))))
       (ds_one (ds_ret de_bl))
       ds_nil)
      (ds_cons (ds_if (PW.pt (dw_or (st_is S (de_var (pv 6)) de_non) (dw_or1 (st_tru S (so_isi S rfl T.b_isinstance (da_cons (de_var (pv 6)) (da_cons (so_ty (n := "str") rfl T.b_str) da_nil)))))))
       (ds_one (ds_ret (de_and (so_eq S (de_var (pv 7)) (so_int S rfl T.b_int (da_cons (so_isnot S (de_var (pv 6)) de_non) da_nil))) (de_one (so_in S (de_var (pv 6)) (de_lst (da_cons de_non (da_cons de_str (da_cons de_str da_nil)))))))))
       ds_nil)
      (ds_one (ds_ret (de_and (so_callF S C.law_is_place (by decide) T.g_law_is_place bd_law_is_place rfl (da_cons (de_var (pv 6)) (da_cons (de_var (pv 2)) (da_cons (de_lst da_nil) da_nil)))) (de_one (so_inRg2 S rfl T.b_range (de_var (pv 7)) (da_cons de_int (da_cons (so_add S (de_var (pv 4)) de_int) da_nil))))))))))))))
      , ?_⟩
  obtain ⟨hs, ss, d, rfl, ⟨h0, hfit⟩, l1, l2, hq⟩ := hf
  have hF : stB hs.length ss.length d = false → q (.bl false) O := fun e => by rw [e] at hq; exact hq
  walk_at "dw"
  refine isi_tup h0 ?_
  cases d
  case tup ts =>
    walk_at "dw"
    refine iteF ?_
    walk_at "dw"
    by_cases h3 : ((ts.length : Nat) : Int) = 5
    case neg =>
      rw [decide_eq_false h3]
      refine iteT ?_
      walk_at "dl"
      refine rt_same (hF ?_)
      unfold stB
      split
      · rename_i e; cases e; exact absurd rfl h3
      · rfl
    rw [decide_eq_true h3]
    refine iteF ?_
    match ts, h3, h0, hF, hq, hfit with
    | [l, s, c, k, h], _, h0, hF, hq, hfit =>
    have gl := good_tup h0 l (by simp)
    have gs := good_tup h0 s (by simp)
    have gc := good_tup h0 c (by simp)
    have gk := good_tup h0 k (by simp)
    have gh := good_tup h0 h (by simp)
    walk_at "dw"
    refine ⟨rfl, l, rfl, good_pd gl, ?_⟩
    cases hil : intB l with
    | false =>
      walk_at "dw"
      refine iteT ?_
      walk_at "dl"
      refine rt_same (hF ?_)
      cases h <;> simp [stB, hil]
    | true =>
    obtain ⟨li, rfl⟩ : ∃ i, l = .int i := by cases l <;> first | cases hil; done | exact ⟨_, rfl⟩
    walk_at "dw"
    refine iteF ?_
    walk_at "dw"
    by_cases hl0 : li < 0
    case pos =>
      rw [decide_eq_true hl0]
      refine iteT (iteT ?_)
      walk_at "dl"
      refine rt_same (hF ?_)
      have : ¬ 0 ≤ li := by omega
      cases h <;> simp [stB, ivl, this]
    rw [decide_eq_false hl0]
    refine iteF ?_
    walk_at "dw"
    refine isi_tup gh ?_
    rcases (by cases h <;> simp [tupB] : (∃ hh, h = .tup hh) ∨ tupB h = false) with ⟨hh, rfl⟩ | hnt
    case inr =>
      rw [hnt]
      walk_at "dw"
      refine iteT ?_
      walk_at "dl"
      refine rt_same (hF ?_)
      cases h <;> first | (cases hnt; done) | rfl
    case inl =>
      walk_at "dw"
      refine iteF ?_
      walk_at "dw"
      by_cases hl1 : 4 < li + (hh.length : Int)
      case pos =>
        rw [decide_eq_true hl1]
        refine iteT ?_
        walk_at "dl"
        refine rt_same (hF ?_)
        have : ¬ li ≤ 4 - (hh.length : Int) := by omega
        simp [stB, ivl, this]
      rw [decide_eq_false hl1]
      refine iteF ?_
      refine i_next ?_
      walk_at "dw"
      refine ⟨rfl, k, rfl, good_pd gk, ?_⟩
      cases hik : intB k with
      | false =>
        walk_at "dw"
        refine iteT ?_
        walk_at "dl"
        refine rt_same (hF ?_)
        simp [stB, hik]
      | true =>
      obtain ⟨ki, rfl⟩ : ∃ i, k = .int i := by cases k <;> first | cases hik; done | exact ⟨_, rfl⟩
      walk_at "dw"
      refine iteF ?_
      walk_at "dw"
      refine ⟨rfl, s, ss, wSr, rfl, gs, wSr_good, by omega, ?_⟩
      walk_at "dw"
      cases hps : plB ss.length wSr s with
      | false =>
        refine iteT ?_
        walk_at "dl"
        refine rt_same (hF ?_)
        simp [stB, hps]
      | true =>
      refine iteF ?_
      refine i_next ?_
      walk_at "dw"
      have hlh : hh.length ≤ 4 := by omega
      refine ⟨line_ok (by omega), ?_⟩
      refine lcGo_map (fun d => .bl (plB hs.length wHr d)) trivial (fun d hd k z hk => ?_) ?_
      · walk_at "dl"
        refine iteT ?_
        walk_at "dl"
        exact ⟨rfl, d, hs, wHr, rfl, good_tup gh d hd, wHr_good, by omega, hk _ (.refl _)⟩
      walk_at "dl"
      refine i_inL (good_bl _) (fun d hd => ?_) ?_
      · obtain ⟨_, _, rfl⟩ := List.mem_map.mp hd
        exact ⟨good_bl _, by simp [py, PyData.depth]⟩
      rw [any_false]
      cases hal : hh.all (plB hs.length wHr) with
      | false =>
        refine iteT (iteT ?_)
        walk_at "dl"
        refine rt_same (hF ?_)
        simp only [stB, hal, Bool.false_and, Bool.and_false]
      | true =>
      refine iteF ?_
      have hpl : ∀ x ∈ hh, Plc x := fun x hx => plB_plc wHr_good (List.all_eq_true.mp hal x hx)
      walk_at "dw"
      refine ⟨rfl, hh, rfl, hpl, by omega, ?_⟩
      walk_at "dw"
      rw [ord_same hpl]
      cases hob : ordB hh with
      | false =>
        refine iteT ?_
        walk_at "dl"
        refine rt_same (hF ?_)
        simp [stB, hob]
      | true =>
      refine iteF ?_
      refine i_next ?_
      have e6 : stB hs.length ss.length (.tup [.int li, s, c, .int ki, .tup hh]) = crwB hs.length li ki c := by
        have a0 : decide (0 ≤ ivl (.int li)) = true := decide_eq_true (by show 0 ≤ li; omega)
        have a1 : decide (ivl (.int li) ≤ 4 - (hh.length : Int)) = true := decide_eq_true (by show li ≤ _; omega)
        simp only [stB, hps, hal, hob, a0, a1]
        rfl
      rw [e6] at hq
      walk_at "dw"
      cases c
      case ref => simp [good, pd] at gc
      case ty => simp [good, pd] at gc
      case ins => simp [good, pd] at gc
      case non =>
        refine iteT (iteT ?_)
        walk_at "dl"
        have hq' : q (.bl (decide (ki = 0))) O := hq
        refine i_andK (b := decide (ki = 0)) ?_
        refine if_d (fun hk => ?_) (fun hk => ?_)
        · rw [decide_eq_true hk] at hq'
          walk_at "dl"
          refine i_inL gc gnlt ?_
          exact rt_same hq'
        · rw [decide_eq_false hk] at hq'
          exact rt_same hq'
      case str x _ =>
        refine iteF ?_
        walk_at "dw"
        refine iteT ?_
        walk_at "dl"
        have hq' : q (.bl (wHr.contains x && decide (ki = 1))) O := hq
        refine i_andK (b := decide (ki = 1)) ?_
        refine if_d (fun hk => ?_) (fun hk => ?_)
        · rw [decide_eq_true hk, Bool.and_true] at hq'
          walk_at "dl"
          refine i_inL gc gnlt ?_
          rw [any_nlt]
          exact rt_same hq'
        · rw [decide_eq_false hk, Bool.and_false] at hq'
          exact rt_same hq'
      all_goals
        refine iteF ?_
        walk_at "dw"
        refine iteF ?_
        refine i_next ?_
        walk_at "dw"
        refine ⟨rfl, _, hs, [], rfl, gc, rfl, by omega, ?_⟩
        first
          | exact rt_same hq
          | (rename_i ci _
             have hq' : q (.bl (plB hs.length [] (.int ci) && (decide (1 ≤ ki) && decide (ki ≤ li + 1)))) O := hq
             refine i_andK (b := plB hs.length [] (.int ci)) ?_
             cases hpc : plB hs.length [] (.int ci) with
             | false =>
               rw [hpc, Bool.false_and] at hq'
               exact rt_same hq'
             | true =>
               rw [hpc, Bool.true_and] at hq'
               refine iteT ?_
               walk_at "dw"
               have e : decide (1 ≤ ki ∧ ki < li + 2) = (decide (1 ≤ ki) && decide (ki ≤ li + 1)) := by
                 rw [Bool.eq_iff_iff]
                 simp only [decide_eq_true_eq, Bool.and_eq_true]
                 omega
               show rtK q (.bl (decide (1 ≤ ki ∧ ki < li + 2))) O
               rw [e]
               exact rt_same hq')
  case ref => simp [good, pd] at h0
  case ty => simp [good, pd] at h0
  case ins => simp [good, pd] at h0
  all_goals
    walk_at "dw"
    refine iteT ?_
    walk_at "dl"
    exact rt_same (hF rfl)
/-! ### what is drawn -/
structure Drw (d : D) : Prop where
  ex : ∃ l s c k hs, d = .tup [.int l, s, c, .int k, .tup hs] ∧ Plc s ∧ (Plc c ∨ c = .non) ∧ (∀ h ∈ hs, Plc h) ∧ hs.length ≤ 3
theorem joinO {env : DL.Env} {O : Ow} {q : DQ} {te : DTE} (V : D → Ow → Prop) (hk : ∀ d o, V d o → q d o) (h : ∀ q' : DQ, (∀ d o, V d o → q' d o) → te env O q') : te env O q := h q hk
theorem rep_plc {n : Int} {ds : List D} (h : ∀ d ∈ ds, Plc d) : ∀ d ∈ (List.replicate (2 : Int).toNat (rgD 0 n)).flatten ++ ds, Plc d := fun d hd => by
  rcases List.mem_append.mp hd with hd | hd
  · obtain ⟨l, hl, hd⟩ := List.mem_flatten.mp hd
    rw [List.eq_of_mem_replicate hl, rgD_zs] at hd
    obtain ⟨i, _, rfl⟩ := List.mem_map.mp hd
    exact .inl ⟨i, rfl⟩
  · exact h d hd
theorem rep_len {n : Nat} : ((List.replicate (2 : Int).toNat (rgD 0 (n : Int))).flatten).length = 2 * n := by
  simp [rgD]
  omega
theorem wH_plc : ∀ d ∈ [D.str "lost", D.str "taken"], Plc d := by
  intro d hd
  simp only [List.mem_cons, List.mem_nil_iff, or_false] at hd
  rcases hd with rfl | rfl <;> exact .inr ⟨_, rfl, by decide +kernel⟩
theorem wS_plc : ∀ d ∈ [D.str "again", D.str "done", D.str "silent"], Plc d := by
  intro d hd
  simp only [List.mem_cons, List.mem_nil_iff, or_false] at hd
  rcases hd with rfl | rfl | rfl <;> exact .inr ⟨_, rfl, by decide +kernel⟩
def f_law_drawn : DF := fun ds O q _ => ∃ p m hs ss, ds = [.ref p, .tup [.lst hs, .lst ss]] ∧ Bag O p m ∧ m < 2 ^ 30 ∧ 1 ≤ hs.length ∧ hs.length ≤ 100 ∧ 1 ≤ ss.length ∧ ss.length ≤ 100 ∧ ∀ d O', Drw d → Bag O' p (m + 20) → q d O'
abbrev N_law_drawn : List Str := ["_law_bag_here", "_law_machines", "_law_hearer", "_law_sender", "_law_left", "_law_places", "_law_mouth", "_law_crowd", "_law_many", "_law_hit", "_law_k", "_law_rows", "_law_words", "_law_one"]
abbrev P_law_drawn : List Str := ["_law_bag_here", "_law_machines"]
theorem sc_law_drawn : FnScope N_law_drawn P_law_drawn (defScope s_law_drawn) := ⟨rfl, rfl, rfl, by decide +kernel, rfl, by decide +kernel, by decide +kernel⟩
theorem bd_law_drawn : Bd0 "_law_drawn" "_law_drawn" s_law_drawn P_law_drawn := fun _ _ _ _ _ _ us hl => match us, hl with | [_, _], _ => rfl
abbrev Fn_law_drawn (P : Program) (w : World) (K : Frag) (mg : Str → Option Value) (base : Heap) : Prop := Fn P w K mg base "_law_drawn" "_law_drawn" s_law_drawn [] [] P_law_drawn 2 2 f_law_drawn (He.ga K "_law_drawn")
structure C_law_drawn (P : Program) (w : World) (K : Frag) (mg : Str → Option Value) (base : Heap) : Prop where
  law_take : Fn_law_take P w K mg base
theorem ok_law_drawn {P : Program} {w : World} {K : Frag} {mg : Str → Option Value} {base : Heap} (F : HasD K "_law_drawn" "_law_drawn" s_law_drawn [] [] (He.ga K "_law_drawn")) (T : Txt K mg) (C : C_law_drawn P w K mg base) : Fn_law_drawn P w K mg base := by
  have sc := sc_law_drawn
  refine fn_E (k := 1) F sc rfl fun cdv A outer s H E O0 H0 F0 ds O q xx hl hf S => ⟨_,
      (ds_cons (ds_asg (ps_asg (de_var (pv 1)) (dg_tup rfl rfl (dgs_cons (dg_name (pg_name (i := 2) sc.nd rfl (by first | exact Or.inl rfl | exact Or.inr rfl))) (dgs_cons (dg_name (pg_name (i := 3) sc.nd rfl (by first | exact Or.inl rfl | exact Or.inr rfl))) dgs_nil)))))
      (ds_cons (ds_asg (ps_asg (de_tup (da_cons (so_callF S C.law_take (by decide) T.g_law_take bd_law_take rfl (da_cons (de_var (pv 0)) (da_cons de_int da_nil))) (da_cons (so_add S (so_rep S (so_listRg1O S rfl rfl T.b_list rfl T.b_range (so_len S rfl T.b_len (da_cons (de_var (pv 2)) da_nil))) de_int) (de_lst (da_cons de_str (da_cons de_str da_nil)))) da_nil))) (dg_tup rfl rfl (dgs_cons (dg_name (pg_name (i := 4) sc.nd rfl (by first | exact Or.inl rfl | exact Or.inr rfl))) (dgs_cons (dg_name (pg_name (i := 5) sc.nd rfl (by first | exact Or.inl rfl | exact Or.inr rfl))) dgs_nil)))))
      (ds_cons (ds_set (ps_set (i := 6) sc.nd rfl (by first | exact Or.inl rfl | exact Or.inr rfl) (so_ix S (so_add S (so_rep S (so_listRg1O S rfl rfl T.b_list rfl T.b_range (so_len S rfl T.b_len (da_cons (de_var (pv 3)) da_nil))) de_int) (de_lst (da_cons de_str (da_cons de_str (da_cons de_str da_nil))))) (so_callF S C.law_take (by decide) T.g_law_take bd_law_take rfl (da_cons (de_var (pv 0)) (da_cons (so_add S (so_mul S de_int (so_len S rfl T.b_len (da_cons (de_var (pv 3)) da_nil))) de_int) da_nil))) (fun _ _ => rfl))))
      (ds_cons (ds_set (ps_set (i := 7) sc.nd rfl (by first | exact Or.inl rfl | exact Or.inr rfl) (so_ix S (so_add S (de_var (pv 5)) (de_lst (da_cons de_non da_nil))) (so_callF S C.law_take (by decide) T.g_law_take bd_law_take rfl (da_cons (de_var (pv 0)) (da_cons (so_add S (so_len S rfl T.b_len (da_cons (de_var (pv 5)) da_nil)) de_int) da_nil))) (fun _ _ => rfl))))
      (ds_cons (ds_set (ps_set (i := 8) sc.nd rfl (by first | exact Or.inl rfl | exact Or.inr rfl) (de_if (st_tru S (so_isi S rfl T.b_isinstance (da_cons (de_var (pv 7)) (da_cons (so_ty (n := "int") rfl T.b_int) da_nil)))) (so_add S de_int (so_callF S C.law_take (by decide) T.g_law_take bd_law_take rfl (da_cons (de_var (pv 0)) (da_cons (so_add S (de_var (pv 4)) de_int) da_nil)))) (so_int S rfl T.b_int (da_cons (so_isnot S (de_var (pv 7)) de_non) da_nil)))))
      (ds_cons (ds_setLc (simG_name (vs := [10]) (i := 10) (by decide)) (ps_setLc (i := 9) (own := [("_law_k", 10)]) (g := (gName 10)) rfl sc.nd rfl rfl (sw_true rfl rfl rfl (by decide +kernel)) (di_range1 rfl T.b_range (da_cons (so_callF S C.law_take (by decide) T.g_law_take bd_law_take rfl (da_cons (de_var (pv 0)) (da_cons de_int da_nil))) da_nil)) (blkOk_by (own := [("_law_k", 10)]) (N := N_law_drawn) (sc := defScope s_law_drawn) (by decide +kernel)) (fun _ _ _ _ _ => (pg_name (i := 10) sc.nd rfl (by first | exact Or.inl rfl | exact Or.inr rfl))) (fun _ _ _ _ _ => dts_nil) (fun _ _ _ _ _ => (so_ix S.blk (de_var (pv 5)) (so_callF S.blk C.law_take (by decide) T.g_law_take bd_law_take rfl (da_cons (de_var (pv 0)) (da_cons (so_len S.blk rfl T.b_len (da_cons (de_var (pv 5)) da_nil)) da_nil))) (fun _ _ => rfl)))))
      (ds_cons (ds_par (ps_par (i := 11) (j := 12) rfl sc.nd rfl rfl (by decide) rfl rfl (da_cons (de_lc (simG_name (vs := [13]) (i := 13) (by decide)) (pe_lc (own := [("_law_one", 13)]) (g := (gName 13)) rfl sc.nd (di_seq S (de_var (pv 9))) (blkOk_by (own := [("_law_one", 13)]) (N := N_law_drawn) (sc := defScope s_law_drawn) (by decide +kernel)) (fun _ _ _ _ _ => (pg_name (i := 13) sc.nd rfl (by first | exact Or.inl rfl | exact Or.inr rfl))) (fun _ _ _ _ _ => (dts_one (st_tru S.blk (so_isi S.blk rfl T.b_isinstance (da_cons (de_var (pv 13)) (da_cons (so_ty (n := "int") rfl T.b_int) da_nil)))))) (fun _ _ _ _ _ => (de_var (pv 13))))) (da_cons (de_lc (simG_name (vs := [13]) (i := 13) (by decide)) (pe_lc (own := [("_law_one", 13)]) (g := (gName 13)) rfl sc.nd (di_seq S (de_var (pv 9))) (blkOk_by (own := [("_law_one", 13)]) (N := N_law_drawn) (sc := defScope s_law_drawn) (by decide +kernel)) (fun _ _ _ _ _ => (pg_name (i := 13) sc.nd rfl (by first | exact Or.inl rfl | exact Or.inr rfl))) (fun _ _ _ _ _ => (dts_one (st_tru S.blk (so_isi S.blk rfl T.b_isinstance (da_cons (de_var (pv 13)) (da_cons (so_ty (n := "str") rfl T.b_str) da_nil)))))) (fun _ _ _ _ _ => (de_var (pv 13))))) da_nil)) (by rfl)))
      (ds_one (ds_ret (de_tup (da_cons (de_var (pv 4)) (da_cons (de_var (pv 6)) (da_cons (de_var (pv 7)) (da_cons (de_var (pv 8)) (da_cons (so_tuple S rfl T.b_tuple (da_cons (so_add S (so_sorted S rfl T.b_sorted (da_cons (de_var (pv 11)) da_nil)) (so_sorted S rfl T.b_sorted (da_cons (de_var (pv 12)) da_nil))) da_nil)) da_nil)))))))))))))))
      , ?_⟩
  obtain ⟨p, m, hs, ss, rfl, hb, hm, l1, l2, l3, l4, hq⟩ := hf
  walk_at "dl"
  refine ⟨rfl, p, 4, m, rfl, hb, by omega, by decide, by decide, fun li o0 h0 h1 hb0 => ?_⟩
  generalize setO O p o0 = O1 at hb0 ⊢
  walk_at "dl"
  refine ⟨⟨by omega, by omega⟩, fun r1 hr1 => ?_⟩
  walk_at "dl"
  refine i_rep setO_same ⟨by decide, by decide⟩ (by simp [rgD]; omega) ?_
  have hb1 := hb0.other (o := .lst (rgD 0 (hs.length : Int))) hr1
  generalize setO O1 r1 _ = O2 at hb1 ⊢
  walk_at "dl"
  refine i_addL (line_ok (by rw [rep_len]; simp; omega)) ?_
  have hp1 := rep_plc (n := (hs.length : Int)) wH_plc
  have hl1 : ((List.replicate (2 : Int).toNat (rgD 0 (hs.length : Int))).flatten ++ [D.str "lost", D.str "taken"]).length = 2 * hs.length + 2 := by rw [List.length_append, rep_len]; rfl
  generalize (List.replicate (2 : Int).toNat (rgD 0 (hs.length : Int))).flatten ++ [D.str "lost", D.str "taken"] = PL at hp1 hl1 ⊢
  walk_at "dl"
  refine ⟨⟨by omega, by omega⟩, fun r2 hr2 => ?_⟩
  walk_at "dl"
  refine i_rep setO_same ⟨by decide, by decide⟩ (by simp [rgD]; omega) ?_
  have hb2 := hb1.other (o := .lst (rgD 0 (ss.length : Int))) hr2
  generalize setO O2 r2 _ = O3 at hb2 ⊢
  walk_at "dl"
  refine i_addL (line_ok (by rw [rep_len]; simp; omega)) ?_
  have hp2 := rep_plc (n := (ss.length : Int)) wS_plc
  have hl2 : ((List.replicate (2 : Int).toNat (rgD 0 (ss.length : Int))).flatten ++ [D.str "again", D.str "done", D.str "silent"]).length = 2 * ss.length + 3 := by rw [List.length_append, rep_len]; rfl
  generalize (List.replicate (2 : Int).toNat (rgD 0 (ss.length : Int))).flatten ++ [D.str "again", D.str "done", D.str "silent"] = SL at hp2 hl2 ⊢
  walk_at "dl"
  refine i_mulI (.inl ⟨by decide, by omega⟩) ?_
  walk_at "dl"
  refine ⟨rfl, p, 2 * ss.length + 3, _, rfl, hb2, by omega, by omega, by omega, fun y1 o1 hy0 hy1 hb3 => ?_⟩
  generalize setO O3 p o1 = O4 at hb3 ⊢
  obtain ⟨mo, hmo, hmo2⟩ := atI_in (ds := SL) hy0 (by omega)
  have hpm := hp2 mo (List.mem_of_getElem? hmo)
  refine i_ixL hmo2 ?_
  walk_at "dl"
  refine i_addL (line_ok (by simp; omega)) ?_
  walk_at "dl"
  refine ⟨rfl, p, (PL.length : Int) + 1, _, rfl, hb3, by omega, by omega, by omega, fun y2 o2 hz0 hz1 hb4 => ?_⟩
  generalize setO O4 p o2 = O5 at hb4 ⊢
  obtain ⟨cr, hcr, hcr2⟩ := atI_in (ds := PL ++ [D.non]) hz0 (by simp; omega)
  have hpc : Plc cr ∨ cr = .non := by
    rcases List.mem_append.mp (List.mem_of_getElem? hcr) with h | h
    · exact .inl (hp1 cr h)
    · exact .inr (by simpa using h)
  refine i_ixL hcr2 ?_
  walk_at "dl"
  refine joinO (fun d o => (∃ i, d = .int i) ∧ Bag o p (m + 6)) ?_ fun q' hq' => ?_
  case refine_2 =>
    walk_at "dw"
    rcases hpc with (⟨ci, rfl⟩ | ⟨cs, rfl, _⟩) | rfl
    · walk_at "dw"
      refine iteT ?_
      walk_at "dl"
      refine ⟨rfl, p, li + 1, _, rfl, hb4, by omega, by omega, by omega, fun y3 o3 hw0 hw1 hb5 => ?_⟩
      walk_at "dl"
      exact hq' _ _ ⟨⟨_, rfl⟩, hb5.mono (by omega)⟩
    · walk_at "dw"
      refine iteF ?_
      walk_at "dl"
      exact hq' _ _ ⟨⟨_, rfl⟩, hb4.mono (by omega)⟩
    · walk_at "dw"
      refine iteF ?_
      walk_at "dl"
      exact hq' _ _ ⟨⟨_, rfl⟩, hb4.mono (by omega)⟩
  rintro _ O6 ⟨⟨mn, rfl⟩, hb6⟩
  walk_at "dl"
  refine ⟨rfl, p, 3, _, rfl, hb6, by omega, by decide, by decide, fun y4 o4 hv0 hv1 hb7 => ?_⟩
  generalize setO O6 p o4 = O7 at hb7 ⊢
  walk_at "dl"
  refine ⟨⟨by omega, by omega⟩, ?_⟩
  rw [rgD_zs]
  refine ⟨line_ok (by rw [List.length_map, zs_len]; omega), ?_⟩
  refine lcGo_inv (fun i ys O' => ys.length = i ∧ (∀ y ∈ ys, Plc y) ∧ Bag O' p (m + 7 + i)) ⟨rfl, by simp, by simpa using hb7.mono (by omega)⟩ (fun _ _ _ _ => trivial) ?_ ?_
  · rintro i d ys O' k z hx ⟨hyl, hyp, hbi⟩ hk
    have hi : i < 3 := by
      have := (List.getElem?_eq_some_iff.mp hx).1
      rw [List.length_map, zs_len] at this
      omega
    obtain ⟨b, _, rfl⟩ := map_get hx
    walk_at "dl"
    refine iteT ?_
    walk_at "dl"
    refine ⟨rfl, p, (PL.length : Int), _, rfl, hbi, by omega, by omega, by omega, fun y5 o5 hu0 hu1 hb8 => ?_⟩
    obtain ⟨h1, hh1, hh2⟩ := atI_in (ds := PL) hu0 hu1
    refine i_ixL hh2 ?_
    refine hk _ _ _ (.refl _) ⟨by rw [List.length_append, hyl]; rfl, fun y hy => ?_, hb8.mono (by omega)⟩
    rcases List.mem_append.mp hy with hy | hy
    · exact hyp y hy
    · rw [List.mem_singleton.mp hy]
      exact hp1 h1 (List.mem_of_getElem? hh1)
  rintro ys O8 ⟨hyl, hyp, hb8⟩
  rw [List.length_map, zs_len] at hyl hb8
  walk_at "dl"
  refine ⟨line_ok (by omega), ?_⟩
  refine lcGo_fm (fun d => if isRw d = true then some d else none) trivial (fun d hm k z h1 h0 => ?_) ?_
  · rcases hyp d hm with ⟨i, rfl⟩ | ⟨s, rfl, _⟩
    · walk_at "dl"
      refine iteT ?_
      walk_at "dl"
      exact h1 _ _ rfl (.refl _)
    · walk_at "dl"
      refine iteF ?_
      exact h0 _ rfl (.refl _)
  rw [fm_guard]
  walk_at "dl"
  refine ⟨line_ok (by omega), ?_⟩
  refine lcGo_fm (fun d => if (!isRw d) = true then some d else none) trivial (fun d hm k z h1 h0 => ?_) ?_
  · rcases hyp d hm with ⟨i, rfl⟩ | ⟨s, rfl, _⟩
    · walk_at "dl"
      refine iteF ?_
      exact h0 _ rfl (.refl _)
    · walk_at "dl"
      refine iteT ?_
      walk_at "dl"
      exact h1 _ _ rfl (.refl _)
  rw [fm_guard fun d => !isRw d]
  walk_at "dl"
  refine i_sortInts (fun d hd => ?_) ?_
  · rw [List.mem_filter] at hd
    rcases hyp d hd.1 with h | ⟨s, rfl, _⟩
    · exact h
    · cases hd.2
  walk_at "dl"
  refine i_sortStrs (fun d hd => ?_) ?_
  · rw [List.mem_filter] at hd
    rcases hyp d hd.1 with ⟨i, rfl⟩ | ⟨s, rfl, _⟩
    · cases hd.2
    · exact ⟨s, rfl⟩
  have hlen := spl_len ys
  have hspp := spl_perm ys
  unfold spl at hlen hspp
  rw [List.length_append] at hlen
  refine i_addL (line_ok (by omega)) ?_
  walk_at "dl"
  refine ⟨_, rfl, ?_⟩
  walk_at "dl"
  exact rt_same (hq _ _ ⟨⟨li, mo, cr, mn, _, rfl, hpm, hpc, fun h hh => hyp h (hspp.mem_iff.mp hh), by rw [List.length_append]; omega⟩⟩ (hb8.mono (by omega)))
theorem plc_in {d : D} (h : Plc d) : good d = true ∧ (py d).depth ≤ 60 := ⟨h.good, by rw [h.dep]; omega⟩
theorem Drw.fit {d : D} (h : Drw d) : Fit d := by
  obtain ⟨l, s, c, k, hs, rfl, hp, hc, hh, hl⟩ := h.ex
  have gh : good (.tup hs) = true := good_tupI fun x hx => plc_in (hh x hx)
  have dh : (py (.tup hs)).depth ≤ 1 := depth_tup fun x hx => by rw [(hh x hx).dep]; omega
  refine ⟨good_tupI fun x hx => ?_, fun ds e => ?_⟩
  · simp only [List.mem_cons, List.mem_nil_iff, or_false] at hx
    rcases hx with rfl | rfl | rfl | rfl | rfl
    · exact ⟨good_int _, by simp [py, PyData.depth]⟩
    · exact plc_in hp
    · rcases hc with hc | rfl
      · exact plc_in hc
      · exact ⟨good_non, by simp [py, PyData.depth]⟩
    · exact ⟨good_int _, by simp [py, PyData.depth]⟩
    · exact ⟨gh, by omega⟩
  · cases e
    refine ⟨by simp, fun xs hx => ?_⟩
    simp only [List.mem_cons, List.mem_nil_iff, or_false] at hx
    rcases hx with e | e | e | e | e
    · cases e
    · rcases hp with ⟨i, rfl⟩ | ⟨i, rfl, _⟩ <;> cases e
    · rcases hc with (⟨i, rfl⟩ | ⟨i, rfl, _⟩) | rfl <;> cases e
    · cases e
    · cases e; omega
/-- a part of a small value -/
structure InOk (x : D) : Prop where
  g : good x = true
  d : (py x).depth ≤ 60
  l : ∀ xs, x = .tup xs → xs.length ≤ 100
theorem fit_tup {ds : List D} (h : ∀ x ∈ ds, InOk x) (hl : ds.length ≤ 100) : Fit (.tup ds) :=
  ⟨good_tupI fun x hx => ⟨(h x hx).g, (h x hx).d⟩, fun es e => by cases e; exact ⟨hl, fun xs hx => (h _ hx).l xs rfl⟩⟩
theorem fit_lst {ds : List D} (h : ∀ x ∈ ds, InOk x) : Fit (.lst ds) :=
  ⟨good_lstI fun x hx => ⟨(h x hx).g, (h x hx).d⟩, fun es e => by cases e⟩
theorem cut_mem {ds : List D} {lo hi : Option Int} {x : D} (h : x ∈ DL.cutD ds lo hi) : x ∈ ds := List.mem_of_mem_drop (List.mem_of_mem_take h)
theorem cut_len {ds : List D} {lo hi : Option Int} : (DL.cutD ds lo hi).length ≤ ds.length := by
  unfold DL.cutD
  rw [List.length_take, List.length_drop]
  omega
theorem Plc.inok {d : D} (h : Plc d) : InOk d := ⟨h.good, by rw [h.dep]; omega, fun xs e => by rcases h with ⟨i, rfl⟩ | ⟨s, rfl, _⟩ <;> cases e⟩
def partB (d : D) : Bool := good d && decide ((py d).depth ≤ 2) && match d with
  | .tup ds => decide (ds.length ≤ 10) && ds.all fun x => !tupB x
  | _ => true
structure Prt (x : D) : Prop where
  g : good x = true
  dp : (py x).depth ≤ 2
  l : ∀ ds : List D, x = .tup ds → ds.length ≤ 10 ∧ ∀ xs, D.tup xs ∉ ds
theorem prt_of {d : D} (h : partB d = true) : Prt d := by
  unfold partB at h
  simp only [Bool.and_eq_true, decide_eq_true_eq] at h
  refine ⟨h.1.1, h.1.2, fun ds e => ?_⟩
  subst e
  have h2 := h.2
  simp only [Bool.and_eq_true, decide_eq_true_eq] at h2
  exact ⟨h2.1, fun xs hx => by have := List.all_eq_true.mp h2.2 _ hx; cases this⟩
theorem prt_int (i : Int) : Prt (.int i) := ⟨good_int i, by simp [py, PyData.depth], fun ds e => by cases e⟩
theorem Prt.inok {d : D} (h : Prt d) : InOk d := ⟨h.g, by have := h.dp; omega, fun xs e => by have := (h.l xs e).1; omega⟩
theorem Prt.fit {d : D} (h : Prt d) : Fit d := ⟨h.g, fun ds e => ⟨by have := (h.l ds e).1; omega, fun xs hx => absurd hx ((h.l ds e).2 xs)⟩⟩
def f_law_spoilt : DF := fun ds O q _ => ∃ p m hs ss d, ds = [.ref p, .tup [.lst hs, .lst ss], d] ∧ Bag O p m ∧ m < 2 ^ 30 ∧ hs.length ≤ 100 ∧ ss.length ≤ 100 ∧ Drw d ∧ ∀ e O', Fit e → Bag O' p (m + 20) → q e O'
abbrev N_law_spoilt : List Str := ["_law_bag_here", "_law_machines", "_law_standing", "_law_odd", "_law_way_here", "_law_part"]
abbrev P_law_spoilt : List Str := ["_law_bag_here", "_law_machines", "_law_standing"]
theorem sc_law_spoilt : FnScope N_law_spoilt P_law_spoilt (defScope s_law_spoilt) := ⟨rfl, rfl, rfl, by decide +kernel, rfl, by decide +kernel, by decide +kernel⟩
theorem bd_law_spoilt : Bd0 "_law_spoilt" "_law_spoilt" s_law_spoilt P_law_spoilt := fun _ _ _ _ _ _ us hl => match us, hl with | [_, _, _], _ => rfl
abbrev Fn_law_spoilt (P : Program) (w : World) (K : Frag) (mg : Str → Option Value) (base : Heap) : Prop := Fn P w K mg base "_law_spoilt" "_law_spoilt" s_law_spoilt [] [] P_law_spoilt 3 2 f_law_spoilt (He.ga K "_law_spoilt")
structure C_law_spoilt (P : Program) (w : World) (K : Frag) (mg : Str → Option Value) (base : Heap) : Prop where
  law_take : Fn_law_take P w K mg base
theorem ok_law_spoilt {P : Program} {w : World} {K : Frag} {mg : Str → Option Value} {base : Heap} (F : HasD K "_law_spoilt" "_law_spoilt" s_law_spoilt [] [] (He.ga K "_law_spoilt")) (T : Txt K mg) (C : C_law_spoilt P w K mg base) : Fn_law_spoilt P w K mg base := by
  have sc := sc_law_spoilt
  refine fn_E (k := 1) F sc rfl fun cdv A outer s H E O0 H0 F0 ds O q xx hl hf S => ⟨_,
      (ds_cons (ds_set (ps_set (i := 3) sc.nd rfl (by first | exact Or.inl rfl | exact Or.inr rfl) (de_lst (da_cons de_non (da_cons de_bl (da_cons de_bl (da_cons (so_neg S de_int) (da_cons de_int (da_cons de_int (da_cons de_int (da_cons de_int (da_cons de_int (da_cons (so_len S rfl T.b_len (da_cons (so_ix S (de_var (pv 1)) de_int (fun _ _ => rfl)) da_nil)) (da_cons (so_len S rfl T.b_len (da_cons (so_ix S (de_var (pv 1)) de_int (fun _ _ => rfl)) da_nil)) (da_cons de_str (da_cons de_str (da_cons de_str (da_cons de_str da_nil))))))))))))))))))
      (ds_cons (ds_set (ps_set (i := 3) sc.nd rfl (by first | exact Or.inl rfl | exact Or.inr rfl) (so_add S (de_var (pv 3)) (de_lst (da_cons de_str (da_cons (de_tup da_nil) (da_cons (de_lst da_nil) (da_cons (de_tup (da_cons de_int da_nil)) (da_cons (de_lst (da_cons de_int da_nil)) (da_cons (de_tup (da_cons de_bl da_nil)) (da_cons (de_tup (da_cons de_str da_nil)) (da_cons (de_tup (da_cons de_str (da_cons de_int da_nil))) (da_cons (de_tup (da_cons de_int (da_cons de_int da_nil))) (da_cons (so_mul S (de_tup (da_cons de_int da_nil)) de_int) (da_cons (so_mul S (de_tup (da_cons de_int da_nil)) de_int) da_nil)))))))))))))))
      (ds_cons (ds_par (ps_par (i := 4) (j := 5) rfl sc.nd rfl rfl (by decide) rfl rfl (da_cons (so_callF S C.law_take (by decide) T.g_law_take bd_law_take rfl (da_cons (de_var (pv 0)) (da_cons de_int da_nil))) (da_cons (so_ix S (de_var (pv 3)) (so_callF S C.law_take (by decide) T.g_law_take bd_law_take rfl (da_cons (de_var (pv 0)) (da_cons (so_len S rfl T.b_len (da_cons (de_var (pv 3)) da_nil)) da_nil))) (fun _ _ => rfl)) da_nil)) (by rfl)))
      (ds_cons (ds_if (st_lt S (de_var (pv 4)) de_int)
       (ds_one (ds_ret (so_add S (so_add S (de_slice rfl (de_var (pv 2)) do_none (do_some (de_var (pv 4)))) (de_tup (da_cons (de_var (pv 5)) da_nil))) (de_slice rfl (de_var (pv 2)) (do_some (so_add S (de_var (pv 4)) de_int)) do_none))))
       ds_nil)
      (ds_cons (ds_if (st_eq S (de_var (pv 4)) de_int)
       (ds_one (ds_ret (so_ix S (de_lst (da_cons (so_list S rfl T.b_list (da_cons (de_var (pv 2)) da_nil)) (da_cons (de_slice rfl (de_var (pv 2)) do_none (do_some de_int)) (da_cons (so_add S (de_var (pv 2)) (de_tup (da_cons (de_var (pv 5)) da_nil))) (da_cons (de_var (pv 5)) da_nil))))) (so_callF S C.law_take (by decide) T.g_law_take bd_law_take rfl (da_cons (de_var (pv 0)) (da_cons de_int da_nil))) (fun _ _ => rfl))))
       ds_nil)
      (ds_one (ds_ret (de_if (st_eq S (de_var (pv 4)) de_int) (so_add S (de_slice rfl (de_var (pv 2)) do_none (do_some de_int)) (de_tup (da_cons (so_add S (so_ix S (de_var (pv 2)) de_int (fun _ _ => rfl)) (de_tup (da_cons (de_var (pv 5)) da_nil))) da_nil))) (so_add S (de_slice rfl (de_var (pv 2)) do_none (do_some de_int)) (de_tup (da_cons (so_revA S (so_ix S (de_var (pv 2)) de_int (fun _ _ => rfl))) da_nil)))))))))))
      , ?_⟩
  obtain ⟨p, m, hs, ss, d, rfl, hb, hm, l1, l2, hd, hq⟩ := hf
  walk_at "dl"
  refine i_mulT (by simp) (by simp) ⟨by decide, by decide⟩ ?_
  walk_at "dl"
  refine i_mulT (by simp) (by simp) ⟨by decide, by decide⟩ ?_
  walk_at "dl"
  refine i_addL (line_ok (by simp)) ?_
  generalize hL : ([D.non, D.bl true, D.bl false, D.int (-1), D.int 0, D.int 1, D.int 2, D.int 4, D.int 5, D.int hs.length, D.int ss.length, D.str "lost", D.str "done", D.str "silent", D.str "taken"] ++ _ : List D) = L
  have hodd : ∀ x ∈ L, Prt x := by
    intro x hx
    subst hL
    simp only [List.mem_append, List.mem_cons, List.mem_nil_iff, or_false] at hx
    rcases hx with (rfl | rfl | rfl | rfl | rfl | rfl | rfl | rfl | rfl | rfl | rfl | rfl | rfl | rfl | rfl) | rfl | rfl | rfl | rfl | rfl | rfl | rfl | rfl | rfl | rfl | rfl
    all_goals first
      | exact prt_int _
      | exact prt_of (by decide +kernel)
  have hlen : L.length = 26 := by subst hL; rfl
  clear hL
  walk_at "dl"
  refine ⟨rfl, p, 8, m, rfl, hb, by omega, by decide, by decide, fun wy o0 h0 h1 hb0 => ?_⟩
  generalize setO O p o0 = O1 at hb0 ⊢
  walk_at "dl"
  refine ⟨rfl, p, (L.length : Int), _, rfl, hb0, by omega, by omega, by omega, fun y1 o1 hy0 hy1 hb1 => ?_⟩
  generalize setO O1 p o1 = O2 at hb1 ⊢
  obtain ⟨pt, hpt, hpt2⟩ := atI_in (ds := L) hy0 hy1
  have hP := hodd pt (List.mem_of_getElem? hpt)
  refine i_ixL hpt2 ?_
  obtain ⟨l, s, c, k, hh, rfl, hp, hc, hhp, hhl⟩ := hd.ex
  have hin : ∀ x ∈ [D.int l, s, c, .int k, .tup hh], InOk x := fun x hx => by
    simp only [List.mem_cons, List.mem_nil_iff, or_false] at hx
    rcases hx with rfl | rfl | rfl | rfl | rfl
    · exact (prt_int _).inok
    · exact hp.inok
    · rcases hc with hc | rfl
      · exact hc.inok
      · exact ⟨good_non, by simp [py, PyData.depth], fun xs e => by cases e⟩
    · exact (prt_int _).inok
    · exact ⟨good_tupI fun x hx => plc_in (hhp x hx), by have : (py (.tup hh)).depth ≤ 1 := depth_tup fun x hx => by rw [(hhp x hx).dep]; omega
                                                         omega, fun xs e => by cases e; omega⟩
  have hq2 : ∀ e, Fit e → q e O2 := fun e he => hq e O2 he (hb1.mono (by omega))
  walk_at "dw"
  refine if_d (fun hw => ?_) (fun hw => ?_)
  · walk_at "dl"
    have c1 := cut_len (ds := [D.int l, s, c, .int k, .tup hh]) (lo := none) (hi := some wy)
    have c2 := cut_len (ds := [D.int l, s, c, .int k, .tup hh]) (lo := some (wy + 1)) (hi := none)
    simp only [List.length_cons, List.length_nil] at c1 c2
    refine i_addT (line_ok (by simp only [List.length_cons, List.length_nil]; omega)) ?_
    walk_at "dl"
    refine i_addT (line_ok (by simp only [List.length_append, List.length_cons, List.length_nil]; omega)) ?_
    refine rt_same (hq2 _ (fit_tup (fun x hx => ?_) (by simp only [List.length_append, List.length_cons, List.length_nil]; omega)))
    rcases List.mem_append.mp hx with hx | hx
    · rcases List.mem_append.mp hx with hx | hx
      · exact hin x (cut_mem hx)
      · rw [List.mem_singleton.mp hx]; exact hP.inok
    · exact hin x (cut_mem hx)
  refine i_next ?_
  walk_at "dw"
  have hpi : ∀ x ∈ [pt], InOk x := fun x hx => by rw [List.mem_singleton.mp hx]; exact hP.inok
  have f1 : Fit (.tup ([D.int l, s, c, .int k, .tup hh] ++ [pt])) := fit_tup (fun x hx => (List.mem_append.mp hx).elim (hin x) (hpi x)) (by simp)
  have f2 : Fit (.tup (DL.cutD [D.int l, s, c, .int k, .tup hh] none (some 4))) := fit_tup (fun x hx => hin x (cut_mem hx)) (Nat.le_trans cut_len (by simp))
  have c3 := cut_len (ds := [D.int l, s, c, .int k, .tup hh]) (lo := none) (hi := some 4)
  simp only [List.length_cons, List.length_nil] at c3
  refine if_d (fun hw5 => ?_) (fun hw5 => ?_)
  · walk_at "dl"
    refine ⟨_, rfl, ?_⟩
    walk_at "dl"
    refine i_addT (line_ok (by simp)) ?_
    walk_at "dl"
    refine ⟨rfl, p, 4, _, rfl, hb1, by omega, by decide, by decide, fun y2 o2 hz0 hz1 hb2 => ?_⟩
    obtain ⟨e, he, he2⟩ := atI_in (ds := [D.lst [D.int l, s, c, .int k, .tup hh], .tup (DL.cutD [D.int l, s, c, .int k, .tup hh] none (some 4)), .tup ([D.int l, s, c, .int k, .tup hh] ++ [pt]), pt]) hz0 (by simp; omega)
    refine i_ixL he2 ?_
    have hm4 := List.mem_of_getElem? he
    refine rt_same (hq e _ ?_ (hb2.mono (by omega)))
    simp only [List.mem_cons, List.mem_nil_iff, or_false] at hm4
    rcases hm4 with rfl | rfl | rfl | rfl
    · exact fit_lst hin
    · exact f2
    · exact f1
    · exact hP.fit
  refine i_next ?_
  walk_at "dw"
  refine if_d (fun hw6 => ?_) (fun hw6 => ?_)
  · walk_at "dl"
    refine i_addT (line_ok (by simp; omega)) ?_
    walk_at "dl"
    refine i_addT (line_ok (by simp only [List.length_cons, List.length_nil]; omega)) ?_
    refine rt_same (hq2 _ (fit_tup (fun x hx => (List.mem_append.mp hx).elim (fun h => hin x (cut_mem h)) fun h => ?_) (by simp only [List.length_append, List.length_cons, List.length_nil]; omega)))
    rw [List.mem_singleton.mp h]
    have hx1 : ∀ x ∈ hh ++ [pt], good x = true ∧ (py x).depth ≤ 2 := fun x hx => by
      rcases List.mem_append.mp hx with hx | hx
      · exact ⟨(hhp x hx).good, by rw [(hhp x hx).dep]; omega⟩
      · rw [List.mem_singleton.mp hx]; exact ⟨hP.g, hP.dp⟩
    exact ⟨good_tupI fun x hx => ⟨(hx1 x hx).1, by have := (hx1 x hx).2; omega⟩, by
      have := depth_tup (m := 2) fun x hx => (hx1 x hx).2
      omega, fun xs e => by cases e; simp; omega⟩
  · walk_at "dl"
    refine i_addT (line_ok (by simp only [List.length_cons, List.length_nil]; omega)) ?_
    refine rt_same (hq2 _ (fit_tup (fun x hx => (List.mem_append.mp hx).elim (fun h => hin x (cut_mem h)) fun h => ?_) (by simp only [List.length_append, List.length_cons, List.length_nil]; omega)))
    rw [List.mem_singleton.mp h]
    have hx1 : ∀ x ∈ hh.reverse, good x = true ∧ (py x).depth ≤ 2 := fun x hx => by
      rw [List.mem_reverse] at hx
      exact ⟨(hhp x hx).good, by rw [(hhp x hx).dep]; omega⟩
    exact ⟨good_tupI fun x hx => ⟨(hx1 x hx).1, by have := (hx1 x hx).2; omega⟩, by
      have := depth_tup (m := 2) fun x hx => (hx1 x hx).2
      omega, fun xs e => by cases e; rw [List.length_reverse]; omega⟩
/-! ### the law -/
def f_law : DF := fun ds O q _ => ∃ ns : List Int, ds = [.lst (ns.map D.int)] ∧ ns.length ≤ 63 ∧ ∀ O', q (.bl true) O'
abbrev N_law : List Str := ["_law_script", "_law_at", "_law_bag_here", "_law_turn", "_law_machines", "_law_made", "_law_more", "_law_thing"]
abbrev P_law : List Str := ["_law_script"]
theorem sc_law : FnScope N_law P_law (defScope s_law) := ⟨rfl, rfl, rfl, by decide +kernel, rfl, by decide +kernel, by decide +kernel⟩
theorem bd_law : Bd0 "law" "law" s_law P_law := fun _ _ _ _ _ _ us hl => match us, hl with | [_], _ => rfl
abbrev Fn_law (P : Program) (w : World) (K : Frag) (mg : Str → Option Value) (base : Heap) : Prop := Fn P w K mg base "law" "law" s_law [] [] P_law 1 7 f_law (He.ga K "law")
structure C_law (P : Program) (w : World) (K : Frag) (mg : Str → Option Value) (base : Heap) : Prop where
  End___init__ : Fn_End___init__ P w K mg base
  law_bag : Fn_law_bag P w K mg base
  law_drawn : Fn_law_drawn P w K mg base
  law_due : Fn_law_due P w K mg base
  law_end : Fn_law_end P w K mg base
  law_spoilt : Fn_law_spoilt P w K mg base
  is_standing : Fn_is_standing P w K mg base
theorem ok_law {P : Program} {w : World} {K : Frag} {mg : Str → Option Value} {base : Heap} (F : HasD K "law" "law" s_law [] [] (He.ga K "law")) (T : Txt K mg) (C : C_law P w K mg base) : Fn_law P w K mg base := by
  have sc := sc_law
  refine fn_E (k := 6) F sc rfl fun cdv A outer s H E O0 H0 F0 ds O q xx hl hf S => ⟨_,
      (ds_cons (ds_for (ps_for S.po rfl (di_range1 rfl T.b_range (da_cons (so_max2 S rfl rfl T.b_max (da_cons de_int (da_cons (so_min2 S rfl rfl T.b_min (da_cons de_int (da_cons (so_len S rfl T.b_len (da_cons (de_var (pv 0)) da_nil)) da_nil))) da_nil))) da_nil)) (dg_name (pg_name (i := 1) sc.nd rfl (by first | exact Or.inl rfl | exact Or.inr rfl)))
       (ds_cons (ds_set (ps_set (i := 2) sc.nd rfl (by first | exact Or.inl rfl | exact Or.inr rfl) (so_callF S C.law_bag (by decide) T.g_law_bag bd_law_bag rfl (da_cons (de_var (pv 0)) (da_cons (de_var (pv 1)) da_nil)))))
       (ds_one (ds_for (ps_for S.po rfl (di_range1 rfl T.b_range (da_cons de_int da_nil)) (dg_name (pg_name (i := 3) sc.nd rfl (by first | exact Or.inl rfl | exact Or.inr rfl)))
        (ds_cons (ds_set (ps_set (i := 4) sc.nd rfl (by first | exact Or.inl rfl | exact Or.inr rfl) (so_callF S C.law_end (by decide) T.g_law_end bd_law_end rfl (da_cons (de_var (pv 2)) (da_cons de_int da_nil)))))
        (ds_cons (ds_set (ps_set (i := 5) sc.nd rfl (by first | exact Or.inl rfl | exact Or.inr rfl) (de_iceI (C := He.ga K "End") (so_makeF S C.End___init__ (by decide) T.g_End T.mk_End bd_End___init__ rfl (da_cons (so_ix S (de_var (pv 4)) de_int (fun _ _ => rfl)) (da_cons (so_ix S (de_var (pv 4)) de_int (fun _ _ => rfl)) da_nil))))))
        (ds_one (ds_for (ps_for S.po rfl (di_range1 rfl T.b_range (da_cons de_int da_nil)) (dg_name (pg_name (i := 6) sc.nd rfl (by first | exact Or.inl rfl | exact Or.inr rfl)))
         (ds_cons (ds_set (ps_set (i := 7) sc.nd rfl (by first | exact Or.inl rfl | exact Or.inr rfl) (so_callF S C.law_drawn (by decide) T.g_law_drawn bd_law_drawn rfl (da_cons (de_var (pv 2)) (da_cons (de_var (pv 4)) da_nil)))))
         (ds_cons (ds_if (st_ne S (so_repr S rfl T.b_repr (da_cons (so_callF S C.is_standing (by decide) T.g_is_standing bd_is_standing rfl (da_cons (de_var (pv 5)) (da_cons (de_var (pv 7)) da_nil))) da_nil)) (so_repr S rfl T.b_repr (da_cons (so_callF S C.law_due (by decide) T.g_law_due bd_law_due rfl (da_cons (de_var (pv 4)) (da_cons (de_var (pv 7)) da_nil))) da_nil)))
          (ds_one (ds_ret de_bl))
          ds_nil)
         (ds_cons (ds_set (ps_set (i := 7) sc.nd rfl (by first | exact Or.inl rfl | exact Or.inr rfl) (so_callF S C.law_spoilt (by decide) T.g_law_spoilt bd_law_spoilt rfl (da_cons (de_var (pv 2)) (da_cons (de_var (pv 4)) (da_cons (de_var (pv 7)) da_nil))))))
         (ds_one (ds_if (st_ne S (so_repr S rfl T.b_repr (da_cons (so_callF S C.is_standing (by decide) T.g_is_standing bd_is_standing rfl (da_cons (de_var (pv 5)) (da_cons (de_var (pv 7)) da_nil))) da_nil)) (so_repr S rfl T.b_repr (da_cons (so_callF S C.law_due (by decide) T.g_law_due bd_law_due rfl (da_cons (de_var (pv 4)) (da_cons (de_var (pv 7)) da_nil))) da_nil)))
          (ds_one (ds_ret de_bl))
          ds_nil))))))))))))))))
      (ds_one (ds_ret de_bl)))
      , ?_⟩
  obtain ⟨ns, rfl, h0, hq⟩ := hf
  walk_at "dl"
  generalize hm : (if (if ((ns.map D.int).length : Int) < 5 then ((ns.map D.int).length : Int) else 5) > 2 then (if ((ns.map D.int).length : Int) < 5 then ((ns.map D.int).length : Int) else 5) else 2) = mm
  have hm3 : 0 ≤ mm ∧ mm ≤ 5 := by
    subst hm
    split <;> split <;> omega
  refine ⟨⟨by omega, by omega⟩, ?_⟩
  rw [rgD_zs]
  refine forGo_inv (fun i env O' => ∃ x1 x2 x3 x4 x5 x6 x7 : Option D, env = [some (.lst (ns.map D.int)), x1, x2, x3, x4, x5, x6, x7])
    ⟨none, none, none, none, none, none, none, rfl⟩ (fun _ _ _ _ _ => trivial) ?_ ?_
  · rintro N i y env O' hy ⟨x1, x2, x3, x4, x5, x6, x7, rfl⟩ hN
    obtain ⟨b, hb, rfl⟩ := map_get hy
    obtain ⟨hb0, hb1⟩ := zs_mem (List.mem_of_getElem? hb)
    walk_at "dl"
    refine ⟨rfl, ns, b, rfl, hb0, by omega, fun p o hp hbag => ?_⟩
    generalize setO O' p o = O1 at hbag ⊢
    walk_at "dl"
    refine ⟨⟨by decide, by decide⟩, ?_⟩
    rw [rgD_zs]
    refine forGo_inv (fun j env O' => ∃ x3 x4 x5 x6 x7 : Option D, env = [some (.lst (ns.map D.int)), some (.int b), some (.ref p), x3, x4, x5, x6, x7] ∧ Bag O' p (1000 * j))
      ⟨_, _, _, _, _, rfl, by simpa using hbag⟩ (fun _ _ _ _ _ => trivial) ?_ ?_
    · rintro N2 j y2 env O2 hy2 ⟨z3, z4, z5, z6, z7, rfl, hbj⟩ hN2
      obtain ⟨c, hc, rfl⟩ := map_get hy2
      have hj : j < 4 := by
        have := (List.getElem?_eq_some_iff.mp hc).1
        rw [zs_len] at this
        omega
      walk_at "dl"
      refine ⟨rfl, p, 3, _, rfl, hbj, by omega, by decide, by decide, fun hs ss O3 so l1 l2 X1 hb1 => ?_⟩
      walk_at "dl"
      refine i_End (.inl rfl) (.inl rfl) so ?_
      walk_at "dl"
      refine ⟨⟨by decide, by decide⟩, ?_⟩
      rw [rgD_zs]
      refine forGo_inv (fun i3 env O' => ∃ x6 x7 : Option D, env = [some (.lst (ns.map D.int)), some (.int b), some (.ref p), some (.int c), some (.tup [.lst hs, .lst ss]), some (endD (He.ga K "End") hs ss), x6, x7] ∧ Bag O' p (1000 * j + 200 + 40 * i3))
        ⟨_, _, rfl, by simpa using hb1⟩ (fun _ _ _ _ _ => trivial) ?_ ?_
      · rintro N3 i3 y3 env O4 hy3 ⟨w6, w7, rfl, hb3⟩ hN3
        obtain ⟨c3, hc3, rfl⟩ := map_get hy3
        have hi3 : i3 < 8 := by
          have := (List.getElem?_eq_some_iff.mp hc3).1
          rw [zs_len] at this
          omega
        have s1 := so.s1
        have h1 := so.h1
        have gb : ∀ b : Bool, good (.str (shw (.bl b))) = true := fun b => good_str (by cases b <;> decide +kernel)
        have sb : ∀ b : Bool, shwOk (.bl b) = true := fun b => by cases b <;> decide +kernel
        walk_at "dl"
        refine ⟨rfl, p, _, hs, ss, rfl, hb3, by omega, by omega, by omega, by omega, by omega, fun d O5 hd hb5 => ?_⟩
        have fd := hd.fit
        walk_at "dw"
        refine ⟨rfl, hs, ss, d, rfl, fd.g, by omega, by omega, ?_⟩
        walk_at "dl"
        refine i_repr (sb _) ?_
        walk_at "dw"
        refine ⟨rfl, hs, ss, d, rfl, fd, by omega, by omega, ?_⟩
        walk_at "dl"
        refine i_repr (sb _) ?_
        refine i_neG (gb _) (gb _) ?_
        rw [eqv_refl (good_pd (gb _))]
        refine iteF ?_
        refine i_next ?_
        walk_at "dw"
        refine ⟨rfl, p, _, hs, ss, d, rfl, hb5, by omega, by omega, by omega, hd, fun e O6 fe hb6 => ?_⟩
        walk_at "dw"
        refine ⟨rfl, hs, ss, e, rfl, fe.g, by omega, by omega, ?_⟩
        walk_at "dl"
        refine i_repr (sb _) ?_
        walk_at "dw"
        refine ⟨rfl, hs, ss, e, rfl, fe, by omega, by omega, ?_⟩
        walk_at "dl"
        refine i_repr (sb _) ?_
        refine i_neG (gb _) (gb _) ?_
        rw [eqv_refl (good_pd (gb _))]
        refine iteF ?_
        refine i_next ?_
        exact hN3 _ _ _ (.refl _) ⟨_, _, rfl, hb6.mono (by push_cast; omega)⟩
      · rintro env O' ⟨w6, w7, rfl, hb9⟩
        rw [List.length_map, zs_len] at hb9
        exact hN2 _ _ _ (.refl _) ⟨_, _, _, _, _, rfl, hb9.mono (by push_cast; omega)⟩
    · rintro env O' ⟨z3, z4, z5, z6, z7, rfl, hbj⟩
      exact hN _ _ _ (.refl _) ⟨_, _, _, _, _, _, _, rfl⟩
  · rintro env O' ⟨x1, x2, x3, x4, x5, x6, x7, rfl⟩
    walk_at "dl"
    exact rt_same (hq _)
end
end K24

set_option Elab.async false
set_option linter.all false
set_option maxRecDepth 100000
set_option maxHeartbeats 4000000
namespace K24
open PySem PySem.Spec PyProof.Rows L2 DL
open ClX (CRead CVal)
theorem facts {P : Program} {w : World} {K : PySem.W.Frag} {h : Heap} {mg : Str → Option Value} {f : Addr} (X : K.In h) (G : h.Ns mainGlobals mg) (hfa : mg ("law" : Str) = some (.ref f)) (c : SaysX fas fns K) :
    ∃ fd : FuncData, (∀ (s : Shared) (v : Value), BindsTo s fd ⟨[v], []⟩ [("_law_script", v)]) ∧ ∀ base : Heap, K.In base → base.Ns mainGlobals mg → FnG P w K mg base (L2.CX P w) 7 f fd P_law (spD K 1 f_law) := by
  have F_is_integer : HasD K "is_integer" "is_integer" s_is_integer [] [] (He.ga K "is_integer") := c.def_ 0 (z := dd_is_integer) rfl
  have F_is_bit : HasD K "is_bit" "is_bit" s_is_bit [] [] (He.ga K "is_bit") := c.def_ 1 (z := dd_is_bit) rfl
  have F_is_next : HasD K "is_next" "is_next" s_is_next [] [] (He.ga K "is_next") := c.def_ 2 (z := dd_is_next) rfl
  have F_is_row_of : HasD K "is_row_of" "is_row_of" s_is_row_of [] [] (He.ga K "is_row_of") := c.def_ 3 (z := dd_is_row_of) rfl
  have F_checked_rows : HasD K "checked_rows" "checked_rows" s_checked_rows [] [] (He.ga K "checked_rows") := c.def_ 4 (z := dd_checked_rows) rfl
  have F_words_from : HasD K "words_from" "words_from" s_words_from [] [] (He.ga K "words_from") := c.def_ 5 (z := dd_words_from) rfl
  have F_End___init__ : HasD K "__init__" "End.__init__" s_End___init__ [] [] (He.ma K (He.ga K "End") "__init__") := c.def_ 6 (z := dd_End___init__) rfl
  have F_End_hearer : HasD K "hearer" "End.hearer" s_End_hearer [] [] (ga2 K "End" "hearer") := c.def_ 7 (z := dd_End_hearer) rfl
  have F_End_sender : HasD K "sender" "End.sender" s_End_sender [] [] (ga2 K "End" "sender") := c.def_ 8 (z := dd_End_sender) rfl
  have F_law_take : HasD K "_law_take" "_law_take" s_law_take [] [] (He.ga K "_law_take") := c.def_ 9 (z := dd_law_take) rfl
  have F_law_bag : HasD K "_law_bag" "_law_bag" s_law_bag [] [] (He.ga K "_law_bag") := c.def_ 10 (z := dd_law_bag) rfl
  have F_law_puts : HasD K "_law_puts" "_law_puts" s_law_puts [] [] (He.ga K "_law_puts") := c.def_ 11 (z := dd_law_puts) rfl
  have F_law_clean : HasD K "_law_clean" "_law_clean" s_law_clean [] [] (He.ga K "_law_clean") := c.def_ 12 (z := dd_law_clean) rfl
  have F_law_way : HasD K "_law_way" "_law_way" s_law_way [] [] (He.ga K "_law_way") := c.def_ 13 (z := dd_law_way) rfl
  have F_law_aside : HasD K "_law_aside" "_law_aside" s_law_aside [] [] (He.ga K "_law_aside") := c.def_ 14 (z := dd_law_aside) rfl
  have F_law_spot : HasD K "_law_spot" "_law_spot" s_law_spot [] [] (He.ga K "_law_spot") := c.def_ 15 (z := dd_law_spot) rfl
  have F_law_end : HasD K "_law_end" "_law_end" s_law_end [] [] (He.ga K "_law_end") := c.def_ 16 (z := dd_law_end) rfl
  have F_is_row : HasD K "is_row" "is_row" s_is_row [] [] (He.ga K "is_row") := c.def_ 17 (z := dd_is_row) rfl
  have F_sorted_places : HasD K "sorted_places" "sorted_places" s_sorted_places [] [] (He.ga K "sorted_places") := c.def_ 18 (z := dd_sorted_places) rfl
  have F_is_place : HasD K "is_place" "is_place" s_is_place [] [] (He.ga K "is_place") := c.def_ 19 (z := dd_is_place) rfl
  have F_is_standing : HasD K "is_standing" "is_standing" s_is_standing [] [] (He.ga K "is_standing") := c.def_ 20 (z := dd_is_standing) rfl
  have F_law_is_number : HasD K "_law_is_number" "_law_is_number" s_law_is_number [] [] (He.ga K "_law_is_number") := c.def_ 21 (z := dd_law_is_number) rfl
  have F_law_is_place : HasD K "_law_is_place" "_law_is_place" s_law_is_place [] [] (He.ga K "_law_is_place") := c.def_ 22 (z := dd_law_is_place) rfl
  have F_law_is_in_order : HasD K "_law_is_in_order" "_law_is_in_order" s_law_is_in_order [] [] (He.ga K "_law_is_in_order") := c.def_ 23 (z := dd_law_is_in_order) rfl
  have F_law_due : HasD K "_law_due" "_law_due" s_law_due [] [] (He.ga K "_law_due") := c.def_ 24 (z := dd_law_due) rfl
  have F_law_drawn : HasD K "_law_drawn" "_law_drawn" s_law_drawn [] [] (He.ga K "_law_drawn") := c.def_ 25 (z := dd_law_drawn) rfl
  have F_law_spoilt : HasD K "_law_spoilt" "_law_spoilt" s_law_spoilt [] [] (He.ga K "_law_spoilt") := c.def_ 26 (z := dd_law_spoilt) rfl
  have F_law : HasD K "law" "law" s_law [] [] (He.ga K "law") := c.def_ 27 (z := dd_law) rfl
  have e := hfa.symm.trans (He.glo_ok X G (x := "law") (c.fact 60 (f := gloB "law") rfl))
  cases e
  have T : Txt K mg := ⟨He.cls_ok (x := "End") (c.fact 0 (f := clsB "End") rfl),
    (let ⟨t, k⟩ := He.str_ok X G (x := "HEARER") (z := "hearer") (c.fact 1 (f := strB "HEARER" "hearer") rfl); ⟨_, k, ⟨t, rfl⟩⟩),
    fun _ => .str _,
    ⟨_, He.glo_ok X G (x := "HEARER_WORDS_ends") (c.fact 2 (f := gloB "HEARER_WORDS_ends") rfl), rfl⟩,
    fun F => .tup (He.tupB_ok (c.fact 3 (f := tupX "HEARER_WORDS_ends" [.str "taken", .str "lost"]) rfl) F) (RVs.cons (RV.str _) <| RVs.cons (RV.str _) <| RVs.nil),
    ⟨_, He.glo_ok X G (x := "HEARER_WORDS_standings") (c.fact 4 (f := gloB "HEARER_WORDS_standings") rfl), rfl⟩,
    fun F => .tup (He.tupB_ok (c.fact 5 (f := tupX "HEARER_WORDS_standings" [.str "lost", .str "taken"]) rfl) F) (RVs.cons (RV.str _) <| RVs.cons (RV.str _) <| RVs.nil),
    (let ⟨t, k⟩ := He.int_ok X G (x := "MOST_WRONG") (i := 4) (c.fact 6 (f := intX "MOST_WRONG" 4) rfl); ⟨_, k, ⟨t, rfl⟩⟩),
    fun _ => .int _,
    (let ⟨t, k⟩ := He.str_ok X G (x := "SENDER") (z := "sender") (c.fact 7 (f := strB "SENDER" "sender") rfl); ⟨_, k, ⟨t, rfl⟩⟩),
    fun _ => .str _,
    ⟨_, He.glo_ok X G (x := "SENDER_PLACES") (c.fact 8 (f := gloB "SENDER_PLACES") rfl), rfl⟩,
    fun F => .tup (He.tupB_ok (c.fact 9 (f := tupX "SENDER_PLACES" [.str "again", .str "done", .str "silent"]) rfl) F) (RVs.cons (RV.str _) <| RVs.cons (RV.str _) <| RVs.cons (RV.str _) <| RVs.nil),
    ⟨_, He.glo_ok X G (x := "SENDER_WORDS") (c.fact 10 (f := gloB "SENDER_WORDS") rfl), rfl⟩,
    fun F => .tup (He.tupB_ok (c.fact 11 (f := tupX "SENDER_WORDS" [.str "done", .str "again"]) rfl) F) (RVs.cons (RV.str _) <| RVs.cons (RV.str _) <| RVs.nil),
    (cvalB_ok (c.fact 12 (f := cvalB "End" "MOST" 100) rfl)).1,
    (cvalB_ok (c.fact 12 (f := cvalB "End" "MOST" 100) rfl)).2,
    He.free_ok X G (x := "abs") (c.fact 13 (f := freeB "abs") rfl),
    He.free_ok X G (x := "all") (c.fact 14 (f := freeB "all") rfl),
    He.free_ok X G (x := "bool") (c.fact 15 (f := freeB "bool") rfl),
    He.free_ok X G (x := "enumerate") (c.fact 16 (f := freeB "enumerate") rfl),
    He.free_ok X G (x := "int") (c.fact 17 (f := freeB "int") rfl),
    He.free_ok X G (x := "isinstance") (c.fact 18 (f := freeB "isinstance") rfl),
    He.free_ok X G (x := "len") (c.fact 19 (f := freeB "len") rfl),
    He.free_ok X G (x := "list") (c.fact 20 (f := freeB "list") rfl),
    He.free_ok X G (x := "max") (c.fact 21 (f := freeB "max") rfl),
    He.free_ok X G (x := "min") (c.fact 22 (f := freeB "min") rfl),
    He.free_ok X G (x := "range") (c.fact 23 (f := freeB "range") rfl),
    He.free_ok X G (x := "repr") (c.fact 24 (f := freeB "repr") rfl),
    He.free_ok X G (x := "sorted") (c.fact 25 (f := freeB "sorted") rfl),
    He.free_ok X G (x := "str") (c.fact 26 (f := freeB "str") rfl),
    He.free_ok X G (x := "tuple") (c.fact 27 (f := freeB "tuple") rfl),
    He.free_ok X G (x := "zip") (c.fact 28 (f := freeB "zip") rfl),
    He.glo_ok X G (x := "End") (c.fact 29 (f := gloB "End") rfl),
    He.glo_ok X G (x := "_law_aside") (c.fact 30 (f := gloB "_law_aside") rfl),
    He.glo_ok X G (x := "_law_bag") (c.fact 31 (f := gloB "_law_bag") rfl),
    He.glo_ok X G (x := "_law_clean") (c.fact 32 (f := gloB "_law_clean") rfl),
    He.glo_ok X G (x := "_law_drawn") (c.fact 33 (f := gloB "_law_drawn") rfl),
    He.glo_ok X G (x := "_law_due") (c.fact 34 (f := gloB "_law_due") rfl),
    He.glo_ok X G (x := "_law_end") (c.fact 35 (f := gloB "_law_end") rfl),
    He.glo_ok X G (x := "_law_is_in_order") (c.fact 36 (f := gloB "_law_is_in_order") rfl),
    He.glo_ok X G (x := "_law_is_number") (c.fact 37 (f := gloB "_law_is_number") rfl),
    He.glo_ok X G (x := "_law_is_place") (c.fact 38 (f := gloB "_law_is_place") rfl),
    He.glo_ok X G (x := "_law_puts") (c.fact 39 (f := gloB "_law_puts") rfl),
    He.glo_ok X G (x := "_law_spoilt") (c.fact 40 (f := gloB "_law_spoilt") rfl),
    He.glo_ok X G (x := "_law_spot") (c.fact 41 (f := gloB "_law_spot") rfl),
    He.glo_ok X G (x := "_law_take") (c.fact 42 (f := gloB "_law_take") rfl),
    He.glo_ok X G (x := "_law_way") (c.fact 43 (f := gloB "_law_way") rfl),
    He.glo_ok X G (x := "checked_rows") (c.fact 44 (f := gloB "checked_rows") rfl),
    He.glo_ok X G (x := "is_bit") (c.fact 45 (f := gloB "is_bit") rfl),
    He.glo_ok X G (x := "is_integer") (c.fact 46 (f := gloB "is_integer") rfl),
    He.glo_ok X G (x := "is_next") (c.fact 47 (f := gloB "is_next") rfl),
    He.glo_ok X G (x := "is_place") (c.fact 48 (f := gloB "is_place") rfl),
    He.glo_ok X G (x := "is_row") (c.fact 49 (f := gloB "is_row") rfl),
    He.glo_ok X G (x := "is_row_of") (c.fact 50 (f := gloB "is_row_of") rfl),
    He.glo_ok X G (x := "is_standing") (c.fact 51 (f := gloB "is_standing") rfl),
    He.glo_ok X G (x := "sorted_places") (c.fact 52 (f := gloB "sorted_places") rfl),
    He.glo_ok X G (x := "words_from") (c.fact 53 (f := gloB "words_from") rfl),
    He.mkr_ok (x := "End") (c.fact 54 (f := mkrB "End") rfl),
    He.noat_ok (x := "End") (f := "hearer_rows") (c.fact 55 (f := noatB "End" "hearer_rows") rfl),
    He.noat_ok (x := "End") (f := "sender_rows") (c.fact 56 (f := noatB "End" "sender_rows") rfl),
    He.noat_ok (x := "End") (f := "table") (c.fact 57 (f := noatB "End" "table") rfl),
    propB_ok (c.fact 58 (f := propB "End" "hearer") rfl),
    propB_ok (c.fact 59 (f := propB "End" "sender") rfl)⟩
  obtain ⟨fdl, Fl⟩ := F_law
  have b := FunD.bindsA (ps := P_law) Fl fun _ _ _ _ _ _ us hl => match us, hl with | [_], _ => rfl
  refine ⟨fdl, fun s v => b s [v] rfl, fun base _ _ => ?_⟩
  have c_is_integer : Fn_is_integer P w K mg base := ok_is_integer F_is_integer T
  have c_is_bit : Fn_is_bit P w K mg base := ok_is_bit F_is_bit T ⟨c_is_integer⟩
  have c_is_next : Fn_is_next P w K mg base := ok_is_next F_is_next T ⟨c_is_integer⟩
  have c_is_row_of : Fn_is_row_of P w K mg base := ok_is_row_of F_is_row_of T ⟨c_is_bit, c_is_next⟩
  have c_checked_rows : Fn_checked_rows P w K mg base := ok_checked_rows F_checked_rows T ⟨c_is_row_of⟩
  have c_words_from : Fn_words_from P w K mg base := ok_words_from F_words_from T
  have c_End___init__ : Fn_End___init__ P w K mg base := ok_End___init__ F_End___init__ T ⟨c_checked_rows, c_words_from⟩
  have c_End_hearer : Fn_End_hearer P w K mg base := ok_End_hearer F_End_hearer T
  have c_End_sender : Fn_End_sender P w K mg base := ok_End_sender F_End_sender T
  have c_law_take : Fn_law_take P w K mg base := ok_law_take F_law_take T
  have c_law_bag : Fn_law_bag P w K mg base := ok_law_bag F_law_bag T
  have c_law_puts : Fn_law_puts P w K mg base := ok_law_puts F_law_puts T ⟨c_law_take⟩
  have c_law_clean : Fn_law_clean P w K mg base := ok_law_clean F_law_clean T
  have c_law_way : Fn_law_way P w K mg base := ok_law_way F_law_way T ⟨c_law_take⟩
  have c_law_aside : Fn_law_aside P w K mg base := ok_law_aside F_law_aside T ⟨c_law_take⟩
  have c_law_spot : Fn_law_spot P w K mg base := ok_law_spot F_law_spot T
  have c_law_end : Fn_law_end P w K mg base := ok_law_end F_law_end T ⟨c_law_aside, c_law_clean, c_law_puts, c_law_spot, c_law_take, c_law_way⟩
  have c_is_row : Fn_is_row P w K mg base := ok_is_row F_is_row T
  have c_sorted_places : Fn_sorted_places P w K mg base := ok_sorted_places F_sorted_places T ⟨c_is_row⟩
  have c_is_place : Fn_is_place P w K mg base := ok_is_place F_is_place T ⟨c_is_integer⟩
  have c_is_standing : Fn_is_standing P w K mg base := ok_is_standing F_is_standing T ⟨c_End_hearer, c_End_sender, c_is_integer, c_is_place, c_is_row, c_sorted_places⟩
  have c_law_is_number : Fn_law_is_number P w K mg base := ok_law_is_number F_law_is_number T
  have c_law_is_place : Fn_law_is_place P w K mg base := ok_law_is_place F_law_is_place T ⟨c_law_is_number⟩
  have c_law_is_in_order : Fn_law_is_in_order P w K mg base := ok_law_is_in_order F_law_is_in_order T
  have c_law_due : Fn_law_due P w K mg base := ok_law_due F_law_due T ⟨c_law_is_in_order, c_law_is_number, c_law_is_place⟩
  have c_law_drawn : Fn_law_drawn P w K mg base := ok_law_drawn F_law_drawn T ⟨c_law_take⟩
  have c_law_spoilt : Fn_law_spoilt P w K mg base := ok_law_spoilt F_law_spoilt T ⟨c_law_take⟩
  have c_law : Fn_law P w K mg base := ok_law ⟨fdl, Fl⟩ T ⟨c_End___init__, c_law_bag, c_law_drawn, c_law_due, c_law_end, c_law_spoilt, c_is_standing⟩
  obtain ⟨fd2, G2, F2⟩ := c_law.ex
  obtain rfl : fd2 = fdl := by
    obtain ⟨_, _, _, _, _, _, _, _, _, _, _, k1, _⟩ := F2.ex
    obtain ⟨_, _, _, _, _, _, _, _, _, _, _, k2, _⟩ := Fl.ex
    rw [k1] at k2
    cases k2
    rfl
  exact G2
end K24
open PySem PySem.W PySem.Calls PyProof.Rows in
set_option maxRecDepth 100000 in
set_option maxHeartbeats 0 in
theorem PySem.Challenge.cw_strongbit_k24_any_value_as_a_standing_holds : PySem.Challenge.rw_strongbit_k24_any_value_as_a_standing.Holds := by
  w_on; o_law
  refine HandSHeadRun.head_any (r := K24.R) (q := view K24.R.prog [42]) (H := K24.hk) (ob := K24.ob) (M := 20000) (loose := K24.loose) (d := HandSHeadRun.topDef K24.R.prog 42) (kwd := []) K24.ob_eq
    (by kernel_rfl) (fun s => by kernel_rfl) K24.run (by kernel_rfl) (by kernel_rfl) (by kernel_rfl) (by rfl) (by first | assumption | decide +kernel) (by decide +kernel) ⟨rfl, rfl, rfl, rfl, rfl, by decide +kernel⟩ ?hw ?hc
  case hw => w_witness2
  case hc =>
    refine DL.walk_GE (l := PySem.Challenge.rw_strongbit_k24_any_value_as_a_standing) (n := 63) (k := 7) (x := "_law_script") (fn := K24.f_law) rfl (by decide) (by kernel_rfl) ⟨rfl, by decide, by decide⟩ ?F (fun ns hl _ => ⟨ns, rfl, hl, fun _ => rfl⟩)
    intro w mg fa h Y G hmg0
    obtain ⟨K, KX, c⟩ := Y
    have hmg : mg ("law" : PySem.Str) = some (.ref fa) := by
      have e : (HandSHeadRun.topDef K24.R.prog 42).name = ("law" : PySem.Str) := by kernel_rfl
      rw [← e]
      exact hmg0
    obtain ⟨fd, hb, hF⟩ := K24.facts (P := (PySem.Challenge.rw_strongbit_k24_any_value_as_a_standing).prog) (w := w) KX G hmg c
    exact ⟨K, fd, KX, hb, hF⟩
