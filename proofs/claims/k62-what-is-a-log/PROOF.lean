import PyProof.Rows.All
import Wide.All
import OpenK.AllK
import Wide.FinOn
import HandS.ForMost
import HandS.Lambda
import KE.KDictKeyed
import HandS.Defaults
import HandS.ForExc
import HandS.CallSlots
import HandS.Deep
import HandS.Conv
import HandS.TupMul
import HandS.TupAny
import HandS.Wide
import HandS.Flow
import HandS.RaiseMore
import KE.SortData
import HandS.EndBits
import KE.OsSortAny
import HandS.Head0
import HandS.Head1
import HandS.Head2
import HandS.HeadEnd
import HandS.HeadHook1
import HandS.HeadHook2
import HandS.IsInst
import HandS.Property
import HandS.ClsMeth
import HandS.Style
import KE.GoesEnum
import KE.GoesMore
import KE.KUnpackStar
import HandS.HeadHook3
import KE.KCallOwn
import HandS.Text
import HandS.IterVal
import KE.KOwnIter
import HandS.FStr
import HandS.ExcInit
import HandS.ExcField
import HandS.Star
import HandS.StrMore
import HandS.TryOnly
import HandS.Codes
import HandS.ExcIs
import HandS.DictComp
import HandS.SortKw
import KE.DataMinMax
import KE.SortKeyHeap
import KE.KSortKey
import PyProof.InstNe
import HandS.GenList
import PyProof.WalksMore
import HandS.SetBool
import HandS.SetKeys
import HandS.TupSets
import HandS.Zip
import HandS.Sort
import KE.KExcInit
import KE.KExcPX
import PyProof.ExcBaseAll.RuntimeError
import PyProof.ExcBaseAll.LookupError
import PyProof.ExcBaseAll.ArithmeticError
import PyProof.ExcBaseAll.IndexError
import PyProof.ExcBaseAll.OverflowError
import PyProof.ExcBaseAll.TypeError
import HandS.Steps
import KE.KDictDisplayH
import HandS.TupLen
import HandS.WordsDict
import HandS.EndTab
import PyProof.Rows.StrItems
import HandS.Small
import HandS.DictSub
import HandS.SetFor
import KE.KIndexOf
import HandS.Comp
import HandS.More
import PySem.Challenge.RW_strongbit_k62_what_is_a_log
set_option Elab.async false
set_option linter.all false
set_option maxRecDepth 100000
set_option maxHeartbeats 4000000
namespace DL
open PySem L2
inductive D where
  | non | bl (b : Bool) | int (i : Int) | str (x : Str) | ref (a : Addr) | ty (n : String)
  | lst (ds : List D) | tup (ds : List D)
  /-- an instance that no longer changes: its class, its attributes -/
  | ins (C : Addr) (ns : List Str) (ds : List D)
abbrev Frag := PySem.W.Frag
abbrev St := L2.St
/-- no dict of its own stands behind the tuple at a -/
def NdT (K : Frag) (F : Hp) (a : Addr) : Prop := (∃ o u, F a = some (.frz o u) ∧ o.dict = none) ∨ ∃ o, K.lookup a = some o ∧ o.dict = none
/-- a tuple without a dict -/
structure SqN (K : Frag) (F : Hp) (a : Addr) (xs : List V) : Prop where
  sq : SqT K F a xs
  nd : NdT K F a
instance {K : Frag} {F : Hp} {a : Addr} {xs : List V} : Coe (SqN K F a xs) (SqT K F a xs) := ⟨SqN.sq⟩
mutual
inductive RV (K : Frag) (F : Hp) : D → V → Prop
  | non : RV K F .non .non
  | bl (b : Bool) : RV K F (.bl b) (.bl b)
  | int (i : Int) : RV K F (.int i) (.int i)
  | str (x : Str) : RV K F (.str x) (.str x)
  | ref (a : Addr) : RV K F (.ref a) (.ref a)
  | ty (n : String) : RV K F (.ty n) (.ty n)
  | lst {a : Addr} {xs : List V} {ds : List D} : SqL K F a xs → RVs K F ds xs → RV K F (.lst ds) (.ref a)
  | tup {a : Addr} {xs : List V} {ds : List D} : SqN K F a xs → RVs K F ds xs → RV K F (.tup ds) (.ref a)
  | ins {a dx C : Addr} {ns : List Str} {xs : List V} {ds : List D} : F a = some (.ins C dx (ns.zip xs)) → ns.length = ds.length → RVs K F ds xs → RV K F (.ins C ns ds) (.ref a)
inductive RVs (K : Frag) (F : Hp) : List D → List V → Prop
  | nil : RVs K F [] []
  | cons {d : D} {ds : List D} {v : V} {vs : List V} : RV K F d v → RVs K F ds vs → RVs K F (d :: ds) (v :: vs)
end
theorem same_tup {K : Frag} {H H' : Hp} {a : Addr} {xs : List V} (e : Same H H') (h : SqT K H a xs) : SqT K H' a xs := by
  rcases h with (h | ⟨o, h⟩) | h
  · exact .inl (.inl (e _ _ h))
  · exact .inl (.inr ⟨o, e _ _ h⟩)
  · exact .inr h
theorem NdT.mono {K : Frag} {H H' : Hp} {a : Addr} (e : Same H H') (h : NdT K H a) : NdT K H' a := by
  rcases h with ⟨o, u, h, d⟩ | h
  · exact .inl ⟨o, u, e _ _ h, d⟩
  · exact .inr h
theorem SqN.mono {K : Frag} {H H' : Hp} {a : Addr} {xs : List V} (e : Same H H') (h : SqN K H a xs) : SqN K H' a xs := ⟨same_tup e h.sq, h.nd.mono e⟩
/-- a tuple that was just made -/
theorem SqN.new {K : Frag} {H : Hp} {p : Addr} {o : Obj} {xs : List V} (h : o.dict = none) : SqN K (upd H p (.frz o (.tup xs))) p xs := ⟨.inl (.inr ⟨o, upd_same⟩), .inl ⟨o, _, upd_same, h⟩⟩
mutual
theorem RV.mono {K : Frag} {F F' : Hp} (s : Same F F') : ∀ {d : D} {v : V}, RV K F d v → RV K F' d v
  | _, _, .non => .non
  | _, _, .bl b => .bl b
  | _, _, .int i => .int i
  | _, _, .str x => .str x
  | _, _, .ref a => .ref a
  | _, _, .ty n => .ty n
  | _, _, .lst h hs => .lst (s.seq h) (RVs.mono s hs)
  | _, _, .tup h hs => .tup (h.mono s) (RVs.mono s hs)
  | _, _, .ins h l hs => .ins (s _ _ h) l (RVs.mono s hs)
theorem RVs.mono {K : Frag} {F F' : Hp} (s : Same F F') : ∀ {ds : List D} {vs : List V}, RVs K F ds vs → RVs K F' ds vs
  | _, _, .nil => .nil
  | _, _, .cons h hs => .cons (RV.mono s h) (RVs.mono s hs)
end
section
variable {K : Frag} {F : Hp}
theorem RVs.length : ∀ {ds : List D} {vs : List V}, RVs K F ds vs → ds.length = vs.length
  | _, _, .nil => rfl
  | _, _, .cons _ hs => congrArg (· + 1) (RVs.length hs)
theorem RVs.append : ∀ {ds es : List D} {vs ws : List V}, RVs K F ds vs → RVs K F es ws → RVs K F (ds ++ es) (vs ++ ws)
  | _, _, _, _, .nil, h => h
  | _, _, _, _, .cons h hs, h' => .cons h (RVs.append hs h')
theorem RVs.get : ∀ {ds : List D} {vs : List V} {i : Nat} {d : D}, RVs K F ds vs → ds[i]? = some d → ∃ v, vs[i]? = some v ∧ RV K F d v
  | _, _, _, _, .nil, e => by simp at e
  | _, _, 0, _, .cons h _, e => by simp at e; subst e; exact ⟨_, rfl, h⟩
  | _, _, i + 1, d, .cons _ hs, e => by
    obtain ⟨v, h1, h2⟩ := RVs.get (i := i) (d := d) hs (by simpa using e)
    exact ⟨v, by simpa using h1, h2⟩
theorem RVs.set {d : D} {v : V} (r : RV K F d v) : ∀ {ds : List D} {vs : List V} (i : Nat), RVs K F ds vs → RVs K F (ds.set i d) (vs.set i v)
  | _, _, _, .nil => .nil
  | _, _, 0, .cons _ t => .cons r t
  | _, _, i + 1, .cons q t => .cons q (RVs.set r i t)
theorem RVs.take : ∀ {ds : List D} {vs : List V} (n : Nat), RVs K F ds vs → RVs K F (ds.take n) (vs.take n)
  | _, _, 0, _ => .nil
  | _, _, _ + 1, .nil => .nil
  | _, _, n + 1, .cons r t => .cons r (RVs.take n t)
theorem RVs.drop : ∀ {ds : List D} {vs : List V} (n : Nat), RVs K F ds vs → RVs K F (ds.drop n) (vs.drop n)
  | _, _, 0, r => r
  | _, _, _ + 1, .nil => .nil
  | _, _, n + 1, .cons _ t => RVs.drop n t
theorem RVs.one {d : D} {vs : List V} (h : RVs K F [d] vs) : ∃ v, vs = [v] ∧ RV K F d v := by
  cases h with
  | cons h hs => cases hs; exact ⟨_, rfl, h⟩
theorem RVs.two {d e : D} {vs : List V} (h : RVs K F [d, e] vs) : ∃ v w, vs = [v, w] ∧ RV K F d v ∧ RV K F e w := by
  cases h with
  | cons h hs =>
    obtain ⟨w, rfl, h2⟩ := hs.one
    exact ⟨_, _, rfl, h, h2⟩
end
inductive OD where
  | lst (ds : List D)
  | dK (kvs : List (Key × D))
  | dT (kvs : List (List Key × D))
  | ins (C dx : Addr) (fs : List (Str × D))
  /-- a dict whose keys are tuples of any depth -/
  | dN (w : World) (kvs : List (D × D))
  /-- a dict that is walked: it no longer changes -/
  | fK (u : HO) (kvs : List (Key × D))
/-- data as a key -/
def nkey : D → Option NestedKey
  | .non => some .none
  | .bl b => some (.num (if b = true then 1 else 0))
  | .int i => some (.num i)
  | .str x => some (.text x)
  | .tup ds => (nkeys ds).map .tup
  | _ => none
where nkeys : List D → Option (List NestedKey)
  | [] => some []
  | d :: ds => match nkey d, nkeys ds with
    | some k, some ks => some (k :: ks)
    | _, _ => none
/-- such a dict in the heap: keys, their tuples, the values -/
def RawN (w : World) (p : Addr) (xs : List (NestedKey × Addr × V)) : HO := .ext fun h => xs.length ≤ sizeLine ∧ (p == sysModules) = false ∧ ∃ ys : List (NestedKey × Addr × Value),
  Paired (fun (x : NestedKey × Addr × V) (y : NestedKey × Addr × Value) => x.1 = y.1 ∧ x.2.1 = y.2.1 ∧ RelV x.2.2 y.2.2) xs ys ∧
  ∃ o es ep, h.get? p = some o ∧ o.ExactDict ∧ o.data = .dict es ep ∧ es.toList = ys.map (fun y => ⟨y.1.hash w, .ref y.2.1, y.2.2⟩) ∧ (ys.map (·.1)).Nodup
abbrev Ow := Addr → Option OD
abbrev Env := List (Option D)
def setO (O : Ow) (a : Addr) (o : OD) : Ow := fun b => if b = a then some o else O b
theorem setO_same {O : Ow} {a : Addr} {o : OD} : setO O a o a = some o := by unfold setO; rw [if_pos rfl]
theorem setO_ne {O : Ow} {a b : Addr} {o : OD} (h : b ≠ a) : setO O a o b = O b := by unfold setO; rw [if_neg h]
theorem setO_setO {O : Ow} {a : Addr} {o u : OD} : setO (setO O a o) a u = setO O a u := by
  funext b; unfold setO; split <;> rfl
/-- what is forgotten of the ghost heap -/
def SubO (a b : Ow) : Prop := ∀ p o, a p = some o → b p = some o
theorem SubO.refl (O : Ow) : SubO O O := fun _ _ h => h
theorem SubO.trans {a b c : Ow} (h : SubO a b) (h' : SubO b c) : SubO a c := fun p o e => h' p o (h p o e)
theorem SubO.gone {a b : Ow} (h : SubO a b) {p : Addr} (e : b p = Option.none) : a p = Option.none := by
  cases z : a p with
  | none => rfl
  | some o => rw [h p o z] at e; cases e
theorem SubO.fresh {O : Ow} {p : Addr} {o : OD} (h : O p = none) : SubO O (setO O p o) := fun q x e => by
  have : q ≠ p := fun z => by rw [z, h] at e; cases e
  rw [setO_ne this]; exact e
def RKV {κ : Type} (K : Frag) (F : Hp) : List (κ × D) → List (κ × V) → Prop := Paired fun (p : κ × D) (q : κ × V) => p.1 = q.1 ∧ RV K F p.2 q.2
def RN (K : Frag) (F : Hp) : List (D × D) → List (NestedKey × Addr × V) → Prop := Paired fun (p : D × D) (q : NestedKey × Addr × V) => nkey p.1 = some q.1 ∧ q.1.depth ≤ 8 ∧ RV K F p.1 (.ref q.2.1) ∧ RV K F p.2 q.2.2
def RO (K : Frag) (F : Hp) (a : Addr) : OD → HO → Prop
  | .lst ds, o => ∃ vs, o = .lst vs ∧ RVs K F ds vs
  | .dK kvs, o => ∃ ks, o = .dK ks ∧ RKV K F kvs ks
  | .dT kvs, o => ∃ ks, o = .dT ks ∧ RKV K F kvs ks
  | .ins C dx fs, o => ∃ gs, o = .ins C dx gs ∧ RKV K F fs gs
  | .dN w kvs, o => ∃ xs, o = RawN w a xs ∧ RN K F kvs xs
  | .fK u kvs, o => ∃ x : Obj × List (Key × V), o = .frz x.1 (.dK x.2) ∧ u = o ∧ RKV K F kvs x.2
theorem RKV.mono {κ : Type} {K : Frag} {F F' : Hp} (s : Same F F') : ∀ {l : List (κ × D)} {m : List (κ × V)}, RKV K F l m → RKV K F' l m
  | _, _, .nil => .nil
  | _, _, .cons h t => .cons ⟨h.1, h.2.mono s⟩ (RKV.mono s t)
theorem RN.mono {K : Frag} {F F' : Hp} (s : Same F F') : ∀ {l : List (D × D)} {m : List (NestedKey × Addr × V)}, RN K F l m → RN K F' l m
  | _, _, .nil => .nil
  | _, _, .cons h t => .cons ⟨h.1, h.2.1, h.2.2.1.mono s, h.2.2.2.mono s⟩ (RN.mono s t)
theorem RO.mono {K : Frag} {F F' : Hp} (s : Same F F') {a : Addr} : ∀ {o : OD} {h : HO}, RO K F a o h → RO K F' a o h
  | .lst _, _, ⟨vs, e, r⟩ => ⟨vs, e, r.mono s⟩
  | .dK _, _, ⟨vs, e, r⟩ => ⟨vs, e, RKV.mono s r⟩
  | .dT _, _, ⟨vs, e, r⟩ => ⟨vs, e, RKV.mono s r⟩
  | .ins _ _ _, _, ⟨vs, e, r⟩ => ⟨vs, e, RKV.mono s r⟩
  | .dN _ _, _, ⟨vs, e, r⟩ => ⟨vs, e, RN.mono s r⟩
  | .fK _ _, _, ⟨x, e, e2, r⟩ => ⟨x, e, e2, RKV.mono s r⟩
/-- what a heap says of the ghost one -/
def OwOk (K : Frag) (O : Ow) (H F : Hp) : Prop := ∀ p o, O p = some o → F p = none ∧ ∃ ho, H p = some ho ∧ RO K F p o ho
/-- the names hold this data -/
def Sl (K : Frag) (env : Env) (σ : St) (F : Hp) : Prop := env.length = σ.length ∧ ∀ (i : Nat) (d : D), env[i]? = some (some d) → ∃ v, σ[i]? = some (some v) ∧ RV K F d v
/-- the name of the lambdas of the code object whose table is P -/
def qT (K : Frag) (P : Addr) : Str := ((K.findSome? (β := Str) fun e => match e.2 with
  | ⟨.type "code", _, .fields vs, _⟩ => (match (vs[11]? : Option Value), (vs[1]? : Option Value) with
    | some (.ref P'), some (.str n _) => if P' == P then some n else none
    | _, _ => none)
  | _ => none).getD "") ++ ".<locals>.<lambda>"
/-- the table at P tells lambdas named q only, q being the name that K tells -/
def TabQ (K : Frag) (H : Hp) (P : Addr) (q : Str) : Prop := q = qT K P ∧ LamX.TabS H P q
/-- from one moment to a later one: what was frozen stays so, what is nobody's own stands as it stood -/
structure After (K : Frag) (O : Ow) (H F : Hp) (O' : Ow) (H' F' : Hp) : Prop where
  ff : Same F F'
  fh : Same F' H'
  kq : ∀ a o, H a = some o → O a = none → H' a = some o ∨ ∃ ps ps', o = HO.tbl ps ∧ H' a = some (HO.tbl ps')
  fr : ∀ a, H a ≠ none → O a = none → F a = none → F' a = none
  ow : OwOk K O' H' F'
  nw : ∀ p o, O' p = some o → O p ≠ none ∨ H p = none
  tb : ∀ P q, TabQ K H P q → TabQ K H' P q
theorem After.kp {K : Frag} {O O' : Ow} {H F H' F' : Hp} (a : After K O H F O' H' F') : ∀ x o, H x = some o → O x = none → (∀ ps, o ≠ HO.tbl ps) → H' x = some o := fun x o e h hn => by
  rcases a.kq x o e h with z | ⟨ps, _, z, _⟩
  · exact z
  · exact absurd z (hn ps)
theorem After.kn {K : Frag} {O O' : Ow} {H F H' F' : Hp} (a : After K O H F O' H' F') : ∀ x o, H x = some o → O x = none → H' x ≠ none := fun x o e h => by
  rcases a.kq x o e h with z | ⟨ps, ps', _, z⟩ <;> rw [z] <;> simp
/-- neither a table of code nor a code object -/
def Nt (p : Addr) (o : HO) : Prop := (∀ ps, o ≠ HO.tbl ps) ∧ ∀ q, o ≠ LamX.CodeO p q
theorem code_ne {f : Heap → Prop} {c : Addr} {q : Str} (hf : ∀ (h : Heap) (o : Obj) (vs : Array Value), f h → h.get? c = some o → o.data ≠ .fields vs) : HO.ext f ≠ LamX.CodeO c q := fun e => by
  have e := HO.ext.inj e
  let oc : Obj := { cls := .none, dict := none, data := .fields #[.none, .str q default], slots := #[] }
  let h : Heap := ⟨Array.replicate (c + 1) oc, {}⟩
  have hg : h.get? c = some oc := by
    unfold Heap.get?
    have : h.objs[c]? = some oc := by simp [h]
    rw [this]
  have h2 := (congrFun e h).mpr ⟨oc, _, _, hg, rfl, rfl⟩
  exact hf h oc _ h2 hg rfl
theorem code_raw {w : World} {c : Addr} {q : Str} {xs : List (NestedKey × Addr × V)} : RawN w c xs ≠ LamX.CodeO c q := code_ne fun h o vs hr hg z => by
  obtain ⟨_, _, ys, _, o', es, ep, e1, _, e2, _⟩ := hr
  rw [hg] at e1
  cases e1
  rw [z] at e2
  cases e2
theorem RO.nt {K : Frag} {F : Hp} {a : Addr} : ∀ {u : OD} {o : HO}, RO K F a u o → Nt a o
  | .lst _, _, ⟨vs, e, r⟩ => ⟨(fun _ z => by rw [e] at z; cases z), fun _ z => by rw [e] at z; cases z⟩
  | .dK _, _, ⟨vs, e, r⟩ => ⟨(fun _ z => by rw [e] at z; cases z), fun _ z => by rw [e] at z; cases z⟩
  | .dT _, _, ⟨vs, e, r⟩ => ⟨(fun _ z => by rw [e] at z; cases z), fun _ z => by rw [e] at z; cases z⟩
  | .ins _ _ _, _, ⟨vs, e, r⟩ => ⟨(fun _ z => by rw [e] at z; cases z), fun _ z => by rw [e] at z; cases z⟩
  | .dN _ _, _, ⟨vs, e, r⟩ => ⟨(fun _ z => by rw [e] at z; cases z), fun _ z => by rw [e] at z; exact code_raw z⟩
  | .fK _ _, _, ⟨x, e, e2, r⟩ => ⟨(fun _ z => by rw [e] at z; cases z), fun _ z => by rw [e] at z; cases z⟩
theorem nt_none {H : Hp} {p : Addr} (h : H p = none) : ∀ o, H p = some o → Nt p o := fun o e => by rw [h] at e; cases e
theorem nt_some {H : Hp} {p : Addr} {o : HO} (h : H p = some o) (hn : Nt p o) : ∀ o, H p = some o → Nt p o := fun o' e => by rw [h] at e; cases e; exact hn
theorem nt_lst {p : Addr} {vs : List V} : Nt p (.lst vs) := ⟨(fun _ z => by cases z), fun _ z => by cases z⟩
theorem tabs_upd {K : Frag} {H : Hp} {P p : Addr} {q : Str} {o : HO} (t : TabQ K H P q) (hp : ∀ o, H p = some o → Nt p o) : TabQ K (upd H p o) P q := by
  obtain ⟨eq, ps, e1, e2, e3⟩ := t
  have hP : P ≠ p := fun z => (hp _ (z ▸ e1)).1 ps rfl
  refine ⟨eq, ps, by rw [upd_ne hP]; exact e1, e2, fun pos cv h => ?_⟩
  obtain ⟨c, ec, hc⟩ := e3 pos cv h
  have hcp : c ≠ p := fun z => by
    subst z
    exact (hp _ hc).2 q rfl
  exact ⟨c, ec, by rw [upd_ne hcp]; exact hc⟩
theorem tabs_new {K : Frag} {H : Hp} {P p : Addr} {q : Str} {o : HO} (t : TabQ K H P q) (h : H p = none) : TabQ K (upd H p o) P q := tabs_upd t fun o e => by rw [h] at e; cases e
/-- a moment: the base from which a body (or a try) goes on -/
structure Bd where
  K : Frag
  O : Ow
  H : Hp
  F : Hp
structure Rel (B : Bd) (env : Env) (O : Ow) (σ : St) (H F : Hp) : Prop where
  af : After B.K B.O B.H B.F O H F
  sl : Sl B.K env σ F
section
variable {K : Frag} {B : Bd} {env : Env} {O : Ow} {σ : St} {H F : Hp}
theorem Rel.fh (R : Rel B env O σ H F) : Same F H := R.af.fh
theorem Rel.ow (R : Rel B env O σ H F) : OwOk B.K O H F := R.af.ow
theorem Sl.mono {F' : Hp} (h : Sl K env σ F) (s : Same F F') : Sl K env σ F' := ⟨h.1, fun i d e => let ⟨v, e1, r⟩ := h.2 i d e; ⟨v, e1, r.mono s⟩⟩
theorem After.rfl' (fh : Same F H) (ow : OwOk K O H F) : After K O H F O H F := ⟨Same.refl _, fh, fun _ _ e _ => .inl e, fun _ _ _ e => e, ow, fun _ _ e => .inl (by rw [e]; simp), fun _ _ t => t⟩
theorem After.refl (R : Rel B env O σ H F) : After B.K O H F O H F := .rfl' R.fh R.ow
theorem After.trans {O1 O2 : Ow} {H1 F1 H2 F2 : Hp} (a : After K O H F O1 H1 F1) (b : After K O1 H1 F1 O2 H2 F2) : After K O H F O2 H2 F2 := by
  have hO : ∀ x, H x ≠ none → O x = none → O1 x = none := fun x h1 h2 => by
    cases e : O1 x with
    | none => rfl
    | some o => rcases a.nw x o e with z | z; exact absurd h2 z; exact absurd z h1
  have hH : ∀ x, H x ≠ none → O x = none → H1 x ≠ none := fun x h1 h2 => by
    cases e : H x with
    | none => exact absurd e h1
    | some o => exact a.kn x o e h2
  refine ⟨a.ff.trans b.ff, b.fh, fun x o e h => ?_, fun x h1 h2 h3 => b.fr x (hH x h1 h2) (hO x h1 h2) (a.fr x h1 h2 h3), b.ow, fun p o e => ?_, fun P q t => b.tb P q (a.tb P q t)⟩
  · have hO1 := hO x (by rw [e]; simp) h
    rcases a.kq x o e h with z | ⟨ps, ps1, z1, z⟩
    · exact b.kq x o z hO1
    · rcases b.kq x _ z hO1 with y | ⟨_, ps2, _, y⟩
      · exact .inr ⟨ps, ps1, z1, y⟩
      · exact .inr ⟨ps, ps2, z1, y⟩
  rcases b.nw p o e with z | z
  · cases e1 : O1 p with
    | none => exact absurd e1 z
    | some o1 => exact a.nw p o1 e1
  · by_cases h : O p = none
    · refine .inr ?_
      cases e1 : H p with
      | none => rfl
      | some o1 => exact absurd z (a.kn p o1 e1 h)
    · exact .inl h
theorem Rel.call {O' : Ow} {H' F' : Hp} (R : Rel B env O σ H F) (a : After B.K O H F O' H' F') : Rel B env O' σ H' F' := ⟨R.af.trans a, R.sl.mono a.ff⟩
theorem Rel.on {O' : Ow} {H' F' : Hp} {env' : Env} {σ' : St} (R : Rel B env O σ H F) (a : After B.K O H F O' H' F') (s : Sl B.K env' σ' F') : Rel B env' O' σ' H' F' := ⟨R.af.trans a, s⟩
theorem Rel.free (R : Rel B env O σ H F) {p : Addr} (h : H p = none) : O p = none ∧ F p = none := by
  refine ⟨?_, R.fh.free h⟩
  cases e : O p with
  | none => rfl
  | some o =>
    obtain ⟨_, ho, e2, _⟩ := R.ow p o e
    rw [h] at e2; cases e2
/-- a new frozen object -/
theorem Rel.froz (R : Rel B env O σ H F) {p : Addr} (h : H p = none) (o : HO) : After B.K O H F O (upd H p o) (upd F p o) := by
  obtain ⟨hO, hF⟩ := R.free h
  have s : Same F (upd F p o) := fun b u e => by rw [upd_ne (ne_of_none e hF)]; exact e
  refine ⟨s, fun b u e => ?_, fun b u e _ => .inl (by rw [upd_ne (ne_of_none e h)]; exact e), fun a ha _ h0 => ?_, fun q u e => ?_, fun q u e => .inl (by rw [e]; simp), fun _ _ t => tabs_new t h⟩
  · by_cases hb : b = p
    · subst hb; rw [upd_same] at e ⊢; exact e
    · rw [upd_ne hb] at e ⊢; exact R.fh b u e
  · have : a ≠ p := fun z => ha (z ▸ h)
    rw [upd_ne this]; exact h0
  · have hq : q ≠ p := fun z => by rw [z, hO] at e; cases e
    obtain ⟨h1, ho, h3, h4⟩ := R.ow q u e
    exact ⟨by rw [upd_ne hq]; exact h1, ho, by rw [upd_ne hq]; exact h3, h4.mono s⟩
/-- a new object of one's own -/
theorem Rel.own (R : Rel B env O σ H F) {p : Addr} (h : H p = none) {o : HO} {u : OD} (r : RO B.K F p u o) : After B.K O H F (setO O p u) (upd H p o) F := by
  obtain ⟨hO, hF⟩ := R.free h
  refine ⟨Same.refl _, fun b x e => by rw [upd_ne (ne_of_none e hF)]; exact R.fh b x e, fun b x e _ => .inl (by rw [upd_ne (ne_of_none e h)]; exact e), fun _ _ _ e => e, fun q x e => ?_, fun q x e => ?_, fun _ _ t => tabs_new t h⟩
  · by_cases hq : q = p
    · subst hq
      rw [setO_same] at e; cases e
      exact ⟨hF, o, upd_same, r⟩
    · rw [setO_ne hq] at e
      obtain ⟨h1, ho, h3, h4⟩ := R.ow q x e
      exact ⟨h1, ho, by rw [upd_ne hq]; exact h3, h4⟩
  · by_cases hq : q = p
    · subst hq; exact .inr h
    · rw [setO_ne hq] at e; exact .inl (by rw [e]; simp)
/-- one's own object changes -/
theorem Rel.put (R : Rel B env O σ H F) {p : Addr} {u0 : OD} (h : O p = some u0) {o : HO} {u : OD} (r : RO B.K F p u o) : After B.K O H F (setO O p u) (upd H p o) F := by
  obtain ⟨hF, o0, hp0, hr0⟩ := R.ow p u0 h
  refine ⟨Same.refl _, fun b x e => by rw [upd_ne (ne_of_none e hF)]; exact R.fh b x e, fun b x e ho => ?_, fun _ _ _ e => e, fun q x e => ?_, fun q x e => ?_, fun _ _ t => tabs_upd t fun o e => by rw [hp0] at e; cases e; exact hr0.nt⟩
  · have : b ≠ p := fun z => by rw [z, h] at ho; cases ho
    rw [upd_ne this]; exact .inl e
  · by_cases hq : q = p
    · subst hq
      rw [setO_same] at e; cases e
      exact ⟨hF, o, upd_same, r⟩
    · rw [setO_ne hq] at e
      obtain ⟨h1, ho, h3, h4⟩ := R.ow q x e
      exact ⟨h1, ho, by rw [upd_ne hq]; exact h3, h4⟩
  · by_cases hq : q = p
    · subst hq; exact .inl (by rw [h]; simp)
    · rw [setO_ne hq] at e; exact .inl (by rw [e]; simp)
/-- forget -/
theorem After.weak {O' O'' : Ow} {H' F' : Hp} (a : After K O H F O' H' F') (h : SubO O'' O') : After K O H F O'' H' F' :=
  ⟨a.ff, a.fh, a.kq, a.fr, fun p o e => a.ow p o (h p o e), fun p o e => a.nw p o (h p o e), a.tb⟩
/-- a name is stored -/
theorem Sl.setv (R : Sl K env σ F) {i : Nat} {d : D} {v : V} (r : RV K F d v) : Sl K (env.set i (some d)) (σ.set i (some v)) F := by
  refine ⟨by simpa using R.1, fun j d' e => ?_⟩
  by_cases hj : i = j
  · subst hj
    have hi : i < env.length := by
      have := (List.getElem?_eq_some_iff.mp e).1
      simpa using this
    rw [List.getElem?_set_self hi] at e
    cases e
    exact ⟨v, by rw [List.getElem?_set_self (by rw [← R.1]; exact hi)], r⟩
  · rw [List.getElem?_set_ne hj] at e
    obtain ⟨v', e1, r1⟩ := R.2 j d' e
    exact ⟨v', by rw [List.getElem?_set_ne hj]; exact e1, r1⟩
theorem Sl.setn (R : Sl K env σ F) {i : Nat} {x : Option V} : Sl K (env.set i none) (σ.set i x) F := by
  refine ⟨by simpa using R.1, fun j d e => ?_⟩
  by_cases hij : i = j
  · subst hij
    by_cases hl : i < env.length
    · rw [List.getElem?_set_self hl] at e; cases e
    · rw [List.getElem?_eq_none (by simpa using hl)] at e; cases e
  · rw [List.getElem?_set_ne hij] at e ⊢
    exact R.2 j d e
/-- an own list is frozen: from now on it is data -/
theorem Rel.ice (R : Rel B env O σ H F) {p : Addr} {ds : List D} (h : O p = some (.lst ds)) : ∃ F', RV B.K F' (.lst ds) (.ref p) ∧ After B.K O H F (fun b => if b = p then none else O b) H F' := by
  obtain ⟨hF, ho, e1, vs, rfl, r⟩ := R.ow p _ h
  have s : Same F (upd F p (.lst vs)) := fun b u e => by rw [upd_ne (ne_of_none e hF)]; exact e
  refine ⟨upd F p (.lst vs), .lst (SqL.of upd_same) (r.mono s), ⟨s, fun b u e => ?_, fun _ _ e _ => .inl e, fun a ha ho h0 => ?_, fun q u e => ?_, fun q u e => ?_, fun _ _ t => t⟩⟩
  · by_cases hb : b = p
    · subst hb; rw [upd_same] at e; cases e; exact e1
    · rw [upd_ne hb] at e; exact R.fh b u e
  · have : a ≠ p := fun z => by rw [z, h] at ho; cases ho
    rw [upd_ne this]; exact h0
  · by_cases hq : q = p
    · rw [if_pos hq] at e; cases e
    · rw [if_neg hq] at e
      obtain ⟨h1, ho, h3, h4⟩ := R.ow q u e
      exact ⟨by rw [upd_ne hq]; exact h1, ho, h3, h4.mono s⟩
  · by_cases hq : q = p
    · rw [if_pos hq] at e; cases e
    · rw [if_neg hq] at e; exact .inl (by rw [e]; simp)
end
abbrev DQ := D → Ow → Prop
abbrev DTE := Env → Ow → DQ → Prop
abbrev DTT := Env → Ow → (Bool → Ow → Prop) → Prop
abbrev DTA := Env → Ow → (List D → Ow → Prop) → Prop
def lift (B : Bd) (t : DTE) : TE := fun σ H Q => ∃ env O F q, Rel B env O σ H F ∧ t env O q ∧
  ∀ d v O' H' F', After B.K O H F O' H' F' → RV B.K F' d v → q d O' → Q v H'
def liftT (B : Bd) (t : DTT) : TT := fun σ H Q => ∃ env O F q, Rel B env O σ H F ∧ t env O q ∧
  ∀ b O' H' F', After B.K O H F O' H' F' → q b O' → Q b H'
def liftA (B : Bd) (t : DTA) : TA := fun σ H Q => ∃ env O F q, Rel B env O σ H F ∧ t env O q ∧
  ∀ ds vs O' H' F', After B.K O H F O' H' F' → RVs B.K F' ds vs → q ds O' → Q vs H'
theorem PE.weak {X : Cx} {e : Expr} {t t' : TE} (h : PE X e t) (i : ∀ σ H Q, t' σ H Q → t σ H Q) : PE X e t' := ⟨fun pins s σ H Q I q => h.run pins s σ H Q I (i σ H Q q)⟩
theorem PT.weak {X : Cx} {e : Expr} {t t' : TT} (h : PT X e t) (i : ∀ σ H Q, t' σ H Q → t σ H Q) : PT X e t' := ⟨fun pins s σ H Q I q => h.run pins s σ H Q I (i σ H Q q)⟩
theorem PA.weak {X : Cx} {e : List Expr} {t t' : TA} (h : PA X e t) (i : ∀ σ H Q, t' σ H Q → t σ H Q) : PA X e t' := ⟨fun pos pins s σ H Q I q => h.run pos pins s σ H Q I (i σ H Q q)⟩
theorem PS.weak {X : Cx} {e : Stmt} {t t' : TS} (h : PS X e t) (i : ∀ E σ H, t' E σ H → t E σ H) : PS X e t' := ⟨fun pins s σ H E I q => h.run pins s σ H E I (i E σ H q)⟩
theorem PSs.weak {X : Cx} {e : List Stmt} {t t' : TS} (h : PSs X e t) (i : ∀ E σ H, t' E σ H → t E σ H) : PSs X e t' := ⟨fun pins s σ H E I q => h.run pins s σ H E I (i E σ H q)⟩
/-- what is wanted behind a statement -/
structure DEnds where
  nx : Env → Ow → Prop
  rt : DQ
  bk : Env → Ow → Prop := fun _ _ => False
  ct : Env → Ow → Prop := fun _ _ => False
abbrev DTS := DEnds → Env → Ow → Prop
/-- how the wanted ends meet the heap's, from the moment (O, H, F) on -/
structure Meet (B : Bd) (O : Ow) (H F : Hp) (d : DEnds) (E : Ends) : Prop where
  nx : ∀ env' O' σ' H' F', After B.K O H F O' H' F' → Sl B.K env' σ' F' → d.nx env' O' → E.nx σ' H'
  rt : ∀ x v O' H' F', After B.K O H F O' H' F' → RV B.K F' x v → d.rt x O' → E.rt v H'
  bk : ∀ env' O' σ' H' F', After B.K O H F O' H' F' → Sl B.K env' σ' F' → d.bk env' O' → E.bk σ' H'
  ct : ∀ env' O' σ' H' F', After B.K O H F O' H' F' → Sl B.K env' σ' F' → d.ct env' O' → E.ct σ' H'
theorem Meet.later {B : Bd} {O O' : Ow} {H F H' F' : Hp} {d : DEnds} {E : Ends} (m : Meet B O H F d E) (a : After B.K O H F O' H' F') : Meet B O' H' F' d E :=
  ⟨fun e o s h f b => m.nx e o s h f (a.trans b), fun x v o h f b => m.rt x v o h f (a.trans b), fun e o s h f b => m.bk e o s h f (a.trans b), fun e o s h f b => m.ct e o s h f (a.trans b)⟩
def liftS (B : Bd) (t : DTS) : TS := fun E σ H => ∃ env O F d, Rel B env O σ H F ∧ t d env O ∧ Meet B O H F d E
section
variable {X : Cx} {B : Bd} {pos : Pos}
def dVar (i : Nat) : DTE := fun env O q => ∃ d, env[i]? = some (some d) ∧ q d O
def dC (d : D) : DTE := fun _ O q => q d O
theorem de_var {e : Expr} {i : Nat} (h : PE X e (tVar i)) : PE X e (lift B (dVar i)) := by
  refine PE.weak h fun σ H Q hq => ?_
  obtain ⟨env, O, F, q, R, ⟨d, e, hq⟩, k⟩ := hq
  obtain ⟨v, e1, r⟩ := R.sl.2 i d e
  exact ⟨v, e1, k d v O H F (.refl R) r hq⟩
theorem de_con {e : Expr} {v : V} {d : D} (h : PE X e (tC v)) (r : ∀ F, RV B.K F d v) : PE X e (lift B (dC d)) := by
  refine PE.weak h fun σ H Q hq => ?_
  obtain ⟨env, O, F, q, R, hq, k⟩ := hq
  exact k d v O H F (.refl R) (r F) hq
theorem de_int {i j p} : PE X (.Constant (.int i) j p) (lift B (dC (.int i))) := de_con pe_int fun _ => .int i
theorem de_str {i j p} : PE X (.Constant (.str i) j p) (lift B (dC (.str i))) := de_con pe_str fun _ => .str i
theorem de_bl {i j p} : PE X (.Constant (.bool i) j p) (lift B (dC (.bl i))) := de_con pe_bl fun _ => .bl i
theorem de_non {j p} : PE X (.Constant .none j p) (lift B (dC .non)) := de_con pe_non fun _ => .non
abbrev DR2 := D → D → Ow → DQ → Prop
def dOp (r : DR2) (ta tb : DTE) : DTE := fun env O q => ta env O fun x O1 => tb env O1 fun y O2 => r x y O2 q
/-- the reading r of values is met by the reading dr of data -/
def Sim2 (B : Bd) (r : R2) (dr : DR2) : Prop := ∀ (env : Env) (O : Ow) (σ : St) (H F : Hp) (x y : V) (dx dy : D) (q : DQ) (Q : VK), Rel B env O σ H F → RV B.K F dx x → RV B.K F dy y → dr dx dy O q →
  (∀ d v O' H' F', After B.K O H F O' H' F' → RV B.K F' d v → q d O' → Q v H') → r x y H Q
theorem lift_op {r : R2} {dr : DR2} {ta tb : DTE} (s : Sim2 B r dr) (σ : St) (H : Hp) (Q : VK) (h : lift B (dOp dr ta tb) σ H Q) : tOp r (lift B ta) (lift B tb) σ H Q := by
  obtain ⟨env, O, F, q, R, h, k⟩ := h
  refine ⟨env, O, F, _, R, h, fun dx x O1 H1 F1 a1 r1 h1 => ?_⟩
  have R1 := R.call a1
  refine ⟨env, O1, F1, _, R1, h1, fun dy y O2 H2 F2 a2 r2 h2 => ?_⟩
  exact s env O2 σ H2 F2 x y dx dy q Q (R1.call a2) (r1.mono a2.ff) r2 h2 fun d v O' H' F' a' r' => k d v O' H' F' (a1.trans (a2.trans a')) r'
theorem de_op {op : Operator} {r : R2} {dr : DR2} {a b : Expr} {ta tb : DTE} (ho : OpR X (binaryOp op) r) (s : Sim2 B r dr) (ha : PE X a (lift B ta)) (hb : PE X b (lift B tb)) : PE X (.BinOp a op b pos) (lift B (dOp dr ta tb)) :=
  PE.weak (pe_op ho ha hb) (lift_op s)
theorem de_cmp {op : CmpOp} {r : R2} {dr : DR2} {a b : Expr} {ta tb : DTE} (ho : OpR X (compareOp op) r) (s : Sim2 B r dr) (ha : PE X a (lift B ta)) (hb : PE X b (lift B tb)) (hm : behindInMarks op b = false) : PE X (.Compare a [op] [b] pos) (lift B (dOp dr ta tb)) :=
  PE.weak (pe_cmpR ho ha hb hm) (lift_op s)
def dTest (t : DTE) : DTT := fun env O q => t env O fun x O' => match x with | .bl k => q k O' | _ => False
theorem lift_test {t : DTE} (σ : St) (H : Hp) (Q : Bool → Hp → Prop) (h : liftT B (dTest t) σ H Q) : tTest (lift B t) σ H Q := by
  obtain ⟨env, O, F, q, R, h, k⟩ := h
  refine ⟨env, O, F, _, R, h, fun d v O1 H1 F1 a1 r1 h1 => ?_⟩
  cases d <;> try exact h1.elim
  cases r1
  exact ⟨_, rfl, k _ O1 H1 F1 a1 h1⟩
theorem tTest_mono {t t' : TE} (i : ∀ σ H Q, t' σ H Q → t σ H Q) (σ : St) (H : Hp) (Q : Bool → Hp → Prop) (h : tTest t' σ H Q) : tTest t σ H Q := i σ H _ h
theorem dt_cmp {op : CmpOp} {r : R2} {dr : DR2} {a b : Expr} {ta tb : DTE} (ho : OpR X (compareOp op) r) (s : Sim2 B r dr) (ha : PE X a (lift B ta)) (hb : PE X b (lift B tb)) (hm : behindInMarks op b = false) : PT X (.Compare a [op] [b] pos) (liftT B (dTest (dOp dr ta tb))) :=
  PT.weak (pt_cmpR ho ha hb hm) fun σ H Q h => tTest_mono (lift_op s) σ H Q (lift_test σ H Q h)
/-- ints -/
def dI2 (C : Int → Int → Prop) (g : Int → Int → D) : DR2 := fun x y O q => match x, y with
  | .int i, .int j => C i j ∧ q (g i j) O
  | _, _ => False
theorem sim_I {C : Int → Int → Prop} {g : Int → Int → V} {g' : Int → Int → D} (hg : ∀ F i j, RV B.K F (g' i j) (g i j)) : Sim2 B (rI C g) (dI2 C g') := by
  intro env O σ H F x y dx dy q Q R rx ry h k
  cases dx <;> cases dy <;> try exact h.elim
  rename_i i j
  cases rx; cases ry
  exact ⟨i, j, rfl, rfl, h.1, k _ _ O H F (.refl R) (hg F i j) h.2⟩
theorem sim_I0 {g : Int → Int → V} {g' : Int → Int → D} (hg : ∀ F i j, RV B.K F (g' i j) (g i j)) : Sim2 B (rI0 g) (dI2 (fun _ _ => True) g') := by
  intro env O σ H F x y dx dy q Q R rx ry h k
  cases dx <;> cases dy <;> try exact h.elim
  rename_i i j
  cases rx; cases ry
  exact ⟨i, j, rfl, rfl, k _ _ O H F (.refl R) (hg F i j) h.2⟩
end
end DL
set_option Elab.async false
set_option linter.all false
set_option maxRecDepth 100000
set_option maxHeartbeats 4000000
namespace DL
open PySem PySem.Spec PyProof.Rows L2
structure FnG (P : Program) (w : World) (K : Frag) (mg : Str → Option Value) (base : Heap) (CX : CXT) (k : Nat) (f : Addr) (fd : FuncData) (ps : List Str) (sp : Sp) : Prop where
  len : ∀ vs H Q E, sp vs H Q E → vs.length = ps.length
  run : ∀ (A : Around) (outer : List PySem.Env) (s : Shared) (H : Hp) (args : Args) (us : List Value) (vs : List V) (Q : VK) (E : XK), A.guards = some [] → Room k A →
    Env0 P w K mg base A outer s H → BindsTo s fd args (ps.zip us) → Vals vs us → sp vs H Q E → codeAny (model P w) A (.call (.ref f) args) (CR CX outer P w H s Q E) s
section
variable {P : Program} {w : World} {K : Frag} {mg : Str → Option Value} {base : Heap} {CX : CXT} {f : Addr} {fd : FuncData} {ps : List Str} {sp : Sp}
theorem FnG.mono {j k : Nat} (F : FnG P w K mg base CX j f fd ps sp) (h : j ≤ k) : FnG P w K mg base CX k f fd ps sp :=
  ⟨F.len, fun A o s H ar us vs Q E g r => F.run A o s H ar us vs Q E g (r.mono h)⟩
/-- by its body -/
theorem FnG.body {k : Nat} {name qual : Str} {params : Arguments} {body : List Stmt} {scope : Scope} {dV kV doc pm cdv ct oc : Value} {an od : Option Addr} {osl : Array (Option Value)} {N : List Str}
    (lk : K.lookup f = some ⟨oc, od, .func (PySem.W.fnOf name qual params body scope dV kV doc pm an cdv ct), osl⟩) (hcd : PySem.W.codeIn K cdv qual = true) (S : FnScope N ps scope)
    (len : ∀ vs H Q E, sp vs H Q E → vs.length = ps.length)
    (hb : ∀ (A : Around) (outer : List PySem.Env) (s : Shared) (H : Hp) (vs : List V) (Q : VK) (E : XK), (A.deeper (envOfC qual scope s.heap.objs.size f cdv)).guards = some [] → Room k (A.deeper (envOfC qual scope s.heap.objs.size f cdv)) → sp vs H Q E →
      ∃ t, PSs (cxOf CX P w K mg base N qual scope f cdv A outer s H E) body t ∧ t { nx := fun _ H' => Q .non H', rt := Q } (start N vs) H) :
    FnG P w K mg base CX (k + 1) f (PySem.W.fnOf name qual params body scope dV kV doc pm an cdv ct) ps sp := by
  refine ⟨len, fun A outer s H args us vs Q E hgd room e0 bnd vals hsp => ?_⟩
  have hK : K.In s.heap := e0.mod.kin.keeps fun b o z => (e0.bs b o z).1
  have hkind : ∀ y ∈ ps.zip us, scope.names.lookup y.1 = some .local ∨ (scope.names.lookup y.1 = some .cell ∧ ((cellsFrom (s.heap.objs.size + 1) scope.names []).lookup y.1).isSome = true) := by
    rintro ⟨nm, v⟩ hy
    have := S.par nm (List.of_mem_zip hy).1
    exact this.imp id fun q => ⟨q, PySem.W.cellsFrom_some _ _ _ (.inl q)⟩
  have hlim : s.heap.NoLimit := e0.mod.nolimit.keeps fun b o z => (e0.bs b o z).1
  refine codeAny_call_function room.depth (hK _ _ lk) rfl S.co S.gen rfl (PySem.W.codeRec_of hK hcd) (bnd _ _ _ _ (wpAny_newFunctionEnv_cells S.kind hkind ?_))
  rintro env rfl s1 inn
  refine ⟨hlim.keeps inn.toInCall.keep, codeAny_func ?_⟩
  obtain ⟨t, ht, hq⟩ := hb A outer s H vs Q E hgd (room.deeper _) hsp
  have J := inv_start (CX := CX) (E := E) S room.hd e0 (len _ _ _ _ hsp) vals inn
  refine wpAny_mono (ht.run [] s1 _ H _ J hq) (fun fl s' z => ?_) fun _ _ z => z
  rcases fl with _ | _ | _ | u
  · obtain ⟨σ', H', J', q⟩ := z
    exact ⟨.non, H', J'.os, J'.bare, J'.base, J'.hok, rfl, q⟩
  · obtain ⟨_, _, _, q⟩ := z
    exact q.elim
  · obtain ⟨_, _, _, q⟩ := z
    exact q.elim
  · obtain ⟨v, σ', H', J', rv, q⟩ := z
    exact ⟨v, H', J'.os, J'.bare, J'.base, J'.hok, rv, q⟩
theorem FnG.ofFunD {x qual : Str} {params : Arguments} {body : List Stmt} {scope : Scope} {dvs : List V} {kws : List (Str × V)} {k : Nat} {N : List Str} (F : FunD K x qual params body scope dvs kws f fd) (S : FnScope N ps scope) (len : ∀ vs H Q E, sp vs H Q E → vs.length = ps.length)
    (hb : ∀ (cdv : Value) (A : Around) (outer : List PySem.Env) (s : Shared) (H : Hp) (vs : List V) (Q : VK) (E : XK), (A.deeper (envOfC qual scope s.heap.objs.size f cdv)).guards = some [] → Room k (A.deeper (envOfC qual scope s.heap.objs.size f cdv)) → sp vs H Q E →
      ∃ t, PSs (cxOf CX P w K mg base N qual scope f cdv A outer s H E) body t ∧ t { nx := fun _ H' => Q .non H', rt := Q } (start N vs) H) : FnG P w K mg base CX (k + 1) f fd ps sp := by
  obtain ⟨_, _, _, _, _, _, _, cdv, _, _, rfl, lk, hcd, _, _⟩ := F.ex
  exact FnG.body lk hcd S len (hb cdv)
end
/-- an exception over data: its class, its fields -/
abbrev DX := Value → List (Str × D) → Ow → Prop
/-- how it lies in the heap: d is its own dict -/
def XRel (K : Frag) (F' H' : Hp) (d : Option Addr) (fs : List (Str × D)) : Prop :=
  (d = none ∧ fs = []) ∨ ∃ (a : Addr) (gs : List (Str × V)), d = some a ∧ H' a = some (.xd gs) ∧ RKV K F' fs gs
abbrev DF := List D → Ow → DQ → DX → Prop
def spD (K : Frag) (n : Nat) (f : DF) : Sp := fun vs H Q E => ∃ F O ds q x, Same F H ∧ OwOk K O H F ∧ RVs K F ds vs ∧ ds.length = n ∧ f ds O q x ∧
  (∀ d v O' H' F', After K O H F O' H' F' → RV K F' d v → q d O' → Q v H') ∧
  (∀ c dx fs O' H' F', After K O H F O' H' F' → XRel K F' H' dx fs → x c fs O' → E c dx H')
theorem spD_len {K : Frag} {n : Nat} {f : DF} {ps : List Str} (h : ps.length = n) (vs : List V) (H : Hp) (Q : VK) (E : XK) (s : spD K n f vs H Q E) : vs.length = ps.length := by
  obtain ⟨F, O, ds, q, x, _, _, r, e, _⟩ := s
  rw [h, ← e, r.length]
def envOf (n : Nat) (ds : List D) : Env := ds.map some ++ List.replicate (n - ds.length) none
theorem rel_start {K : Frag} {O : Ow} {H F : Hp} {ds : List D} {vs : List V} {N : List Str} (s : Same F H) (ow : OwOk K O H F) (r : RVs K F ds vs) : Rel ⟨K, O, H, F⟩ (envOf N.length ds) O (L2.start N vs) H F := by
  refine ⟨.rfl' s ow, ⟨?_, fun i d e => ?_⟩⟩
  · unfold envOf L2.start
    simp only [List.length_append, List.length_map, List.length_replicate, r.length]
  · unfold envOf at e
    by_cases hi : i < ds.length
    · rw [List.getElem?_append_left (by simpa using hi), List.getElem?_map] at e
      cases q : ds[i]? with
      | none => rw [q] at e; cases e
      | some d' =>
        rw [q] at e
        cases e
        obtain ⟨v, h1, h2⟩ := r.get q
        refine ⟨v, ?_, h2⟩
        unfold L2.start
        rw [List.getElem?_append_left (by rw [List.length_map, ← r.length]; exact hi), List.getElem?_map, h1]; rfl
    · rw [List.getElem?_append_right (by simpa using hi), List.getElem?_replicate] at e
      split at e <;> cases e
end DL
set_option Elab.async false
set_option linter.all false
set_option maxRecDepth 100000
set_option maxHeartbeats 4000000
namespace DL
open PySem PySem.Spec PyProof.Rows L2
abbrev DW := Value → List (Str × D) → Env → Ow → Prop
def liftX (B : Bd) (w : DW) : WX := fun c d σ H => ∃ env O F fs, Rel B env O σ H F ∧ XRel B.K F H d fs ∧ w c fs env O
abbrev TakesD (X : Cx) (B : Bd) (w : DW) : Prop := Takes X (liftX B w)
abbrev w0 : DW := fun _ _ _ _ => False
theorem takesD0 {X : Cx} {B : Bd} : TakesD X B w0 := takes0.imp fun _ _ _ _ h => by
  obtain ⟨_, _, _, _, _, _, z⟩ := h
  exact z
section
variable {X : Cx} {B : Bd} {pos : Pos}
theorem run_G {pins : List (Addr × Obj)} {σ : St} {H : Hp} {s : Shared} {Q : VK} {us : List Value} {vs dvs : List V} {ds : List Value} {W : WX} {k : Nat} {f : Addr} {fd : FuncData} {ps : List Str} {sp : Sp}
    (F : FnG X.prog X.w X.K X.mg X.base (L2.CX X.prog X.w) k f fd ps sp) (hgd : X.A.guards = some []) (hr : Room k X.A) (hb : Binds X.K fd ps ds) (hd : Vals dvs ds) (tk : Takes X W)
    (I : Inv X pins σ H s) (r : Vals vs us) (h : sp (vs ++ dvs) H Q (fun c d H' => W c d σ H')) : wpAny (model X.prog X.w) X.A (call (.ref f) us) (EP X pins σ Q) X.xe s := by
  have rr := r.append hd
  have hl : (us ++ ds).length = ps.length := rr.length.symm.trans (F.len _ _ _ _ h)
  refine wpAny_call (codeAny_mono (F.run X.A X.stack s H ⟨us, []⟩ _ _ Q _ hgd hr I.env0 (hb s us I.kIn hl) rr h) fun r s' hq => ?_)
  match r, hq with
  | .error e, hq => exact tk _ s' (XE.of_call I (fun _ _ _ z => z) hq)
  | .ok (.ret u), hq => exact I.after hq
  | .ok .next, hq => exact False.elim hq
  | .ok .brk, hq => exact False.elim hq
  | .ok .cont, hq => exact False.elim hq
def dCall (fn : DF) (n : Nat) (w : DW) (dds : List D) (ta : DTA) : DTE := fun env O q => ta env O fun ds O1 => (ds ++ dds).length = n ∧ fn (ds ++ dds) O1 q fun c fs O' => w c fs env O'
/-- from the caller's state to the callee's promise -/
theorem sp_of {env : Env} {O : Ow} {σ : St} {H F : Hp} {ds : List D} {vs : List V} {n : Nat} {fn : DF} {w : DW} {q : DQ} {Q : VK} (R : Rel B env O σ H F) (r : RVs B.K F ds vs) (hl : ds.length = n)
    (h : fn ds O q fun c fs O' => w c fs env O') (k : ∀ d v O' H' F', After B.K O H F O' H' F' → RV B.K F' d v → q d O' → Q v H') : spD B.K n fn vs H Q (fun c d H' => liftX B w c d σ H') :=
  ⟨F, O, ds, q, _, R.fh, R.ow, r, hl, h, k, fun c dx fs O' H' F' a xr hx => ⟨env, O', F', fs, R.call a, xr, hx⟩⟩
section
variable {e : Expr} {es : List Expr} {x : Str} {p : Pos} {k n : Nat} {f : Addr} {fd : FuncData} {ps : List Str} {fn : DF} {w : DW} {ta tb : DTA} {dvs : List V} {dds : List D} {ds : List Value}
theorem de_call (F : FnG X.prog X.w X.K X.mg X.base (L2.CX X.prog X.w) k f fd ps (spD B.K n fn)) (hgd : X.A.guards = some []) (hr : Room k X.A) (hg : Gl X x) (hm : X.mg x = some (.ref f)) (hk : PySem.W.keepIn X.K (.ref f) = true)
    (hb : Binds X.K fd ps ds) (hd : Vals dvs ds) (hdd : ∀ F, RVs B.K F dds dvs) (tk : TakesD X B w) (ha : PA X (e :: es) (liftA B ta))
    (hdb : (x == ("__debug__" : Str)) = false := by decide) (he : starEach (e :: es) X.env = (false, eval e X.env) :: starEach es X.env := by rfl) (hpl : (backTo pos (starEach es X.env)).any (·.1) = false := by rfl) :
    PE X (.Call (.Name x p) (e :: es) [] pos) (lift B (dCall fn n w dds ta)) := by
  refine ⟨fun pins s σ H Q I h => wpAny_Call_Name_kw (ld_glob I hg hm ?_ hdb)⟩
  obtain ⟨env, O, F0, q, R, h, kk⟩ := h
  refine PySem.W.callWith_K (h₀ := X.base) I.ok.mod.kin hk (thn (ha.run pos pins s σ H (fun vs H1 => spD B.K n fn (vs ++ dvs) H1 Q (fun c d H' => liftX B w c d σ H')) I ⟨env, O, F0, _, R, h, ?_⟩) fun us s1 ⟨vs, H1, I1, rv, hz⟩ => ⟨I1.kIn, ?_⟩) he hpl
  · intro ds vs O1 H1 F1 a1 r1 q1
    exact sp_of (R.call a1) (r1.append (hdd F1)) q1.1 q1.2 fun d v O' H' F' a' r' hq => kk d v O' H' F' (a1.trans a') r' hq
  · exact run_G F hgd hr hb hd tk I1 rv hz
/-- with keywords: gD puts the data in the parameters' order -/
def dCallK (fn : DF) (n m l : Nat) (w : DW) (gD : List D → List D → List D) (ta tb : DTA) : DTE := fun env O q => ta env O fun ds O1 => tb env O1 fun es O2 => ds.length = m ∧ es.length = l ∧ (gD ds es).length = n ∧ fn (gD ds es) O2 q fun c fs O' => w c fs env O'
end
def dNil : DTA := fun _ O q => q [] O
def dCons (ta : DTE) (tr : DTA) : DTA := fun env O q => ta env O fun x O1 => tr env O1 fun xs O2 => q (x :: xs) O2
theorem lift_nil (σ : St) (H : Hp) (Q : List V → Hp → Prop) (h : liftA B dNil σ H Q) : tNil σ H Q := by
  obtain ⟨env, O, F, q, R, h, k⟩ := h
  exact k [] [] O H F (.refl R) .nil h
theorem lift_cons {ta : DTE} {tr : DTA} (σ : St) (H : Hp) (Q : List V → Hp → Prop) (h : liftA B (dCons ta tr) σ H Q) : tCons (lift B ta) (liftA B tr) σ H Q := by
  obtain ⟨env, O, F, q, R, h, k⟩ := h
  refine ⟨env, O, F, _, R, h, fun d v O1 H1 F1 a1 r1 h1 => ?_⟩
  refine ⟨env, O1, F1, _, R.call a1, h1, fun ds vs O2 H2 F2 a2 r2 h2 => ?_⟩
  exact k _ _ O2 H2 F2 (a1.trans a2) (.cons (r1.mono a2.ff) r2) h2
theorem da_nil : PA X [] (liftA B dNil) := PA.weak pa_nil lift_nil
theorem da_cons {e : Expr} {es : List Expr} {ta : DTE} {tr : DTA} (ha : PE X e (lift B ta)) (hr : PA X es (liftA B tr)) (hs : starEach (e :: es) X.env = (false, eval e X.env) :: starEach es X.env := by rfl) : PA X (e :: es) (liftA B (dCons ta tr)) :=
  PA.weak (pa_cons ha hr hs) lift_cons
theorem PK.weak {es : List Keyword} {t t' : TA} (h : PK X es t) (i : ∀ σ H Q, t' σ H Q → t σ H Q) : PK X es t' := ⟨fun pos pins s σ H Q I q => h.run pos pins s σ H Q I (i σ H Q q)⟩
theorem dk_nil : PK X [] (liftA B dNil) := PK.weak pk_nil lift_nil
theorem dk_cons {e : Expr} {kws : List Keyword} {nm : Option Str} {kpos : Pos} {ta : DTE} {tr : DTA} (ha : PE X e (lift B ta)) (hr : PK X kws (liftA B tr)) : PK X (⟨nm, e, kpos⟩ :: kws) (liftA B (dCons ta tr)) :=
  PK.weak (pk_cons ha hr) lift_cons
def dTup (t : DTA) : DTE := fun env O q => t env O fun ds O1 => ds.length ≤ sizeLine ∧ q (.tup ds) O1
def dLst (t : DTA) : DTE := fun env O q => t env O fun ds O1 => ds.length ≤ sizeLine ∧ q (.lst ds) O1
/-- a list of one's own -/
def dLstO (t : DTA) : DTE := fun env O q => t env O fun ds O1 => ds.length ≤ sizeLine ∧ ∀ p, O1 p = none → q (.ref p) (setO O1 p (.lst ds))
/-- a new tuple at p, as it stands -/
theorem Inv.newT {pins : List (Addr × Obj)} {σ : St} {H : Hp} {s : Shared} {xs : List V} {us : List Value} {t' c : Nat} (I : Inv X pins σ H s) (r : Vals xs us) (z : xs.length ≤ sizeLine) :
    Inv X pins σ (upd H s.heap.objs.size (.frz { cls := .type "tuple", data := .seq us.toArray c } (.tup xs))) { s with heap := s.heap.push { cls := .type "tuple", data := .seq us.toArray c }, toks := t' } :=
  I.laid (fun b u e => Heap.get?_push_of_some _ e) (Nat.le_refl _) ⟨Heap.get?_push_size _ rfl, z, us, r, ⟨_, Heap.get?_push_size _ rfl, rfl, _, rfl⟩⟩
/-- what is promised of a tuple that is made -/
abbrev NewT (xs : List V) (H : Hp) (Q : VK) : Prop := ∀ (p : Addr) (o : Obj), H p = none → o.dict = none → Q (.ref p) (upd H p (.frz o (.tup xs)))
theorem Inv.newT_ep {pins : List (Addr × Obj)} {σ : St} {H : Hp} {s : Shared} {xs : List V} {us : List Value} {t' c : Nat} {Q : VK} (I : Inv X pins σ H s) (r : Vals xs us) (z : xs.length ≤ sizeLine) (q : NewT xs H Q) :
    EP X pins σ Q (.ref s.heap.objs.size) { s with heap := s.heap.push { cls := .type "tuple", data := .seq us.toArray c }, toks := t' } :=
  ⟨.ref s.heap.objs.size, _, Inv.newT I r z, rfl, q _ _ (I.hok.fresh (Nat.le_refl _)) rfl⟩
theorem new_tup {env : Env} {O : Ow} {σ : St} {H F : Hp} {q : DQ} {Q : VK} {ds : List D} {vs : List V} (R : Rel B env O σ H F) (r : RVs B.K F ds vs) (h : q (.tup ds) O)
    (k : ∀ d v O' H' F', After B.K O H F O' H' F' → RV B.K F' d v → q d O' → Q v H') : NewT vs H Q := fun p o hp hd =>
  have a := R.froz hp (.frz o (.tup vs))
  k _ _ O _ _ a (.tup (SqN.new hd) (r.mono a.ff)) h
theorem de_tup {es : List Expr} {x1} {t : DTA} (h : PA X es (liftA B t)) : PE X (.Tuple es x1 pos) (lift B (dTup t)) := by
  refine ⟨fun pins s σ H Q I hq => ?_⟩
  obtain ⟨env, O, F, q, R, hq, k⟩ := hq
  refine wpAny_Tuple_spliced (thn (h.run pos pins s σ H (fun xs H1 => xs.length ≤ sizeLine ∧ NewT xs H1 Q) I ⟨env, O, F, _, R, hq, fun ds vs O1 H1 F1 a1 r1 h1 => ⟨r1.length ▸ h1.1, new_tup (R.call a1) r1 h1.2 fun d v O' H' F' a => k d v O' H' F' (a1.trans a)⟩⟩) fun us s1 ⟨xs, H1, I1, r, z, q⟩ => ⟨by rw [← r.length]; exact z, ?_⟩)
  exact Inv.newT_ep I1 r z q
theorem de_lst {es : List Expr} {t : DTA} (h : PA X es (liftA B t)) : PE X (.List es pos) (lift B (dLst t)) := by
  refine PE.weak (pe_lst h) fun σ H Q h => ?_
  obtain ⟨env, O, F, q, R, h, k⟩ := h
  refine ⟨env, O, F, _, R, h, fun ds vs O1 H1 F1 a1 r1 h1 => ⟨r1.length ▸ h1.1, fun p hp => ?_⟩⟩
  have a2 := (R.call a1).froz hp (.lst vs)
  exact k _ _ O1 _ _ (a1.trans a2) (.lst (SqL.of upd_same) (r1.mono a2.ff)) h1.2
theorem de_lstO {es : List Expr} {t : DTA} (h : PA X es (liftA B t)) : PE X (.List es pos) (lift B (dLstO t)) := by
  refine PE.weak (pe_lst h) fun σ H Q h => ?_
  obtain ⟨env, O, F, q, R, h, k⟩ := h
  refine ⟨env, O, F, _, R, h, fun ds vs O1 H1 F1 a1 r1 h1 => ⟨r1.length ▸ h1.1, fun p hp => ?_⟩⟩
  have R1 := R.call a1
  exact k _ _ _ _ F1 (a1.trans (R1.own hp (u := .lst ds) ⟨vs, rfl, r1⟩)) (.ref p) (h1.2 p (R1.free hp).1)
def dAnd (t u : DTT) : DTT := fun env O q => t env O fun c O1 => if c = true then u env O1 q else q false O1
def dOr (t u : DTT) : DTT := fun env O q => t env O fun c O1 => if c = true then q true O1 else u env O1 q
def dNot (t : DTT) : DTT := fun env O q => t env O fun c O1 => q (!c) O1
theorem lift_and {t u : DTT} (σ : St) (H : Hp) (Q : Bool → Hp → Prop) (h : liftT B (dAnd t u) σ H Q) : tAnd (liftT B t) (liftT B u) σ H Q := by
  obtain ⟨env, O, F, q, R, h, k⟩ := h
  refine ⟨env, O, F, _, R, h, fun b O1 H1 F1 a1 h1 => ?_⟩
  cases b with
  | true =>
    rw [if_pos rfl] at h1 ⊢
    exact ⟨env, O1, F1, q, R.call a1, h1, fun b O2 H2 F2 a2 => k b O2 H2 F2 (a1.trans a2)⟩
  | false =>
    rw [if_neg (by decide)] at h1 ⊢
    exact k false O1 H1 F1 a1 h1
theorem lift_or {t u : DTT} (σ : St) (H : Hp) (Q : Bool → Hp → Prop) (h : liftT B (dOr t u) σ H Q) : tOr (liftT B t) (liftT B u) σ H Q := by
  obtain ⟨env, O, F, q, R, h, k⟩ := h
  refine ⟨env, O, F, _, R, h, fun b O1 H1 F1 a1 h1 => ?_⟩
  cases b with
  | true =>
    rw [if_pos rfl] at h1 ⊢
    exact k true O1 H1 F1 a1 h1
  | false =>
    rw [if_neg (by decide)] at h1 ⊢
    exact ⟨env, O1, F1, q, R.call a1, h1, fun b O2 H2 F2 a2 => k b O2 H2 F2 (a1.trans a2)⟩
theorem dt_not {a : Expr} {t : DTT} (h : PT X a (liftT B t)) : PT X (.UnaryOp .Not a pos) (liftT B (dNot t)) := PT.weak (pt_not h) fun σ H Q h => by
  obtain ⟨env, O, F, q, R, h, k⟩ := h
  exact ⟨env, O, F, _, R, h, fun b O1 H1 F1 a1 h1 => k _ O1 H1 F1 a1 h1⟩
theorem PW.weak {e : Expr} {t t' : TT} (h : PW X e t) (i : ∀ σ H Q, t' σ H Q → t σ H Q) : PW X e t' := ⟨fun wh pins s σ H Q I q => h.run wh pins s σ H Q I (i σ H Q q)⟩
theorem dw_and1 {a : Expr} {t : DTT} (h : PT X a (liftT B t)) : PW X (.BoolOp .And [a] pos) (liftT B t) := pw_and1 h
theorem dw_or1 {a : Expr} {t : DTT} (h : PT X a (liftT B t)) : PW X (.BoolOp .Or [a] pos) (liftT B t) := pw_or1 h
theorem dw_and {a b : Expr} {rest : List Expr} {t u : DTT} (h : PT X a (liftT B t)) (h2 : PW X (.BoolOp .And (b :: rest) pos) (liftT B u)) : PW X (.BoolOp .And (a :: b :: rest) pos) (liftT B (dAnd t u)) := PW.weak (pw_and h h2) lift_and
theorem dw_or {a b : Expr} {rest : List Expr} {t u : DTT} (h : PT X a (liftT B t)) (h2 : PW X (.BoolOp .Or (b :: rest) pos) (liftT B u)) : PW X (.BoolOp .Or (a :: b :: rest) pos) (liftT B (dOr t u)) := PW.weak (pw_or h h2) lift_or
/-- as values: all but the last are bools -/
def dAndV (ta tb : DTE) : DTE := fun env O q => ta env O fun x O1 => match x with | .bl true => tb env O1 q | .bl false => q (.bl false) O1 | _ => False
def dOrV (ta tb : DTE) : DTE := fun env O q => ta env O fun x O1 => match x with | .bl false => tb env O1 q | .bl true => q (.bl true) O1 | _ => False
def dNotV (ta : DTE) : DTE := fun env O q => ta env O fun x O1 => match x with | .bl b => q (.bl !b) O1 | _ => False
theorem de_one {op} {a : Expr} {t : DTE} (h : PE X a (lift B t)) : PE X (.BoolOp op [a] pos) (lift B t) := pe_one h
theorem de_and {a b : Expr} {rest : List Expr} {ta tb : DTE} (h : PE X a (lift B ta)) (h2 : PE X (.BoolOp .And (b :: rest) pos) (lift B tb)) : PE X (.BoolOp .And (a :: b :: rest) pos) (lift B (dAndV ta tb)) :=
  PE.weak (pe_and h h2) fun σ H Q h => by
    obtain ⟨env, O, F, q, R, h, k⟩ := h
    refine ⟨env, O, F, _, R, h, fun d v O1 H1 F1 a1 r1 h1 => ?_⟩
    cases d <;> try exact h1.elim
    rename_i b
    cases r1
    cases b with
    | true => exact ⟨true, rfl, by rw [if_pos rfl]; exact ⟨env, O1, F1, q, R.call a1, h1, fun b v O2 H2 F2 a2 => k b v O2 H2 F2 (a1.trans a2)⟩⟩
    | false => exact ⟨false, rfl, by rw [if_neg (by decide)]; exact k _ _ O1 H1 F1 a1 (.bl _) h1⟩
theorem de_not {a : Expr} {ta : DTE} (h : PE X a (lift B ta)) : PE X (.UnaryOp .Not a pos) (lift B (dNotV ta)) :=
  PE.weak (pe_not h) fun σ H Q h => by
    obtain ⟨env, O, F, q, R, h, k⟩ := h
    refine ⟨env, O, F, _, R, h, fun d v O1 H1 F1 a1 r1 h1 => ?_⟩
    cases d <;> try exact h1.elim
    cases r1
    exact ⟨_, rfl, k _ _ O1 H1 F1 a1 (.bl _) h1⟩
def dIfE (t : DTT) (ta tb : DTE) : DTE := fun env O q => t env O fun c O1 => if c = true then ta env O1 q else tb env O1 q
theorem de_if {c a b : Expr} {t : DTT} {ta tb : DTE} (hc : PT X c (liftT B t)) (ha : PE X a (lift B ta)) (hb : PE X b (lift B tb)) : PE X (.IfExp c a b pos) (lift B (dIfE t ta tb)) :=
  PE.weak (pe_ifExp hc ha hb) fun σ H Q h => by
    obtain ⟨env, O, F, q, R, h, k⟩ := h
    refine ⟨env, O, F, _, R, h, fun b O1 H1 F1 a1 h1 => ?_⟩
    cases b with
    | true =>
      rw [if_pos rfl] at h1 ⊢
      exact ⟨env, O1, F1, q, R.call a1, h1, fun d v O2 H2 F2 a2 => k d v O2 H2 F2 (a1.trans a2)⟩
    | false =>
      rw [if_neg (by decide)] at h1 ⊢
      exact ⟨env, O1, F1, q, R.call a1, h1, fun d v O2 H2 F2 a2 => k d v O2 H2 F2 (a1.trans a2)⟩
def dNext : DTS := fun E env O => E.nx env O
def dSeq (t u : DTS) : DTS := fun E env O => t { E with nx := u E } env O
theorem ds_nil : PSs X [] (liftS B dNext) := PSs.weak pss_nil fun E σ H h => by
  obtain ⟨env, O, F, d, R, h, m⟩ := h
  exact m.nx env O σ H F (.refl R) R.sl h
theorem ds_cons {st : Stmt} {rest : List Stmt} {t u : DTS} (h1 : PS X st (liftS B t)) (h2 : PSs X rest (liftS B u)) : PSs X (st :: rest) (liftS B (dSeq t u)) := PSs.weak (pss_cons h1 h2) fun E σ H h => by
  obtain ⟨env, O, F, d, R, h, m⟩ := h
  exact ⟨env, O, F, { d with nx := u d }, R, h, ⟨fun env' O' σ' H' F' a sl hu => ⟨env', O', F', d, R.on a sl, hu, m.later a⟩, m.rt, m.bk, m.ct⟩⟩
theorem ds_one {st : Stmt} {t : DTS} (h1 : PS X st (liftS B t)) : PSs X [st] (liftS B t) := pss_one h1
def dBreak : DTS := fun E env O => E.bk env O
def dCont : DTS := fun E env O => E.ct env O
def dExpr (te : DTE) : DTS := fun E env O => te env O fun _ O1 => E.nx env O1
theorem ds_expr {e : Expr} {te : DTE} (he : PE X e (lift B te)) (hs : swapsWith e none pos.line X.env = pure false := by rfl) : PS X (.Expr e pos) (liftS B (dExpr te)) := PS.weak (ps_expr he hs) fun E σ H h => by
  obtain ⟨env, O, F, d, R, h, m⟩ := h
  exact ⟨env, O, F, _, R, h, fun x v O1 H1 F1 a1 r1 h1 => m.nx env O1 σ H1 F1 a1 (R.sl.mono a1.ff) h1⟩
def dRet (te : DTE) : DTS := fun E env O => te env O E.rt
theorem ds_ret {e : Expr} {te : DTE} (he : PE X e (lift B te)) : PS X (.Return (some e) pos) (liftS B (dRet te)) := PS.weak (ps_ret he) fun E σ H h => by
  obtain ⟨env, O, F, d, R, h, m⟩ := h
  exact ⟨env, O, F, _, R, h, m.rt⟩
def dRetN : DTS := fun E _ O => E.rt .non O
def dIf (c : DTT) (t u : DTS) : DTS := fun E env O => c env O fun b O1 => if b = true then t E env O1 else u E env O1
theorem ds_if {c : Expr} {a b : List Stmt} {tc : DTT} {t u : DTS} (hc : PT X c (liftT B tc)) (ha : PSs X a (liftS B t)) (hb : PSs X b (liftS B u)) : PS X (.If c a b pos) (liftS B (dIf tc t u)) := PS.weak (ps_if hc ha hb) fun E σ H h => by
  obtain ⟨env, O, F, d, R, h, m⟩ := h
  refine ⟨env, O, F, _, R, h, fun b O1 H1 F1 a1 h1 => ?_⟩
  cases b with
  | true =>
    rw [if_pos rfl] at h1 ⊢
    exact ⟨env, O1, F1, d, R.call a1, h1, m.later a1⟩
  | false =>
    rw [if_neg (by decide)] at h1 ⊢
    exact ⟨env, O1, F1, d, R.call a1, h1, m.later a1⟩
theorem ds_never {st : Stmt} : PS X st (liftS B fun _ _ _ => False) := PS.weak ps_never fun E σ H h => by
  obtain ⟨env, O, F, d, R, h, _⟩ := h
  exact h
abbrev DTG := D → Env → Ow → (Env → Ow → Prop) → Prop
def liftG (B : Bd) (t : DTG) : TG := fun v σ H Q => ∃ d env O F q, Rel B env O σ H F ∧ RV B.K F d v ∧ t d env O q ∧ ∀ env' O' σ' H' F', After B.K O H F O' H' F' → Sl B.K env' σ' F' → q env' O' → Q σ' H'
def dgName (i : Nat) : DTG := fun d env O q => q (env.set i (some d)) O
theorem PG.weak {tg : Expr} {t t' : TG} (h : PG X tg t) (i : ∀ v σ H Q, t' v σ H Q → t v σ H Q) : PG X tg t' := ⟨fun pins s σ H v u Q I r q => h.run pins s σ H v u Q I r (i v σ H Q q)⟩
theorem dg_name {tg : Expr} {i : Nat} (h : PG X tg (gName i)) : PG X tg (liftG B (dgName i)) := PG.weak h fun v σ H Q h => by
  obtain ⟨d, env, O, F, q, R, r, h, k⟩ := h
  exact k _ O _ H F (.refl R) (R.sl.setv r) h
def dAsg (te : DTE) (g : DTG) : DTS := fun E env O => te env O fun d O1 => g d env O1 E.nx
theorem lift_asg {te : DTE} {g : DTG} (E : Ends) (σ : St) (H : Hp) (h : liftS B (dAsg te g) E σ H) : tAsg (lift B te) (liftG B g) E σ H := by
  obtain ⟨env, O, F, d, R, h, m⟩ := h
  exact ⟨env, O, F, _, R, h, fun x v O1 H1 F1 a1 r1 h1 => ⟨x, env, O1, F1, _, R.call a1, r1, h1, fun e o σ' h f a2 => m.nx e o σ' h f (a1.trans a2)⟩⟩
theorem ds_set {st : Stmt} {te : DTE} {i : Nat} (h : PS X st (tAsg (lift B te) (gName i))) : PS X st (liftS B (dAsg te (dgName i))) := PS.weak h fun E σ H h => by
  obtain ⟨env, O, F, d, R, h, m⟩ := h
  exact ⟨env, O, F, _, R, h, fun x v O1 H1 F1 a1 r1 h1 => m.nx _ O1 _ H1 F1 a1 ((R.sl.mono a1.ff).setv r1) h1⟩
theorem ds_asg {st : Stmt} {te : DTE} {g : DTG} (h : PS X st (tAsg (lift B te) (liftG B g))) : PS X st (liftS B (dAsg te g)) := PS.weak h lift_asg
/-- a, b = x, y -/
def dPar (i j : Nat) (ta : DTA) : DTS := fun E env O => ta env O fun ds O1 => match ds with | [d, e] => E.nx ((env.set i (some d)).set j (some e)) O1 | _ => False
theorem ds_par {st : Stmt} {i j : Nat} {ta : DTA} (h : PS X st (tPar i j (liftA B ta))) : PS X st (liftS B (dPar i j ta)) := PS.weak h fun E σ H h => by
  obtain ⟨env, O, F, d, R, h, m⟩ := h
  refine ⟨env, O, F, _, R, h, fun ds vs O1 H1 F1 a1 r1 h1 => ?_⟩
  match ds, r1, h1 with
  | [a, b], r1, h1 =>
    obtain ⟨v, w, rfl, r1, r2⟩ := r1.two
    exact ⟨v, w, rfl, m.nx _ O1 _ H1 F1 a1 (((R.sl.mono a1.ff).setv r1).setv r2) h1⟩
/-- several targets -/
abbrev DTGs := List D → Env → Ow → (Env → Ow → Prop) → Prop
def liftGs (B : Bd) (t : DTGs) : TGs := fun vs σ H Q => ∃ ds env O F q, Rel B env O σ H F ∧ RVs B.K F ds vs ∧ t ds env O q ∧ ∀ env' O' σ' H' F', After B.K O H F O' H' F' → Sl B.K env' σ' F' → q env' O' → Q σ' H'
def dgNil : DTGs := fun ds env O q => ds = [] ∧ q env O
def dgCons (t : DTG) (u : DTGs) : DTGs := fun ds env O q => match ds with | d :: r => t d env O fun env' O' => u r env' O' q | [] => False
theorem PGs.weak {tg : List Expr} {t t' : TGs} (h : PGs X tg t) (i : ∀ v σ H Q, t' v σ H Q → t v σ H Q) : PGs X tg t' := ⟨fun pins s σ H v u Q I r q => h.run pins s σ H v u Q I r (i v σ H Q q)⟩
theorem dgs_nil : PGs X [] (liftGs B dgNil) := PGs.weak pgs_nil fun vs σ H Q h => by
  obtain ⟨ds, env, O, F, q, R, r, h, k⟩ := h
  obtain ⟨rfl, h⟩ := h
  cases r
  exact ⟨rfl, k env O σ H F (.refl R) R.sl h⟩
theorem dgs_cons {e : Expr} {es : List Expr} {t : DTG} {u : DTGs} (h1 : PG X e (liftG B t)) (h2 : PGs X es (liftGs B u)) (hs : (assignEach (e :: es) X.env).map (·.2) = assign e X.env :: (assignEach es X.env).map (·.2) := by rfl) :
    PGs X (e :: es) (liftGs B (dgCons t u)) := PGs.weak (pgs_cons h1 h2 hs) fun vs σ H Q h => by
  obtain ⟨ds, env, O, F, q, R, r, h, k⟩ := h
  cases r with
  | nil => exact h.elim
  | cons r rs =>
    refine ⟨_, _, rfl, _, env, O, F, _, R, r, h, fun env' O' σ' H' F' a1 s1 h1 => ?_⟩
    exact ⟨_, env', O', F', q, R.on a1 s1, rs.mono a1.ff, h1, fun e o σ' h f a2 => k e o σ' h f (a1.trans a2)⟩
def dgTup (n : Nat) (t : DTGs) : DTG := fun d env O q => match d with | .tup ds => ds.length = n ∧ t ds env O q | _ => False
theorem dg_tup {es : List Expr} {k : Nat} {t : DTGs} {n : Nat} (hK : X.K = B.K) (hc : X.calm = true) (h : PGs X es (liftGs B t)) (hn : (assignEach es X.env).length = n := by rfl) (hst : (assignEach es X.env).findIdx? (·.1) = none := by rfl) :
    PG X (.Tuple es k pos) (liftG B (dgTup n t)) := PG.weak (pg_tup hc h hn hst) fun v σ H Q h => by
  obtain ⟨d, env, O, F, q, R, r, h, kk⟩ := h
  cases d <;> try exact h.elim
  cases r with
  | tup hs hr =>
    refine ⟨_, _, rfl, by rw [hK]; exact same_tup R.fh hs, hr.length ▸ h.1, ?_⟩
    exact ⟨_, env, O, F, q, R, hr, h.2, kk⟩
end
end DL
set_option Elab.async false
set_option linter.all false
set_option maxRecDepth 100000
set_option maxHeartbeats 4000000
namespace DL
open PySem PySem.Spec PyProof.Rows L2
abbrev DTI := Env → Ow → (List D → (Ow → Prop) → Ow → Prop) → Prop
/-- the iterator J yields xs, while what Gd says of the ghost heap holds -/
def ItD (B : Bd) (J : It) (xs : List D) (Gd : Ow → Prop) (F1 : Hp) : Prop := ∀ (O : Ow) (H F : Hp) (i : Nat), Same F1 F → Same F H → OwOk B.K O H F → Gd O →
  (∀ x, xs[i]? = some x → J.go i H ∧ ∀ v H2, J.yld i H v H2 → ∃ F2, After B.K O H F O H2 F2 ∧ RV B.K F2 x v) ∧ (i = xs.length → J.stop i H)
def liftI (B : Bd) (wi : DTI) : TI := fun σ H R => ∃ env O F q, Rel B env O σ H F ∧ wi env O q ∧
  ∀ xs Gd O' H' F' J, After B.K O H F O' H' F' → ItD B J xs Gd F' → q xs Gd O' → R J H'
theorem PI.weak {X : Cx} {tg e : Expr} {t t' : TI} (h : PI X tg e t) (i : ∀ σ H R, t' σ H R → t σ H R) : PI X tg e t' := ⟨fun pins s σ H R I q => h.run pins s σ H R I (i σ H R q)⟩
/-- the items of a list: data, or one's own -/
def asL (O : Ow) : D → Option (List D)
  | .lst ds => some ds
  | .ref p => match O p with | some (.lst ds) => some ds | _ => none
  | _ => none
theorem asL_sq {K : Frag} {O : Ow} {H F : Hp} (fh : Same F H) (ow : OwOk K O H F) {d : D} {v : V} {ds : List D} (r : RV K F d v) (h : asL O d = some ds) : ∃ a xs, v = .ref a ∧ SqL K H a xs ∧ RVs K F ds xs := by
  cases d <;> simp only [asL] at h <;> try (cases h; done)
  · rename_i p
    cases r
    split at h
    · rename_i e
      cases h
      obtain ⟨_, ho, e1, vs, rfl, r⟩ := ow _ _ e
      exact ⟨_, vs, rfl, SqL.of e1, r⟩
    · cases h
  · cases h
    cases r with
    | lst hs hr => exact ⟨_, _, rfl, fh.seq hs, hr⟩
/-- an own list, as long as it stands so -/
def gdL (O0 : Ow) : D → Ow → Prop
  | .ref p => fun O => O p = O0 p
  | _ => fun _ => True
theorem asL_gd {O1 O2 : Ow} {d : D} {ds : List D} (e : asL O1 d = some ds) (g : gdL O1 d O2) : asL O2 d = some ds := by
  cases d <;> simp only [asL] at e ⊢ <;> try exact e
  rename_i p
  have g' : O2 p = O1 p := g
  rw [g']; exact e
section
variable {X : Cx} {B : Bd} {pos : Pos} {tg : Expr}
/-- lo, lo + 1, .. below hi -/
def rgD (lo hi : Int) : List D := (List.range (hi - lo).toNat).map fun (k : Nat) => .int (lo + (k : Int))
def InRg (i : Int) : Prop := -(2 ^ 62) ≤ i ∧ i < 2 ^ 62
theorem it_range {lo hi : Int} {F1 : Hp} : ItD B (Itr lo (hi - lo).toNat) (rgD lo hi) (fun _ => True) F1 := by
  intro O2 H2 F2 i s2 fh2 ow2 _
  unfold rgD
  refine ⟨fun x hx => ?_, fun hi => ?_⟩
  · rw [List.getElem?_map] at hx
    cases e : (List.range (hi - lo).toNat)[i]? with
    | none => rw [e] at hx; cases hx
    | some j =>
      rw [e] at hx
      cases hx
      obtain ⟨hl, e2⟩ := List.getElem?_eq_some_iff.mp e
      rw [List.getElem_range] at e2
      subst e2
      rw [List.length_range] at hl
      refine ⟨hl, fun v H3 hy => ?_⟩
      obtain ⟨rfl, rfl⟩ := hy
      exact ⟨F2, .rfl' fh2 ow2, .int _⟩
  · rw [List.length_map, List.length_range] at hi
    exact Nat.le_of_eq hi.symm
def diRg1 (ta : DTA) : DTI := fun env O q => ta env O fun ds O1 => match ds with | [.int j] => InRg j ∧ q (rgD 0 j) (fun _ => True) O1 | _ => False
theorem di_range1 {a : Expr} {ta : DTA} {p : Pos} (hg : Gl X "range") (hm : X.mg "range" = none) (ha : PA X [a] (liftA B ta)) (hs : starEach [a] X.env = [(false, eval a X.env)] := by rfl) : PI X tg (.Call (.Name "range" p) [a] [] pos) (liftI B (diRg1 ta)) :=
  PI.weak (pi_range1 hg hm ha hs) fun σ H R hh => by
    obtain ⟨env, O, F, q, R0, hh, k⟩ := hh
    refine ⟨env, O, F, _, R0, hh, fun ds vs O1 H1 F1 a1 r1 h1 => ?_⟩
    match ds, r1, h1 with
    | [.int j], r1, h1 =>
      obtain ⟨v, rfl, r⟩ := r1.one
      cases r
      obtain ⟨⟨b1, b2⟩, h1⟩ := h1
      have := k (rgD 0 j) _ O1 H1 F1 (Itr 0 (j - 0).toNat) a1 it_range h1
      rw [Int.sub_zero] at this
      exact ⟨j, rfl, b1, b2, this⟩
def diRg2 (ta : DTA) : DTI := fun env O q => ta env O fun ds O1 => match ds with | [.int i, .int j] => InRg i ∧ InRg j ∧ q (rgD i j) (fun _ => True) O1 | _ => False
theorem di_range2 {a b : Expr} {ta : DTA} {p : Pos} (hg : Gl X "range") (hm : X.mg "range" = none) (ha : PA X [a, b] (liftA B ta)) (hs : starEach [a, b] X.env = [(false, eval a X.env), (false, eval b X.env)] := by rfl) (hs2 : starEach [b] X.env = [(false, eval b X.env)] := by rfl) :
    PI X tg (.Call (.Name "range" p) [a, b] [] pos) (liftI B (diRg2 ta)) :=
  PI.weak (pi_range2 hg hm ha hs hs2) fun σ H R hh => by
    obtain ⟨env, O, F, q, R0, hh, k⟩ := hh
    refine ⟨env, O, F, _, R0, hh, fun ds vs O1 H1 F1 a1 r1 h1 => ?_⟩
    match ds, r1, h1 with
    | [.int i, .int j], r1, h1 =>
      obtain ⟨v, w, rfl, r, r'⟩ := r1.two
      cases r
      cases r'
      obtain ⟨⟨b1, b2⟩, ⟨b3, b4⟩, h1⟩ := h1
      exact ⟨i, j, rfl, ⟨b1, b2, b3, b4⟩, k (rgD i j) _ O1 H1 F1 _ a1 it_range h1⟩
def forGo (g : DTG) (tb : DTS) (Gd : Ow → Prop) (E : DEnds) : List D → Env → Ow → Prop
  | [], env, O => Gd O ∧ E.nx env O
  | x :: xs, env, O => Gd O ∧ g x env O fun env2 O2 => tb { nx := fun e o => ∃ o2, SubO o2 o ∧ forGo g tb Gd E xs e o2, rt := E.rt, bk := E.nx, ct := fun e o => ∃ o2, SubO o2 o ∧ forGo g tb Gd E xs e o2 } env2 O2
def dFor (wi : DTI) (g : DTG) (tb : DTS) : DTS := fun E env O => wi env O fun xs Gd O1 => forGo g tb Gd E xs env O1
theorem ds_for {st : Stmt} {wi : DTI} {g : DTG} {tb : DTS} (h : PS X st (tFor (liftI B wi) (liftG B g) (liftS B tb))) : PS X st (liftS B (dFor wi g tb)) := PS.weak h fun E σ H hh => by
  obtain ⟨env, O, F, d, R, hh, m⟩ := hh
  refine ⟨env, O, F, _, R, hh, fun xs Gd O1 H1 F1 J a1 hJ h1 => ?_⟩
  refine ⟨fun i n σ H => n = xs.length - i ∧ i ≤ xs.length ∧ ∃ env O F2, After B.K O1 H1 F1 O H F2 ∧ Sl B.K env σ F2 ∧ forGo g tb Gd d (xs.drop i) env O, ⟨xs.length, by simp, Nat.zero_le _, env, O1, F1, .refl (R.call a1), R.sl.mono a1.ff, h1⟩, ?_⟩
  rintro i n σ2 H2 ⟨rfl, hi, env2, O2, F2, a2, s2, h2⟩
  by_cases hlt : i < xs.length
  · refine .inr ?_
    rw [List.drop_eq_getElem_cons hlt] at h2
    obtain ⟨gd, h2⟩ := h2
    obtain ⟨hgo, hy⟩ := (hJ O2 H2 F2 i a2.ff a2.fh a2.ow gd).1 xs[i] (List.getElem?_eq_getElem hlt)
    refine ⟨hgo, fun σ' H' => ∃ env O F3, After B.K O1 H1 F1 O H' F3 ∧ Sl B.K env σ' F3 ∧ forGo g tb Gd d (xs.drop (i + 1)) env O, fun σ' H' n => ⟨xs.length - (i + 1), by omega, rfl, hlt, n⟩, fun v H3 yv => ?_⟩
    obtain ⟨F3, a3, rv⟩ := hy v H3 yv
    have b3 := a2.trans a3
    have R3 : Rel B env2 O2 σ2 H3 F3 := ⟨R.af.trans (a1.trans b3), s2.mono a3.ff⟩
    refine ⟨xs[i], env2, O2, F3, _, R3, rv, h2, fun env4 O4 σ4 H4 F4 a4 s4 h4 => ?_⟩
    have b4 := b3.trans a4
    refine ⟨env4, O4, F4, _, R3.on a4 s4, h4, ⟨fun e o σ'' h f a' sl ⟨o2, sb, n⟩ => ⟨e, o2, f, (b4.trans a').weak sb, sl, n⟩, fun x v o h f a' => m.rt x v o h f (a1.trans (b4.trans a')), fun e o σ'' h f a' => m.nx e o σ'' h f (a1.trans (b4.trans a')), fun e o σ'' h f a' sl ⟨o2, sb, n⟩ => ⟨e, o2, f, (b4.trans a').weak sb, sl, n⟩⟩⟩
  · have e : i = xs.length := by omega
    subst e
    rw [List.drop_length] at h2
    exact .inl ⟨(hJ O2 H2 F2 _ a2.ff a2.fh a2.ow h2.1).2 rfl, m.nx env2 O2 σ2 H2 F2 (a1.trans a2) s2 h2.2⟩
/-- by a word over the turn -/
theorem forGo_inv {g : DTG} {tb : DTS} {Gd : Ow → Prop} {E : DEnds} {xs : List D} {env : Env} {O : Ow} (P : Nat → Env → Ow → Prop) (h0 : P 0 env O) (hg : ∀ i env O, i ≤ xs.length → P i env O → Gd O)
    (hs : ∀ (N : Env → Ow → Prop) (i : Nat) (x : D) (env : Env) (O : Ow), xs[i]? = some x → P i env O → (∀ e o o2, SubO o2 o → P (i + 1) e o2 → N e o) → g x env O fun env2 O2 => tb { nx := N, rt := E.rt, bk := E.nx, ct := N } env2 O2)
    (hd : ∀ env O, P xs.length env O → E.nx env O) : forGo g tb Gd E xs env O := by
  suffices h : ∀ (ys : List D) (i : Nat) (env : Env) (O : Ow), xs.drop i = ys → i ≤ xs.length → P i env O → forGo g tb Gd E ys env O from h xs 0 env O rfl (Nat.zero_le _) h0
  intro ys
  induction ys with
  | nil =>
    intro i env O e hi p
    have : xs.length ≤ i := List.drop_eq_nil_iff.mp e
    have : i = xs.length := by omega
    subst this
    exact ⟨hg _ env O hi p, hd env O p⟩
  | cons y ys ih =>
    intro i env O e hi p
    have hlt : i < xs.length := by
      rcases Nat.lt_or_ge i xs.length with h | h
      · exact h
      · rw [List.drop_eq_nil_iff.mpr h] at e; cases e
    rw [List.drop_eq_getElem_cons hlt] at e
    injection e with e1 e2
    exact ⟨hg i env O hi p, hs _ i y env O (by rw [← e1]; exact List.getElem?_eq_getElem hlt) p fun e o o2 sb p' => ⟨o2, sb, ih (i + 1) e o2 e2 hlt p'⟩⟩
def whGo (c : DTT) (tb : DTS) (E : DEnds) : Nat → Env → Ow → Prop
  | 0, _, _ => False
  | m + 1, env, O => c env O fun b O1 => if b = true then tb { nx := fun e o => ∃ o2, SubO o2 o ∧ whGo c tb E m e o2, rt := E.rt, bk := E.nx, ct := fun e o => ∃ o2, SubO o2 o ∧ whGo c tb E m e o2 } env O1 else E.nx env O1
def dWhile (c : DTT) (tb : DTS) : DTS := fun E env O => ∃ m, whGo c tb E m env O
theorem ds_while {st : Stmt} {c : DTT} {tb : DTS} (h : PS X st (tWhile (liftT B c) (liftS B tb))) : PS X st (liftS B (dWhile c tb)) := PS.weak h fun E σ H hh => by
  obtain ⟨env, O, F, d, R, ⟨m0, hh⟩, mt⟩ := hh
  refine ⟨fun m σ' H' => ∃ env' O' F2, After B.K O H F O' H' F2 ∧ Sl B.K env' σ' F2 ∧ whGo c tb d m env' O', ⟨m0, env, O, F, .refl R, R.sl, hh⟩, ?_⟩
  rintro m σ2 H2 ⟨env2, O2, F2, a2, s2, h2⟩
  cases m with
  | zero => exact h2.elim
  | succ m =>
    have R2 := R.on a2 s2
    refine ⟨env2, O2, F2, _, R2, h2, fun b O3 H3 F3 a3 h3 => ?_⟩
    have b3 := a2.trans a3
    cases b with
    | true =>
      rw [if_pos rfl] at h3
      refine iteT ⟨fun σ' H' => ∃ env' O' F2, After B.K O H F O' H' F2 ∧ Sl B.K env' σ' F2 ∧ whGo c tb d m env' O', fun σ' H' n => ⟨m, Nat.lt_succ_self m, n⟩, ?_⟩
      exact ⟨env2, O3, F3, _, R2.call a3, h3, ⟨fun e o σ'' h f a' sl ⟨o2, sb, n⟩ => ⟨e, o2, f, (b3.trans a').weak sb, sl, n⟩, fun x v o h f a' => mt.rt x v o h f (b3.trans a'), fun e o σ'' h f a' => mt.nx e o σ'' h f (b3.trans a'), fun e o σ'' h f a' sl ⟨o2, sb, n⟩ => ⟨e, o2, f, (b3.trans a').weak sb, sl, n⟩⟩⟩
    | false =>
      rw [if_neg (by decide)] at h3
      exact iteF (mt.nx env2 O3 σ2 H3 F3 b3 (s2.mono a3.ff) h3)
theorem wipe_get {σ : St} {vs : List Nat} {j : Nat} : (wipe σ vs)[j]? = if j ∈ vs then (σ[j]?).map fun _ => none else σ[j]? := by
  induction vs with
  | nil => simp [wipe]
  | cons v vs ih =>
    unfold wipe
    by_cases h : v = j
    · subst h
      rw [if_pos (by simp)]
      by_cases hl : v < (wipe σ vs).length
      · rw [List.getElem?_set_self hl]
        rw [wipe_length] at hl
        rw [List.getElem?_eq_getElem hl]; rfl
      · rw [List.getElem?_eq_none (by simpa using hl)]
        rw [wipe_length] at hl
        rw [List.getElem?_eq_none (by omega)]; rfl
    · rw [List.getElem?_set_ne h, ih]
      have : (j ∈ v :: vs) = (j ∈ vs) := by
        simp only [List.mem_cons, eq_iff_iff]
        exact ⟨fun z => z.elim (fun z => absurd z.symm h) id, .inr⟩
      simp only [this]
theorem wipe_set {σ : St} {vs : List Nat} {i : Nat} {x : Option V} (h : i ∈ vs) (ρ : St) (e : wipe ρ vs = wipe σ vs) : wipe (ρ.set i x) vs = wipe σ vs := by
  apply List.ext_getElem?
  intro j
  rw [← e, wipe_get, wipe_get]
  by_cases hj : j ∈ vs
  · rw [if_pos hj, if_pos hj]
    by_cases hij : i = j
    · subst hij
      by_cases hl : i < ρ.length
      · rw [List.getElem?_set_self hl, List.getElem?_eq_getElem hl]; rfl
      · rw [List.getElem?_eq_none (by simpa using hl), List.getElem?_eq_none (by omega)]
    · rw [List.getElem?_set_ne hij]
  · rw [if_neg hj, if_neg hj, List.getElem?_set_ne (fun z => hj (by rw [← z]; exact h))]
theorem wipe_wipe {σ : St} {vs : List Nat} : wipe (wipe σ vs) vs = wipe σ vs := by
  apply List.ext_getElem?
  intro j
  rw [wipe_get, wipe_get]
  by_cases hj : j ∈ vs
  · rw [if_pos hj, if_pos hj, Option.map_map]; rfl
  · rw [if_neg hj, if_neg hj]
def wipeD (env : Env) : List Nat → Env
  | [] => env
  | v :: vs => (wipeD env vs).set v none
theorem Sl.wiped {K : Frag} {env : Env} {σ : St} {F : Hp} (R : Sl K env σ F) : ∀ vs : List Nat, Sl K (wipeD env vs) (wipe σ vs) F
  | [] => R
  | _ :: vs => (R.wiped vs).setn
/-- a comprehension's target: it stores names of vs alone -/
def SimG (K : Frag) (vs : List Nat) (g : TG) (dg : DTG) : Prop := ∀ (env : Env) (O : Ow) (σ ρ : St) (H F : Hp) (v : V) (d : D) (q : Env → Ow → Prop) (Q : St → Hp → Prop), Same F H → Sl K env ρ F → wipe ρ vs = wipe σ vs → RV K F d v → dg d env O q →
  (∀ env' ρ', wipe ρ' vs = wipe σ vs → Sl K env' ρ' F → q env' O → Q ρ' H) → g v ρ H Q
theorem simG_name {K : Frag} {vs : List Nat} {i : Nat} (h : i ∈ vs) : SimG K vs (gName i) (dgName i) := fun env O σ ρ H F v d q Q _ R e r hq k => k _ _ (wipe_set h ρ e) (R.setv r) hq
def SimGs (K : Frag) (vs : List Nat) (g : TGs) (dg : DTGs) : Prop := ∀ (env : Env) (O : Ow) (σ ρ : St) (H F : Hp) (v : List V) (d : List D) (q : Env → Ow → Prop) (Q : St → Hp → Prop), Same F H → Sl K env ρ F → wipe ρ vs = wipe σ vs → RVs K F d v → dg d env O q →
  (∀ env' ρ', wipe ρ' vs = wipe σ vs → Sl K env' ρ' F → q env' O → Q ρ' H) → g v ρ H Q
theorem simGs_nil {K : Frag} {vs : List Nat} : SimGs K vs gNil dgNil := fun env O σ ρ H F v d q Q _ R e r hq k => by
  obtain ⟨rfl, hq⟩ := hq
  cases r
  exact ⟨rfl, k _ _ e R hq⟩
def OwSame (dg : DTG) : Prop := ∀ d env O q, dg d env O q → dg d env O fun env' O' => O' = O ∧ q env' O'
theorem owSame_name {i : Nat} : OwSame (dgName i) := fun d env O q h => ⟨rfl, h⟩
theorem simGs_cons {K : Frag} {vs : List Nat} {g : TG} {dg : DTG} {gs : TGs} {dgs : DTGs} (ho : OwSame dg) (h : SimG K vs g dg) (hs : SimGs K vs gs dgs) : SimGs K vs (gCons g gs) (dgCons dg dgs) := fun env O σ ρ H F v d q Q fh R e r hq k => by
  cases r with
  | nil => exact hq.elim
  | cons r rs =>
    refine ⟨_, _, rfl, h env O σ ρ H F _ _ _ _ fh R e r (ho _ _ _ _ hq) fun env' ρ' e' R' hq' => ?_⟩
    exact hs env' O σ ρ' H F _ _ q Q fh R' e' rs hq'.2 k
theorem simG_tup {K' K : Frag} {vs : List Nat} {n : Nat} {gs : TGs} {dgs : DTGs} (hK : K' = K) (hs : SimGs K vs gs dgs) : SimG K vs (gTup K' n gs) (dgTup n dgs) := fun env O σ ρ H F v d q Q fh R e r hq k => by
  cases d <;> try exact hq.elim
  cases r with
  | tup h1 h2 => exact ⟨_, _, rfl, by rw [hK]; exact same_tup fh h1, h2.length ▸ hq.1, hs env O σ ρ H F _ _ q Q fh R e h2 hq.2 k⟩
def lcGo (g : DTG) (tt : DTT) (te : DTE) (Gd : Ow → Prop) : List D → Env → Ow → (List D → Ow → Prop) → Prop
  | [], _, O, q => Gd O ∧ q [] O
  | x :: xs, env, O, q => Gd O ∧ g x env O fun env2 _ => tt env2 O fun b O3 => if b = true then te env2 O3 fun y O4 => ∃ o2, SubO o2 O4 ∧ lcGo g tt te Gd xs env o2 fun ys O5 => q (y :: ys) O5 else ∃ o2, SubO o2 O3 ∧ lcGo g tt te Gd xs env o2 q
def dLc (wi : DTI) (g : DTG) (tt : DTT) (te : DTE) (vs : List Nat) : DTE := fun env O q => wi env O fun xs Gd O1 => xs.length ≤ sizeLine ∧ lcGo g tt te Gd xs (wipeD env vs) O1 fun ys O2 => q (.lst ys) O2
def dLcO (wi : DTI) (g : DTG) (tt : DTT) (te : DTE) (vs : List Nat) : DTE := fun env O q => wi env O fun xs Gd O1 => xs.length ≤ sizeLine ∧ lcGo g tt te Gd xs (wipeD env vs) O1 fun ys O2 => ∀ p, O2 p = none → q (.ref p) (setO O2 p (.lst ys))
theorem After.upn {K : Frag} {O O' : Ow} {H F H' F' : Hp} (a : After K O H F O' H' F') {p : Addr} {o : HO} (h1 : O' p = none) (h2 : F' p = none) (h3 : O p ≠ none ∨ H p = none) (h4 : ∀ o, H' p = some o → Nt p o) : After K O H F O' (upd H' p o) F' := by
  refine ⟨a.ff, fun b x e => by rw [upd_ne (ne_of_none e h2)]; exact a.fh b x e, fun b x e ho => ?_, a.fr, fun q x e => ?_, a.nw, fun P q t => tabs_upd (a.tb P q t) h4⟩
  · have : b ≠ p := fun z => by
      subst z
      rcases h3 with h3 | h3
      · exact h3 ho
      · rw [h3] at e; cases e
    rw [upd_ne this]; exact a.kq b x e ho
  · have hq : q ≠ p := fun z => by rw [z, h1] at e; cases e
    obtain ⟨a1, ho, a3, a4⟩ := a.ow q x e
    exact ⟨a1, ho, by rw [upd_ne hq]; exact a3, a4⟩
/-- a new list becomes data, or one's own -/
theorem After.ice {K : Frag} {O O' : Ow} {H F H' F' : Hp} (a : After K O H F O' H' F') {p : Addr} {o : HO} (h1 : O' p = none) (h2 : F' p = none) (h3 : O p ≠ none ∨ H p = none) (hp : H' p = some o) : After K O H F O' H' (upd F' p o) := by
  have s : Same F' (upd F' p o) := fun b u e => by rw [upd_ne (ne_of_none e h2)]; exact e
  refine ⟨a.ff.trans s, fun b x e => ?_, a.kq, fun b e1 e2 e3 => ?_, fun q x e => ?_, a.nw, a.tb⟩
  · by_cases hb : b = p
    · subst hb; rw [upd_same] at e; cases e; exact hp
    · rw [upd_ne hb] at e; exact a.fh b x e
  · have : b ≠ p := fun z => by
      subst z
      rcases h3 with h3 | h3
      · exact h3 e2
      · exact e1 h3
    rw [upd_ne this]; exact a.fr b e1 e2 e3
  · have hq : q ≠ p := fun z => by rw [z, h1] at e; cases e
    obtain ⟨a1, ho, a3, a4⟩ := a.ow q x e
    exact ⟨by rw [upd_ne hq]; exact a1, ho, a3, a4.mono s⟩
theorem After.mine {K : Frag} {O O' : Ow} {H F H' F' : Hp} (a : After K O H F O' H' F') {p : Addr} {o : HO} {u : OD} (h2 : F' p = none) (h3 : O p ≠ none ∨ H p = none) (hp : H' p = some o) (r : RO K F' p u o) : After K O H F (setO O' p u) H' F' := by
  refine ⟨a.ff, a.fh, a.kq, a.fr, fun q x e => ?_, fun q x e => ?_, a.tb⟩
  · by_cases hq : q = p
    · subst hq
      rw [setO_same] at e; cases e
      exact ⟨h2, o, hp, r⟩
    · rw [setO_ne hq] at e; exact a.ow q x e
  · by_cases hq : q = p
    · subst hq; exact h3
    · rw [setO_ne hq] at e; exact a.nw q x e
/-- what is neither own nor frozen stays out of both -/
theorem After.out {K : Frag} {O O' : Ow} {H F H' F' : Hp} (a : After K O H F O' H' F') {p : Addr} {o : HO} (h1 : O p = none) (h2 : F p = none) (h3 : H p = some o) (hn : ∀ ps, o ≠ HO.tbl ps := by intro _ z; cases z) : O' p = none ∧ F' p = none ∧ H' p = some o := by
  refine ⟨?_, a.fr p (by rw [h3]; simp) h1 h2, a.kp p o h3 h1 hn⟩
  cases e : O' p with
  | none => rfl
  | some u =>
    rcases a.nw p u e with z | z
    · exact absurd h1 z
    · rw [h3] at z; cases z
theorem lc_sim {wi : DTI} {g : TG} {dg : DTG} {tt : DTT} {te : DTE} {vs : List Nat} (sg : SimG B.K vs g dg) {σ : St} {H : Hp} {Q : VK} {env : Env} {O : Ow} {F : Hp} {q : List D → Ow → Prop} (R : Rel B env O σ H F)
    (h : wi env O fun xs Gd O1 => xs.length ≤ sizeLine ∧ lcGo dg tt te Gd xs (wipeD env vs) O1 q)
    (k : ∀ ys vs' O' H' F' p, After B.K O H F O' H' F' → (O p ≠ none ∨ H p = none) → O' p = none → F' p = none → RVs B.K F' ys vs' → H' p = some (.lst vs') → q ys O' → Q (.ref p) H') :
    tLc (liftI B wi) g (liftT B tt) (lift B te) vs σ H Q := by
  refine ⟨env, O, F, _, R, h, fun xs Gd O1 H1 F1 J a1 hJ h1 p hp => ?_⟩
  obtain ⟨hl, h1⟩ := h1
  have R1 := R.call a1
  obtain ⟨p1, p2⟩ := R1.free hp
  have hp0 : O p ≠ none ∨ H p = none := by
    by_cases ho : O p = none
    · refine .inr ?_
      cases e : H p with
      | none => rfl
      | some o => exact absurd hp (a1.kn p o e ho)
    · exact .inl ho
  refine ⟨fun i n Hc => n = xs.length - i ∧ i ≤ xs.length ∧ ∃ O2 F2 acc av, After B.K O1 H1 F1 O2 Hc F2 ∧ O2 p = none ∧ F2 p = none ∧ acc.length ≤ i ∧ RVs B.K F2 acc av ∧ Hc p = some (.lst av) ∧ lcGo dg tt te Gd (xs.drop i) (wipeD env vs) O2 fun ys O3 => q (acc ++ ys) O3,
    ⟨xs.length, by simp, Nat.zero_le _, O1, F1, [], [], (After.refl R1).upn p1 p2 (.inr hp) (nt_none hp), p1, p2, Nat.le_refl _, .nil, upd_same, h1⟩, ?_⟩
  rintro i n H2 ⟨rfl, hi, O2, F2, acc, av, a2, e1, e2, e3, ra, e4, h2⟩
  by_cases hlt : i < xs.length
  · refine .inr ?_
    rw [List.drop_eq_getElem_cons hlt] at h2
    obtain ⟨gd, h2⟩ := h2
    obtain ⟨hgo, hy⟩ := (hJ O2 H2 F2 i a2.ff a2.fh a2.ow gd).1 xs[i] (List.getElem?_eq_getElem hlt)
    refine ⟨hgo, fun Hc => ∃ O2 F2 acc av, After B.K O1 H1 F1 O2 Hc F2 ∧ O2 p = none ∧ F2 p = none ∧ acc.length ≤ i + 1 ∧ RVs B.K F2 acc av ∧ Hc p = some (.lst av) ∧ lcGo dg tt te Gd (xs.drop (i + 1)) (wipeD env vs) O2 fun ys O3 => q (acc ++ ys) O3, fun H' n => ⟨xs.length - (i + 1), by omega, rfl, hlt, n⟩, fun v H3 yv => ?_⟩
    obtain ⟨F3, a3, rv⟩ := hy v H3 yv
    obtain ⟨o3, f3, l3⟩ := a3.out e1 e2 e4
    have b3 := a2.trans a3
    refine sg (wipeD env vs) O2 σ (wipe σ vs) H3 F3 v xs[i] _ _ a3.fh (((R1.sl.wiped vs).mono a2.ff).mono a3.ff) wipe_wipe rv h2 fun env' ρ' ew sl' h3 => ⟨ew, ?_⟩
    refine ⟨env', O2, F3, _, ⟨R1.af.trans b3, sl'⟩, h3, fun b O4 H4 F4 a4 h4 => ?_⟩
    obtain ⟨o4, f4, l4⟩ := a4.out o3 f3 l3
    have b4 := b3.trans a4
    cases b with
    | false =>
      rw [if_neg (by decide)] at h4
      obtain ⟨o2, sb, h4⟩ := h4
      exact iteF ⟨o2, F4, acc, av, b4.weak sb, sb.gone o4, f4, Nat.le_succ_of_le e3, (ra.mono a3.ff).mono a4.ff, l4, h4⟩
    | true =>
      rw [if_pos rfl] at h4
      refine iteT ⟨env', O4, F4, _, ⟨R1.af.trans b4, sl'.mono a4.ff⟩, h4, fun y yv O5 H5 F5 a5 ry h5 => ?_⟩
      obtain ⟨o5, f5, l5⟩ := a5.out o4 f4 l4
      have r5 := ((ra.mono a3.ff).mono a4.ff).mono a5.ff
      obtain ⟨o2, sb, h5⟩ := h5
      refine ⟨av, l5, by rw [← r5.length]; omega, o2, F5, acc ++ [y], _, ((b4.trans a5).weak sb).upn (sb.gone o5) f5 (.inr hp) (nt_some l5 nt_lst), sb.gone o5, f5, by simp; omega, r5.append (.cons ry .nil), upd_same, ?_⟩
      simpa using h5
  · have e : i = xs.length := by omega
    subst e
    rw [List.drop_length] at h2
    refine .inl ⟨(hJ O2 H2 F2 _ a2.ff a2.fh a2.ow h2.1).2 rfl, k acc av O2 H2 F2 p (a1.trans a2) hp0 e1 e2 ra e4 ?_⟩
    simpa using h2.2
theorem lift_lc {wi : DTI} {g : TG} {dg : DTG} {tt : DTT} {te : DTE} {vs : List Nat} (sg : SimG B.K vs g dg) (σ : St) (H : Hp) (Q : VK) (h : lift B (dLc wi dg tt te vs) σ H Q) : tLc (liftI B wi) g (liftT B tt) (lift B te) vs σ H Q := by
  obtain ⟨env, O, F, q, R, h, k⟩ := h
  refine lc_sim sg R h fun ys vs' O' H' F' p a hp0 o' f' r l hq => ?_
  have a2 := a.ice o' f' hp0 l
  exact k _ _ O' H' _ a2 (.lst (SqL.of upd_same) (r.mono fun b u e => by rw [upd_ne (ne_of_none e f')]; exact e)) hq
theorem lift_lcO {wi : DTI} {g : TG} {dg : DTG} {tt : DTT} {te : DTE} {vs : List Nat} (sg : SimG B.K vs g dg) (σ : St) (H : Hp) (Q : VK) (h : lift B (dLcO wi dg tt te vs) σ H Q) : tLc (liftI B wi) g (liftT B tt) (lift B te) vs σ H Q := by
  obtain ⟨env, O, F, q, R, h, k⟩ := h
  refine lc_sim sg R h fun ys vs' O' H' F' p a hp0 o' f' r l hq => ?_
  exact k _ _ _ H' F' (a.mine (u := .lst ys) f' hp0 l ⟨vs', rfl, r⟩) (.ref p) (hq p o')
theorem de_lc {e : Expr} {wi : DTI} {g : TG} {dg : DTG} {tt : DTT} {te : DTE} {vs : List Nat} (sg : SimG B.K vs g dg) (h : PE X e (tLc (liftI B wi) g (liftT B tt) (lift B te) vs)) : PE X e (lift B (dLc wi dg tt te vs)) := PE.weak h (lift_lc sg)
theorem de_lcO {e : Expr} {wi : DTI} {g : TG} {dg : DTG} {tt : DTT} {te : DTE} {vs : List Nat} (sg : SimG B.K vs g dg) (h : PE X e (tLc (liftI B wi) g (liftT B tt) (lift B te) vs)) : PE X e (lift B (dLcO wi dg tt te vs)) := PE.weak h (lift_lcO sg)
theorem ds_setLc {st : Stmt} {i : Nat} {wi : DTI} {g : TG} {dg : DTG} {tt : DTT} {te : DTE} {vs : List Nat} (sg : SimG B.K vs g dg) (h : PS X st (tAsg (tLc (liftI B wi) g (liftT B tt) (lift B te) vs) (gName i))) : PS X st (liftS B (dAsg (dLc wi dg tt te vs) (dgName i))) :=
  ds_set (PS.weak h fun E σ H q => lift_lc sg σ H _ q)
def dYes : DTT := fun _ O q => q true O
theorem PTs.weak {ifs : List Expr} {t t' : TT} (h : PTs X ifs t) (i : ∀ σ H Q, t' σ H Q → t σ H Q) : PTs X ifs t' := ⟨fun pins s σ H Q I q => h.run pins s σ H Q I (i σ H Q q)⟩
theorem dts_nil : PTs X [] (liftT B dYes) := PTs.weak pts_nil fun σ H Q h => by
  obtain ⟨env, O, F, q, R, h, k⟩ := h
  exact k true O H F (.refl R) h
theorem dts_one {c : Expr} {t : DTT} (h : PT X c (liftT B t)) : PTs X [c] (liftT B t) := pts_one h
end
end DL
set_option Elab.async false
set_option linter.all false
set_option maxRecDepth 100000
set_option maxHeartbeats 4000000
namespace DL
open PySem PySem.Spec PyProof.Rows L2
mutual
def py : D → PyData
  | .non => .none | .bl b => .bool b | .int i => .int i | .str x => .str x | .ref _ => .none | .ty _ => .none
  | .lst ds => .list (pys ds) | .tup ds => .tuple (pys ds) | .ins _ _ _ => .none
def pys : List D → List PyData
  | [] => [] | d :: ds => py d :: pys ds
end
mutual
def pd : D → Bool
  | .ref _ => false | .ty _ => false | .ins _ _ _ => false | .lst ds => pds ds | .tup ds => pds ds | _ => true
def pds : List D → Bool
  | [] => true | d :: ds => pd d && pds ds
end
mutual
theorem RV.dp {K : Frag} {F H : Hp} (s : Same F H) : ∀ {d : D} {v : V}, RV K F d v → pd d = true → Dp K H v (py d)
  | _, _, .non, _ => by rw [py]; exact .non
  | _, _, .bl b, _ => by rw [py]; exact .bl b
  | _, _, .int b, _ => by rw [py]; exact .int b
  | _, _, .str b, _ => by rw [py]; exact .str b
  | _, _, .ref b, h => by simp [pd] at h
  | _, _, .ty b, h => by simp [pd] at h
  | _, _, .ins _ _ _, h => by simp [pd] at h
  | _, _, .lst hs hr, h => by rw [py]; exact .lst (s.seq hs) (RVs.dp s hr (by simpa [pd] using h))
  | _, _, .tup hs hr, h => by rw [py]; exact .tup (same_tup s hs) (RVs.dp s hr (by simpa [pd] using h))
theorem RVs.dp {K : Frag} {F H : Hp} (s : Same F H) : ∀ {ds : List D} {vs : List V}, RVs K F ds vs → pds ds = true → DpAll K H vs (pys ds)
  | _, _, .nil, _ => by rw [pys]; exact .nil
  | _, _, .cons h hs, e => by
    simp only [pds, Bool.and_eq_true] at e
    rw [pys]; exact .cons (RV.dp s h e.1) (RVs.dp s hs e.2)
end
/-- as plain data, an own list too -/
def asP (O : Ow) : D → Option PyData
  | .ref p => match O p with | some (.lst ds) => if pds ds = true then some (.list (pys ds)) else none | _ => none
  | d => if pd d = true then some (py d) else none
theorem asP_dp {K : Frag} {O : Ow} {H F : Hp} (fh : Same F H) (ow : OwOk K O H F) {d : D} {v : V} {a : PyData} (r : RV K F d v) (h : asP O d = some a) : Dp K H v a := by
  cases d <;> simp only [asP] at h
  case ref p =>
    cases r
    split at h
    · rename_i e
      split at h
      · rename_i e2
        cases h
        obtain ⟨_, ho, e1, vs, rfl, r⟩ := ow _ _ e
        exact .lst (SqL.of e1) (r.dp fh e2)
      · cases h
    · cases h
  all_goals
    split at h
    · rename_i e
      cases h
      exact r.dp fh e
    · cases h
section
variable {X : Cx} {B : Bd} {pos : Pos}
def dEq : DR2 := fun x y O q => ∃ a b, asP O x = some a ∧ asP O y = some b ∧ SeqAt.shaped a = true ∧ SeqAt.shaped b = true ∧ q (.bl (PyData.eqv a b)) O
def dNe : DR2 := fun x y O q => ∃ a b, asP O x = some a ∧ asP O y = some b ∧ SeqAt.shaped a = true ∧ SeqAt.shaped b = true ∧ q (.bl (!PyData.eqv a b)) O
theorem sim_eq : Sim2 B (rEqD B.K) dEq := by
  intro env O σ H F x y dx dy q Q R rx ry h k
  obtain ⟨a, b, e1, e2, s1, s2, h⟩ := h
  exact ⟨a, b, asP_dp R.fh R.ow rx e1, asP_dp R.fh R.ow ry e2, s1, s2, k _ _ O H F (.refl R) (.bl _) h⟩
theorem sim_ne : Sim2 B (rNeD B.K) dNe := by
  intro env O σ H F x y dx dy q Q R rx ry h k
  obtain ⟨a, b, e1, e2, s1, s2, h⟩ := h
  exact ⟨a, b, asP_dp R.fh R.ow rx e1, asP_dp R.fh R.ow ry e2, s1, s2, k _ _ O H F (.refl R) (.bl _) h⟩
def dLt : DR2 := dI2 (fun _ _ => True) fun i j => .bl (decide (i < j))
def dLe : DR2 := dI2 (fun _ _ => True) fun i j => .bl (decide (i ≤ j))
def dGt : DR2 := dI2 (fun _ _ => True) fun i j => .bl (decide (j < i))
def dGe : DR2 := dI2 (fun _ _ => True) fun i j => .bl (decide (j ≤ i))
theorem sim_lt : Sim2 B (rI0 fun i j => .bl (decide (i < j))) dLt := sim_I0 fun _ _ _ => .bl _
theorem sim_le : Sim2 B (rI0 fun i j => .bl (decide (i ≤ j))) dLe := sim_I0 fun _ _ _ => .bl _
theorem sim_gt : Sim2 B (rI0 fun i j => .bl (decide (j < i))) dGt := sim_I0 fun _ _ _ => .bl _
theorem sim_ge : Sim2 B (rI0 fun i j => .bl (decide (j ≤ i))) dGe := sim_I0 fun _ _ _ => .bl _
def dIsN : DR2 := fun x y O q => match y with | .non => q (.bl (match x with | .non => true | _ => false)) O | _ => False
def dNotN : DR2 := fun x y O q => match y with | .non => q (.bl (match x with | .non => false | _ => true)) O | _ => False
theorem sim_isN : Sim2 B (fun x y H Q => y = .non ∧ Q (.bl (decide (x = .non))) H) dIsN := by
  intro env O σ H F x y dx dy q Q R rx ry h k
  cases dy <;> try exact h.elim
  cases ry
  refine ⟨rfl, k _ _ O H F (.refl R) ?_ h⟩
  cases rx <;> exact .bl _
theorem sim_notN : Sim2 B (fun x y H Q => y = .non ∧ Q (.bl (!decide (x = .non))) H) dNotN := by
  intro env O σ H F x y dx dy q Q R rx ry h k
  cases dy <;> try exact h.elim
  cases ry
  refine ⟨rfl, k _ _ O H F (.refl R) ?_ h⟩
  cases rx <;> exact .bl _
def dSub : DR2 := dI2 (fun _ _ => True) fun i j => .int (i - j)
theorem sim_sub : Sim2 B (rI0 fun i j => .int (i - j)) dSub := sim_I0 fun _ _ _ => .int _
def dMod : DR2 := dI2 (fun _ j => 0 < j) fun i j => .int (i % j)
theorem sim_mod : Sim2 B (rI (fun _ j => 0 < j) fun i j => .int (i % j)) dMod := sim_I fun _ _ _ => .int _
def rCatL (K : Frag) : R2 := fun x y H Q => ∃ a b xs ys, x = .ref a ∧ y = .ref b ∧ SqL K H a xs ∧ SqL K H b ys ∧ xs.length + ys.length ≤ sizeLine ∧ ∀ p, H p = none → Q (.ref p) (upd H p (.lst (xs ++ ys)))
theorem op_catL : OpR X (binaryOp .Add) (rCatL X.K) := by
  intro pins s σ H x y v u Q I rx ry h
  obtain ⟨a, b, xs, ys, rfl, rfl, ha, hb, hz, q⟩ := h
  cases rx; cases ry
  obtain ⟨i1, r1, ⟨⟨c1, d1, t1, l1⟩, n1, h1, k1, _, e1⟩, _⟩ := I.list ha
  obtain ⟨i2, r2, ⟨⟨c2, d2, t2, l2⟩, n2, h2, k2, _, e2⟩, _⟩ := I.list hb
  simp only at k1 e1 k2 e2
  subst k1 e1 k2 e2
  have hlen : i1.toArray.size + i2.toArray.size ≤ sizeLine := by
    have x1 := r1.length
    have x2 := r2.length
    simp only [List.size_toArray]; omega
  refine concat_meets ⟨_, h1, rfl⟩ ⟨_, h2, rfl⟩ noFill_list_add seq_list_add F.slot_list_add F.entry_list_add (F.args_list_add_2 _ _) (list_addW a b i1.toArray i2.toArray n1 n2 d1 d2 l1 l2 hlen) ⟨h1, h2, ?_⟩
  have ee : i1.toArray ++ i2.toArray = (i1 ++ i2).toArray := by simp
  rw [ee]
  exact ⟨.ref _, _, I.lnew (t' := s.toks) (r1.append r2) (by rw [List.length_append]; omega), rfl, q _ I.fresh⟩
def dAdd : DR2 := fun x y O q => match x, y with
  | .int i, .int j => q (.int (i + j)) O
  | .str i, .str j => i.length + j.length ≤ sizeLine ∧ q (.str (i ++ j)) O
  | .tup a, .tup b => a.length + b.length ≤ sizeLine ∧ q (.tup (a ++ b)) O
  | x, y => ∃ a b, asL O x = some a ∧ asL O y = some b ∧ a.length + b.length ≤ sizeLine ∧ q (.lst (a ++ b)) O
/-- t + u of tuples, what is new being told as it stands -/
def rCatN (K : Frag) : R2 := fun x y H Q => ∃ a b xs ys, x = .ref a ∧ y = .ref b ∧ SqT K H a xs ∧ SqT K H b ys ∧ xs.length + ys.length ≤ sizeLine ∧ (xs = [] → Q (.ref b) H) ∧ (xs ≠ [] → ys = [] → Q (.ref a) H) ∧ (xs ≠ [] → ys ≠ [] → NewT (xs ++ ys) H Q)
theorem op_catN : OpR X (binaryOp .Add) (rCatN X.K) := by
  intro pins s σ H x y v u Q I rx ry h
  obtain ⟨a, b, xs, ys, rfl, rfl, ha, hb, hz, q0, q1, q2⟩ := h
  cases rx; cases ry
  obtain ⟨i1, r1, t1, _⟩ := I.tuple ha
  obtain ⟨i2, r2, t2, _⟩ := I.tuple hb
  by_cases hx : xs = []
  · subst hx
    cases r1
    exact cat_tup0 t1 t2 ⟨.ref b, H, I, rfl, q0 rfl⟩
  · have hn : xs.length + ys.length = i1.length + i2.length := by rw [r1.length, r2.length]
    exact HT.cat_tup t1 t2 (fun e => hx (r1.nil_iff.mp e)) (fun e => ⟨.ref a, H, I, rfl, q1 hx (r2.nil_iff.mp e)⟩)
      (fun e => Inv.newT_ep I (r1.append r2) (by rw [List.length_append]; exact hz) (q2 hx fun e2 => e (r2.nil_iff.mpr e2))) (hn ▸ hz)
abbrev rAddA (K : Frag) : R2 := fun x y H Q => ((rI0 fun i j => .int (i + j)) x y H Q ∨ ∃ i j, x = .str i ∧ y = .str j ∧ i.length + j.length ≤ sizeLine ∧ Q (.str (i ++ j)) H) ∨ (rCatN K x y H Q ∨ rCatL K x y H Q)
theorem op_addA : OpR X (binaryOp .Add) (rAddA X.K) := (op_add.or op_add_str).or (op_catN.or op_catL)
abbrev fresh_tup {env : Env} {O : Ow} {σ : St} {H F : Hp} {q : DQ} {Q : VK} {ds : List D} {vs : List V} (R : Rel B env O σ H F) (r : RVs B.K F ds vs) (h : q (.tup ds) O)
    (k : ∀ d v O' H' F', After B.K O H F O' H' F' → RV B.K F' d v → q d O' → Q v H') : NewT vs H Q := new_tup R r h k
theorem fresh_lst {env : Env} {O : Ow} {σ : St} {H F : Hp} {q : DQ} {Q : VK} {ds : List D} {vs : List V} (R : Rel B env O σ H F) (r : RVs B.K F ds vs) (h : q (.lst ds) O)
    (k : ∀ d v O' H' F', After B.K O H F O' H' F' → RV B.K F' d v → q d O' → Q v H') (p : Addr) (hp : H p = none) : Q (.ref p) (upd H p (.lst vs)) :=
  have a := R.froz hp (.lst vs)
  k _ _ O _ _ a (.lst (SqL.of upd_same) (r.mono a.ff)) h
theorem sim_add : Sim2 B (rAddA B.K) dAdd := by
  intro env O σ H F x y dx dy q Q R rx ry h k
  have hL : (∃ a b, asL O dx = some a ∧ asL O dy = some b ∧ a.length + b.length ≤ sizeLine ∧ q (.lst (a ++ b)) O) → rAddA B.K x y H Q := by
    rintro ⟨a, b, e1, e2, hz, h⟩
    obtain ⟨p, xs, rfl, s1, r1⟩ := asL_sq R.fh R.ow rx e1
    obtain ⟨p', ys, rfl, s2, r2⟩ := asL_sq R.fh R.ow ry e2
    exact .inr (.inr ⟨p, p', xs, ys, rfl, rfl, s1, s2, by rw [← r1.length, ← r2.length]; exact hz, fresh_lst R (r1.append r2) h k⟩)
  cases dx <;> cases dy <;> simp only [dAdd] at h <;> try exact hL h
  · cases rx; cases ry
    exact .inl (.inl ⟨_, _, rfl, rfl, k _ _ O H F (.refl R) (.int _) h⟩)
  · cases rx; cases ry
    exact .inl (.inr ⟨_, _, rfl, rfl, h.1, k _ _ O H F (.refl R) (.str _) h.2⟩)
  · cases rx with
    | tup s1 r1 =>
      cases ry with
      | tup s2 r2 =>
        rename_i a b p xs p' ys
        refine .inr (.inl ⟨p, p', xs, ys, rfl, rfl, same_tup R.fh s1, same_tup R.fh s2, by rw [← r1.length, ← r2.length]; exact h.1, fun e => ?_, fun e e' => ?_, fun _ _ => fresh_tup R (r1.append r2) h.2 k⟩)
        · subst e
          cases r1
          exact k _ _ O H F (.refl R) (.tup s2 r2) h.2
        · subst e'
          cases r2
          exact k _ _ O H F (.refl R) (.tup s1 (by simpa using r1)) h.2
theorem RVs.rep {K : Frag} {F : Hp} {ds : List D} {vs : List V} (r : RVs K F ds vs) : ∀ n : Nat, RVs K F (List.replicate n ds).flatten (List.replicate n vs).flatten
  | 0 => .nil
  | n + 1 => by
    rw [List.replicate_succ, List.replicate_succ, List.flatten_cons, List.flatten_cons]
    exact r.append (r.rep n)
theorem mul_one_T (l : Addr) (items : Array Value) (n : Nat) (dd : Option Addr) (sl : Array (Option Value)) (u : Tok) :
    Meets (Builtin.«tuple.__mul__» ⟨[.ref l, .int 1 u], []⟩) (fun _ R s => s.heap.get? l = some { cls := .type "tuple", dict := dd, data := .seq items n, slots := sl } ∧ R (.ok (.ret (Value.ref l))) s) :=
  .of_wp fun prog w A R s h => by
    obtain ⟨hp, g, d, tk, os⟩ := s
    obtain ⟨hl, h⟩ := h
    have f1 := AutoSeq1.idx_int
    have c1 : (items.isEmpty || (1 : Int) == 1) = true := by simp
    wp_walk using wpAny_loadPart' hl
    repeat (first
      | (refine wpAny_ite_true (decide_eq_true c1) ?_; wp_walk using wpAny_loadPart' hl))
    exact ⟨_, rfl, h⟩
theorem mul_nil_T (l : Addr) (items : Array Value) (n : Nat) (dd : Option Addr) (sl : Array (Option Value)) (k : Int) (u : Tok) (h0 : k ≤ 0) (h1 : -(2 ^ 63) ≤ k) (hne : items.isEmpty = false) :
    Meets (Builtin.«tuple.__mul__» ⟨[.ref l, .int k u], []⟩) (fun _ R s => s.heap.get? l = some { cls := .type "tuple", dict := dd, data := .seq items n, slots := sl } ∧
      R (.ok (.ret (Value.ref s.heap.objs.size))) { s with heap := s.heap.push { cls := Value.type "tuple", data := Data.seq #[] }, toks := s.toks }) :=
  .of_wp fun prog w A R s h => by
    obtain ⟨hp, g, d, tk, os⟩ := s
    obtain ⟨hl, h⟩ := h
    have f1 := AutoSeq1.idx_int
    have c0 : ¬ ((decide (k < -(2 ^ 63)) || decide (k ≥ 2 ^ 63)) = true) := by simp; omega
    have c1 : ¬ ((items.isEmpty || k == 1) = true) := by rw [hne]; simp; omega
    have c2 : (decide (k ≤ 0) || items.isEmpty) = true := by simp [h0]
    wp_walk using wpAny_loadPart' hl
    repeat (first
      | (refine wpAny_ite_false (decide_eq_false c0) ?_; wp_walk using wpAny_loadPart' hl)
      | (refine wpAny_ite_false (decide_eq_false c1) ?_; wp_walk using wpAny_loadPart' hl)
      | (refine wpAny_ite_true (decide_eq_true c2) ?_; wp_walk using wpAny_loadPart' hl))
    exact ⟨_, rfl, h⟩
/-- t * k for k up to 1: t itself, or a new () -/
def rRep1 (K : Frag) : R2 := fun x y H Q => ∃ l k xs, x = .ref l ∧ y = .int k ∧ SqT K H l xs ∧ xs ≠ [] ∧ -(2 ^ 63) ≤ k ∧ k ≤ 1 ∧ (k = 1 → Q (.ref l) H) ∧ (k ≤ 0 → NewT [] H Q)
theorem op_rep1 : OpR X (binaryOp .Mult) (rRep1 X.K) := by
  intro pins s σ H x y v u Q I rx ry h
  obtain ⟨l, k, xs, rfl, rfl, hT, hne, h1, h2, q1, q0⟩ := h
  cases rx
  obtain ⟨t, rfl⟩ := ry
  obtain ⟨its, r, ⟨⟨cls, dd, data, sl⟩, ho, hc, n, hd⟩, hs⟩ := I.tuple hT
  simp only at hc hd
  subst hc hd
  have hi : its.toArray.isEmpty = false := by
    cases r with
    | nil => exact absurd rfl hne
    | cons _ _ => rfl
  have go : wpAny (model X.prog X.w) X.A (call (.builtin "tuple.__mul__") [.ref l, .int k t]) (EP X pins σ Q) X.xe s := by
    by_cases hk : k ≤ 0
    · refine call_meets F.slot_tuple_mul ⟨_, ho, rfl⟩ F.entry_tuple_mul (F.args_tuple_mul_2 _ _) (mul_nil_T l its.toArray n dd sl k t hk h1 hi) ⟨ho, ?_⟩
      exact Inv.newT_ep (us := []) I .nil (Nat.zero_le _) (q0 hk)
    · obtain rfl : k = 1 := by omega
      exact call_meets F.slot_tuple_mul ⟨_, ho, rfl⟩ F.entry_tuple_mul (F.args_tuple_mul_2 _ _) (mul_one_T l its.toArray n dd sl t) ⟨ho, .ref l, H, I, rfl, q1 rfl⟩
  exact wpAny_binaryOp_repeat_ref (T := "tuple") (U := "int") (by decide) ⟨_, ho, rfl⟩ (fun s' => typeIs_int s' k t) noFill_tuple_mul F.fills_int_mul F.slot_int_rmul repeat_tuple F.slot_int_index.lookup
    (call_meets F.slot_int_rmul (typeIs_int s k t) F.entry_int_rmul (F.args_int_rmul_2 _ _) (int_rmul_tuple k t l its.toArray n dd sl) ⟨ho, rfl, ⟨_, ho, rfl⟩, go⟩)
/-- t * k for k from 2 on -/
def rRepN (K : Frag) : R2 := fun x y H Q => ∃ l k xs, x = .ref l ∧ y = .int k ∧ SqT K H l xs ∧ xs ≠ [] ∧ 2 ≤ k ∧ k ≤ 1000 ∧ xs.length ≤ 1000 ∧ NewT (List.replicate k.toNat xs).flatten H Q
theorem op_repN : OpR X (binaryOp .Mult) (rRepN X.K) := by
  intro pins s σ H x y v u Q I rx ry h
  obtain ⟨l, k, xs, rfl, rfl, sq, ne, k2, k1000, x1000, q⟩ := h
  cases rx
  obtain ⟨tk, rfl⟩ := ry
  obtain ⟨vs, rv, ⟨⟨cls, dd, data, sl⟩, ho, hc, c, hdt⟩, _⟩ := I.tuple sq
  simp only at hc hdt
  subst hc hdt
  have len : vs.toArray.size = xs.length := by rw [List.size_toArray]; exact rv.length.symm
  have he : vs.toArray.isEmpty = false := by
    cases rv with
    | nil => exact absurd rfl ne
    | cons _ _ => rfl
  have small : ((xs.length : Nat) : Int) * k ≤ 1000000 := Int.le_trans (Int.mul_le_mul_of_nonneg_right (show ((xs.length : Nat) : Int) ≤ 1000 by omega) (show (0 : Int) ≤ k by omega)) (by omega)
  have small2 : k.toNat * xs.length ≤ 1000000 := Nat.mul_le_mul (show k.toNat ≤ 1000 by omega) x1000
  have b0 : (decide (k < -(2 ^ 63)) || decide (k ≥ 2 ^ 63)) = false := by simp; omega
  have b1 : (vs.toArray.isEmpty || k == 1) = false := by rw [he]; simp; omega
  have b2 : (decide (k ≤ 0) || vs.toArray.isEmpty) = false := by rw [he]; simp; omega
  have b4 : Builtin.Tuple.tupleTooMany (((vs.toArray.size : Nat) : Int) * k) = false := by
    rw [len]
    simp only [Builtin.Tuple.tupleTooMany, sizeLine_eq, decide_eq_false_iff_not]
    omega
  have sz : (List.foldl (fun x1 x2 => x1 ++ x2) #[] (List.replicate k.toNat vs.toArray)).size ≤ sizeLine := by
    rw [size_rep, List.size_toArray, lm_len_rep_flat, ← rv.length, sizeLine_eq]; omega
  have go : wpAny (model X.prog X.w) X.A (call (.builtin "tuple.__mul__") [.ref l, .int k tk]) (EP X pins σ Q) X.xe s := by
    refine call_meets F.slot_tuple_mul ⟨_, ho, rfl⟩ F.entry_tuple_mul (F.args_tuple_mul_2 _ _) (tuple_mulW l vs.toArray c dd sl k tk b0 b1 b2 (by rw [len]; omega) b4 sz) ⟨ho, ?_⟩
    rw [size_rep]
    exact Inv.newT_ep I (rv.rep k.toNat) (by rw [lm_len_rep_flat, sizeLine_eq]; omega) q
  exact wpAny_binaryOp_repeat_ref (T := "tuple") (U := "int") (by decide) ⟨_, ho, rfl⟩ (fun s1 => typeIs_int s1 k tk) noFill_tuple_mul F.fills_int_mul F.slot_int_rmul repeat_tuple F.slot_int_index.lookup
    (call_meets F.slot_int_rmul (typeIs_int s k tk) F.entry_int_rmul (F.args_int_rmul_2 _ _) (int_rmul_tuple k tk l vs.toArray c dd sl) ⟨ho, rfl, ⟨_, ho, rfl⟩, go⟩)
def dMul : DR2 := fun x y O q => match x, y with
  | .int i, .int j => CMul i j ∧ q (.int (i * j)) O
  | .tup a, .int k => a ≠ [] ∧ a.length ≤ 1000 ∧ (-(2 ^ 63) ≤ k ∧ k ≤ 1000) ∧ q (.tup (List.replicate k.toNat a).flatten) O
  | _, _ => False
abbrev rMulA (K : Frag) : R2 := fun x y H Q => (rI CMul fun i j => .int (i * j)) x y H Q ∨ (rRep1 K x y H Q ∨ rRepN K x y H Q)
theorem op_mulA : OpR X (binaryOp .Mult) (rMulA X.K) := op_mul.or (op_rep1.or op_repN)
theorem sim_mul : Sim2 B (rMulA B.K) dMul := by
  intro env O σ H F x y dx dy q Q R rx ry h k
  cases dx <;> cases dy <;> simp only [dMul] at h <;> try exact h.elim
  · cases rx; cases ry
    exact .inl ⟨_, _, rfl, rfl, h.1, k _ _ O H F (.refl R) (.int _) h.2⟩
  · rename_i a kk
    cases ry
    cases rx with
    | tup s1 r1 =>
      rename_i p xs
      obtain ⟨hne, hl, ⟨hk1, hk2⟩, h⟩ := h
      have hxs : xs ≠ [] := fun e => hne (by rw [e] at r1; cases r1; rfl)
      by_cases h1 : kk ≤ 1
      · refine .inr (.inl ⟨p, kk, xs, rfl, rfl, same_tup R.fh s1, hxs, hk1, h1, fun e => ?_, fun e => ?_⟩)
        · subst e
          refine k _ _ O H F (.refl R) (.tup s1 r1) ?_
          simpa using h
        · have e0 : kk.toNat = 0 := by omega
          rw [e0] at h
          exact fresh_tup (ds := []) R .nil h k
      · exact .inr (.inr ⟨p, kk, xs, rfl, rfl, same_tup R.fh s1, hxs, by omega, hk2, by rw [← r1.length]; exact hl, fresh_tup R (r1.rep _) h k⟩)
def dFdiv : DR2 := dI2 CDiv fun i j => .int (i / j)
theorem sim_fdiv : Sim2 B (rI CDiv fun i j => .int (i / j)) dFdiv := sim_I fun _ _ _ => .int _
def CPowW (i j : Int) : Prop := 0 ≤ j ∧ (Builtin.Int.intBits i : Int) * j ≤ 2 ^ 27
theorem op_powW : OpR X (binaryOp .Pow) (rI CPowW fun i j => .int (i ^ j.toNat)) := opI fun _ _ _ _ _ _ _ hc q => pow_int hc.1 hc.2 q
def dPow : DR2 := dI2 CPowW fun i j => .int (i ^ j.toNat)
theorem sim_pow : Sim2 B (rI CPowW fun i j => .int (i ^ j.toNat)) dPow := sim_I fun _ _ _ => .int _
theorem atI_rv {K : Frag} {F : Hp} {ds : List D} {vs : List V} {i : Int} {d : D} (r : RVs K F ds vs) (h : atI ds i = some d) : ∃ v, atI vs i = some v ∧ RV K F d v := by
  unfold atI at h ⊢
  rw [← r.length]
  cases e : ixN ds.length i with
  | none => rw [e] at h; cases h
  | some j =>
    rw [e] at h
    exact r.get h
def dIx : DR2 := fun x y O q => match x, y with
  | .tup ds, .int i => ∃ d, atI ds i = some d ∧ q d O
  | .str z, .int i => ∃ c, z.length ≤ sizeLine ∧ atI z.cps.toList i = some c ∧ q (.str ⟨#[c]⟩) O
  | x, .int i => ∃ ds d, asL O x = some ds ∧ atI ds i = some d ∧ q d O
  | _, _ => False
abbrev rIxA (K : Frag) : R2 := fun x y H Q => rIxL K x y H Q ∨ (rIxT K x y H Q ∨ rIxS x y H Q)
theorem ix_all : IxR X (rIxA X.K) := ix_list.or (ix_tup.or ix_str)
theorem sim_ix : Sim2 B (rIxA B.K) dIx := by
  intro env O σ H F x y dx dy q Q R rx ry h k
  have hL : ∀ i : Int, dy = .int i → (∃ ds d, asL O dx = some ds ∧ atI ds i = some d ∧ q d O) → rIxA B.K x y H Q := by
    rintro i rfl ⟨ds, d, e1, e2, h⟩
    cases ry
    obtain ⟨p, xs, rfl, s1, r1⟩ := asL_sq R.fh R.ow rx e1
    obtain ⟨v, e3, r⟩ := atI_rv r1 e2
    exact .inl ⟨p, xs, i, v, rfl, rfl, s1, e3, k _ _ O H F (.refl R) r h⟩
  cases dy <;> first | (cases dx <;> exact h.elim) | skip
  rename_i i
  cases dx <;> simp only [dIx] at h <;> try exact hL i rfl h
  · cases rx; cases ry
    obtain ⟨c, hz, e, h⟩ := h
    exact .inr (.inr ⟨_, i, c, rfl, rfl, hz, e, k _ _ O H F (.refl R) (.str _) h⟩)
  · cases ry
    cases rx with
    | tup s1 r1 =>
      obtain ⟨d, e, h⟩ := h
      obtain ⟨v, e3, r⟩ := atI_rv r1 e
      exact .inr (.inl ⟨_, _, i, v, rfl, rfl, same_tup R.fh s1, e3, k _ _ O H F (.refl R) r h⟩)
theorem de_ix {a b : Expr} {ta tb : DTE} (hK : X.K = B.K) (ha : PE X a (lift B ta)) (hb : PE X b (lift B tb)) (hs : PlainIx b) : PE X (.Subscript a b pos) (lift B (dOp dIx ta tb)) :=
  PE.weak (pe_ix ix_all ha hb hs) (by rw [hK]; exact lift_op sim_ix)
def cutD (ds : List D) (lo hi : Option Int) : List D := (ds.drop (HT.sIx ds.length 0 lo)).take (HT.sIx ds.length ds.length hi - HT.sIx ds.length 0 lo)
theorem RVs.cut {K : Frag} {F : Hp} {ds : List D} {vs : List V} (r : RVs K F ds vs) (lo hi : Option Int) : RVs K F (cutD ds lo hi) (cutV vs lo hi) := by
  unfold cutD cutV
  rw [← r.length]
  exact (r.drop _).take _
/-- a part of a slice -/
abbrev DTO := Env → Ow → (Option Int → Ow → Prop) → Prop
def liftO (B : Bd) (t : DTO) : TO := fun σ H Q => ∃ env O F q, Rel B env O σ H F ∧ t env O q ∧ ∀ i O' H' F', After B.K O H F O' H' F' → q i O' → Q i H'
def doNone : DTO := fun _ O q => q none O
def doSome (te : DTE) : DTO := fun env O q => te env O fun d O1 => match d with | .int i => q (some i) O1 | _ => False
theorem PO.weak {e : Option Expr} {t t' : TO} (h : PO X e t) (i : ∀ σ H Q, t' σ H Q → t σ H Q) : PO X e t' := ⟨fun pins s σ H Q I q => h.run pins s σ H Q I (i σ H Q q)⟩
theorem do_none : PO X none (liftO B doNone) := PO.weak po_none fun σ H Q h => by
  obtain ⟨env, O, F, q, R, h, k⟩ := h
  exact k none O H F (.refl R) h
theorem do_some {e : Expr} {te : DTE} (h : PE X e (lift B te)) : PO X (some e) (liftO B (doSome te)) := PO.weak (po_some h) fun σ H Q h => by
  obtain ⟨env, O, F, q, R, h, k⟩ := h
  refine ⟨env, O, F, _, R, h, fun d v O1 H1 F1 a1 r1 h1 => ?_⟩
  cases d <;> try exact h1.elim
  cases r1
  exact ⟨_, rfl, k _ O1 H1 F1 a1 h1⟩
/-- t[lo:hi], what is new being told as it stands -/
def rSlN (K : Frag) : V → Option Int → Option Int → Hp → VK → Prop := fun x lo hi H Q => ∃ a xs, x = .ref a ∧ SqT K H a xs ∧
  (HT.sIx xs.length 0 lo = 0 ∧ HT.sIx xs.length xs.length hi = xs.length → Q (.ref a) H) ∧ (¬ (HT.sIx xs.length 0 lo = 0 ∧ HT.sIx xs.length xs.length hi = xs.length) → NewT (cutV xs lo hi) H Q)
theorem sl_tupN : SlR X (rSlN X.K) := by
  intro pins s σ H x v vl vu lo hi sl Q I rx hs pl pu h
  obtain ⟨a, xs, rfl, hx, q1, q2⟩ := h
  cases rx
  obtain ⟨vs, rv, ht, hz⟩ := I.tuple hx
  have len : vs.toArray.size = xs.length := by rw [List.size_toArray]; exact rv.length.symm
  refine ⟨"tuple", _, slot_tuple_getitem.lookup, ht.typeIs, ?_⟩
  by_cases hw : HT.sIx xs.length 0 lo = 0 ∧ HT.sIx xs.length xs.length hi = xs.length
  · exact getItem_tuple_whole ht hs pl pu (by rw [len]; exact hw) ⟨.ref a, H, I, rfl, q1 hw⟩
  · refine HT.getItem_tuple_cut ht hs pl pu (by rw [len]; exact hw) ?_ (by rw [len]; exact hz)
    rw [len]
    exact Inv.newT_ep (xs := cutV xs lo hi) I ((rv.drop _).take _) (Nat.le_trans (cutV_length xs lo hi) hz) (q2 hw)
def dSl (te : DTE) (tl th : DTO) : DTE := fun env O q => te env O fun x O1 => tl env O1 fun l O2 => th env O2 fun u O3 => match x with
  | .tup ds => q (.tup (cutD ds l u)) O3
  | x => ∃ ds, asL O3 x = some ds ∧ q (.lst (cutD ds l u)) O3
theorem de_slice {e : Expr} {lo hi : Option Expr} {p2 : Pos} {te : DTE} {tl th : DTO} (hK : X.K = B.K) (he : PE X e (lift B te)) (hl : PO X lo (liftO B tl)) (hu : PO X hi (liftO B th)) : PE X (.Subscript e (.Slice lo hi none p2) pos) (lift B (dSl te tl th)) :=
  PE.weak (pe_slice (sl_list.or sl_tupN) he hl hu) fun σ H Q h => by
    obtain ⟨env, O, F, q, R, h, k⟩ := h
    refine ⟨env, O, F, _, R, h, fun x v O1 H1 F1 a1 r1 h1 => ?_⟩
    have R1 := R.call a1
    refine ⟨env, O1, F1, _, R1, h1, fun l O2 H2 F2 a2 h2 => ?_⟩
    have R2 := R1.call a2
    refine ⟨env, O2, F2, _, R2, h2, fun u O3 H3 F3 a3 h3 => ?_⟩
    have R3 := R2.call a3
    have r3 := (r1.mono a2.ff).mono a3.ff
    have k' : ∀ d v O' H' F', After B.K O3 H3 F3 O' H' F' → RV B.K F' d v → q d O' → Q v H' := fun d v O' H' F' a => k d v O' H' F' (a1.trans (a2.trans (a3.trans a)))
    have hL : (∃ ds, asL O3 x = some ds ∧ q (.lst (cutD ds l u)) O3) → rSlL X.K v l u H3 Q := by
      rintro ⟨ds, e1, h3⟩
      obtain ⟨p, xs, rfl, s1, rr⟩ := asL_sq R3.fh R3.ow r3 e1
      exact ⟨p, xs, rfl, by rw [hK]; exact s1, fresh_lst R3 (rr.cut l u) h3 k'⟩
    cases x <;> simp only at h3 <;> try exact .inl (hL h3)
    cases r3 with
    | tup s1 rr =>
      rename_i ds p xs
      refine .inr ⟨p, xs, rfl, by rw [hK]; exact same_tup R3.fh s1, fun hw => ?_, fun _ => fresh_tup R3 (rr.cut l u) h3 k'⟩
      refine k' _ _ O3 H3 F3 (.refl R3) (.tup s1 rr) ?_
      have : cutD ds l u = ds := by
        unfold cutD
        rw [rr.length, hw.1, hw.2, List.drop_zero, Nat.sub_zero, List.take_of_length_le (Nat.le_of_eq rr.length)]
      rw [this] at h3
      exact h3
def SimC (B : Bd) (r : List V → Hp → VK → Prop) (dr : List D → Ow → DQ → Prop) : Prop := ∀ (env : Env) (O : Ow) (σ : St) (H F : Hp) (vs : List V) (ds : List D) (q : DQ) (Q : VK), Rel B env O σ H F → RVs B.K F ds vs → dr ds O q →
  (∀ d v O' H' F', After B.K O H F O' H' F' → RV B.K F' d v → q d O' → Q v H') → r vs H Q
def dCB (dr : List D → Ow → DQ → Prop) (ta : DTA) : DTE := fun env O q => ta env O fun ds O1 => dr ds O1 q
theorem lift_cb {r : List V → Hp → VK → Prop} {dr : List D → Ow → DQ → Prop} {ta : DTA} (s : SimC B r dr) (σ : St) (H : Hp) (Q : VK) (h : lift B (dCB dr ta) σ H Q) : tCB r (liftA B ta) σ H Q := by
  obtain ⟨env, O, F, q, R, h, k⟩ := h
  refine ⟨env, O, F, _, R, h, fun ds vs O1 H1 F1 a1 r1 h1 => ?_⟩
  exact s env O1 σ H1 F1 vs ds q Q (R.call a1) r1 h1 fun d v O' H' F' a => k d v O' H' F' (a1.trans a)
theorem de_cb {e : Expr} {r : List V → Hp → VK → Prop} {dr : List D → Ow → DQ → Prop} {ta : DTA} (s : SimC B r dr) (h : PE X e (tCB r (liftA B ta))) : PE X e (lift B (dCB dr ta)) := PE.weak h (lift_cb s)
def lenD (O : Ow) : D → Option Nat
  | .str x => if x.length ≤ sizeLine then some x.length else none
  | .tup ds => some ds.length
  | d => (asL O d).map List.length
def dLen : List D → Ow → DQ → Prop := fun ds O q => match ds with | [d] => ∃ n, lenD O d = some n ∧ q (.int (n : Int)) O | _ => False
theorem sim_len : SimC B (fun xs H Q => ∃ x n, xs = [x] ∧ LenV B.K x H n ∧ Q (.int (n : Nat)) H) dLen := by
  intro env O σ H F vs ds q Q R r h k
  match ds, r, h with
  | [d], r, ⟨n, e, h⟩ =>
    obtain ⟨v, rfl, r1⟩ := r.one
    refine ⟨v, n, rfl, ?_, k _ _ O H F (.refl R) (.int _) h⟩
    have hL : (asL O d).map List.length = some n → LenV B.K v H n := fun e => by
      cases e2 : asL O d with
      | none => rw [e2] at e; cases e
      | some ds =>
        rw [e2] at e
        cases e
        obtain ⟨p, xs, rfl, s1, rr⟩ := asL_sq R.fh R.ow r1 e2
        exact .inl ⟨xs, s1, rr.length⟩
    cases d <;> simp only [lenD] at e <;> try exact hL e
    · cases r1
      split at e
      · rename_i hz
        cases e
        exact ⟨hz, rfl⟩
      · cases e
    · cases e
      cases r1 with
      | tup s1 rr => exact .inr ⟨_, same_tup R.fh s1, rr.length⟩
def dAbs : List D → Ow → DQ → Prop := fun ds O q => match ds with | [.int i] => q (.int (if i < 0 then -i else i)) O | _ => False
theorem sim_abs : SimC B (fun xs H Q => ∃ i, xs = [.int i] ∧ Q (.int (if i < 0 then -i else i)) H) dAbs := by
  intro env O σ H F vs ds q Q R r h k
  match ds, r, h with
  | [.int i], r, h =>
    obtain ⟨v, rfl, r1⟩ := r.one
    cases r1
    exact ⟨i, rfl, k _ _ O H F (.refl R) (.int _) h⟩
def dMin2 : List D → Ow → DQ → Prop := fun ds O q => match ds with | [.int i, .int j] => q (.int (if j < i then j else i)) O | _ => False
def dMax2 : List D → Ow → DQ → Prop := fun ds O q => match ds with | [.int i, .int j] => q (.int (if j > i then j else i)) O | _ => False
theorem sim_min2 : SimC B (fun xs H Q => ∃ i j, xs = [.int i, .int j] ∧ Q (.int (if j < i then j else i)) H) dMin2 := by
  intro env O σ H F vs ds q Q R r h k
  match ds, r, h with
  | [.int i, .int j], r, h =>
    obtain ⟨v, w, rfl, r, r'⟩ := r.two
    cases r; cases r'
    exact ⟨i, j, rfl, k _ _ O H F (.refl R) (.int _) h⟩
theorem sim_max2 : SimC B (fun xs H Q => ∃ i j, xs = [.int i, .int j] ∧ Q (.int (if j > i then j else i)) H) dMax2 := by
  intro env O σ H F vs ds q Q R r h k
  match ds, r, h with
  | [.int i, .int j], r, h =>
    obtain ⟨v, w, rfl, r, r'⟩ := r.two
    cases r; cases r'
    exact ⟨i, j, rfl, k _ _ O H F (.refl R) (.int _) h⟩
def dInt1 : List D → Ow → DQ → Prop := fun ds O q => match ds with | [.int i] => q (.int i) O | [.bl b] => q (.int (if b then 1 else 0)) O | _ => False
theorem sim_int1 : SimC B (fun xs H Q => (∃ i, xs = [.int i] ∧ Q (.int i) H) ∨ ∃ k, xs = [.bl k] ∧ Q (.int (if k then 1 else 0)) H) dInt1 := by
  intro env O σ H F vs ds q Q R r h k
  match ds, r, h with
  | [.int i], r, h =>
    obtain ⟨v, rfl, r1⟩ := r.one
    cases r1
    exact .inl ⟨i, rfl, k _ _ O H F (.refl R) (.int _) h⟩
  | [.bl i], r, h =>
    obtain ⟨v, rfl, r1⟩ := r.one
    cases r1
    exact .inr ⟨i, rfl, k _ _ O H F (.refl R) (.int _) h⟩
end
end DL
set_option Elab.async false
set_option linter.all false
set_option maxRecDepth 100000
set_option maxHeartbeats 4000000
namespace DL
open PySem PySem.Spec PyProof.Rows L2
section
variable {X : Cx} {B : Bd} {pos : Pos}
def rInA (K : Frag) (neg : Bool) : R2 := fun x y H Q => ∃ d ds, Dp K H x d ∧ (Dp K H y (.list ds) ∨ Dp K H y (.tuple ds)) ∧ SeqAt.shaped d = true ∧ SeqAt.shaped (.list ds) = true ∧ Q (.bl (if neg then !(ds.any fun z => PyData.eqv z d) else ds.any fun z => PyData.eqv z d)) H
theorem op_inA (hu : X.A.units + 65 < cLine) : OpR X (compareOp .In) (rInA X.K false) := by
  intro pins s σ H x y v u Q I rx ry h
  obtain ⟨d, ds, hd, hy, sd, sl, q⟩ := h
  rcases hy with hy | hy
  · exact op_inD hu pins s σ H x y v u Q I rx ry ⟨d, ds, hd, hy, sd, sl, q⟩
  · obtain ⟨as, r1⟩ := Dp.reads I d x v hd rx
    obtain ⟨bs, r2⟩ := Dp.reads I (.tuple ds) y u hy ry
    exact SeqAt.in_tuple_reads r2 r1 (SeqAt.canLay_of_shaped sl) (SeqAt.canLay_of_shaped sd) (room_in_shaped sd hu) ⟨.bl _, H, I, rfl, q⟩
theorem op_notInA (hu : X.A.units + 65 < cLine) : OpR X (compareOp .NotIn) (rInA X.K true) := by
  intro pins s σ H x y v u Q I rx ry h
  obtain ⟨d, ds, hd, hy, sd, sl, q⟩ := h
  rcases hy with hy | hy
  · exact op_notInD hu pins s σ H x y v u Q I rx ry ⟨d, ds, hd, hy, sd, sl, q⟩
  · obtain ⟨as, r1⟩ := Dp.reads I d x v hd rx
    obtain ⟨bs, r2⟩ := Dp.reads I (.tuple ds) y u hy ry
    exact SeqAt.notIn_tuple_reads r2 r1 (SeqAt.canLay_of_shaped sl) (SeqAt.canLay_of_shaped sd) (room_in_shaped sd hu) ⟨.bl _, H, I, rfl, q⟩
/-- the items of a list or a tuple, as plain data -/
def asPs (O : Ow) : D → Option (List PyData)
  | .tup ds => if pds ds = true then some (pys ds) else none
  | d => (asL O d).bind fun ds => if pds ds = true then some (pys ds) else none
def dInG (neg : Bool) : DR2 := fun x y O q => ∃ a ds, asP O x = some a ∧ asPs O y = some ds ∧ SeqAt.shaped a = true ∧ SeqAt.shaped (.list ds) = true ∧ q (.bl (if neg then !(ds.any fun z => PyData.eqv z a) else ds.any fun z => PyData.eqv z a)) O
abbrev dIn := dInG false
abbrev dNotIn := dInG true
theorem asPs_dp {K : Frag} {O : Ow} {H F : Hp} (fh : Same F H) (ow : OwOk K O H F) {d : D} {v : V} {a : List PyData} (r : RV K F d v) (h : asPs O d = some a) : Dp K H v (.list a) ∨ Dp K H v (.tuple a) := by
  have hL : ((asL O d).bind fun ds => if pds ds = true then some (pys ds) else none) = some a → Dp K H v (.list a) := fun h => by
    cases e : asL O d with
    | none => rw [e] at h; cases h
    | some ds =>
      rw [e] at h
      simp only [Option.bind_some] at h
      split at h
      · rename_i e2
        cases h
        obtain ⟨p, xs, rfl, s1, rr⟩ := asL_sq fh ow r e
        exact .lst s1 (rr.dp fh e2)
      · cases h
  cases d <;> simp only [asPs] at h <;> try exact .inl (hL h)
  split at h
  · rename_i e2
    cases h
    cases r with
    | tup s1 rr => exact .inr (.tup (same_tup fh s1) (rr.dp fh e2))
  · cases h
theorem sim_in {neg : Bool} : Sim2 B (rInA B.K neg) (dInG neg) := by
  intro env O σ H F x y dx dy q Q R rx ry h k
  obtain ⟨a, ds, e1, e2, s1, s2, h⟩ := h
  exact ⟨a, ds, asP_dp R.fh R.ow rx e1, asPs_dp R.fh R.ow ry e2, s1, s2, k _ _ O H F (.refl R) (.bl _) h⟩
def asS (O : Ow) : D → Option (List D)
  | .tup ds => some ds
  | d => asL O d
theorem asS_sq {K : Frag} {O : Ow} {H F : Hp} (fh : Same F H) (ow : OwOk K O H F) {d : D} {v : V} {ds : List D} (r : RV K F d v) (h : asS O d = some ds) : ∃ a xs, v = .ref a ∧ (SqL K H a xs ∨ SqT K H a xs) ∧ RVs K F ds xs := by
  have hL : asL O d = some ds → ∃ a xs, v = .ref a ∧ (SqL K H a xs ∨ SqT K H a xs) ∧ RVs K F ds xs := fun h => by
    obtain ⟨p, xs, e, s1, rr⟩ := asL_sq fh ow r h
    exact ⟨p, xs, e, .inl s1, rr⟩
  cases d <;> simp only [asS] at h <;> try exact hL h
  cases h
  cases r with
  | tup s1 rr => exact ⟨_, _, rfl, .inr (same_tup fh s1), rr⟩
def dList1 : List D → Ow → DQ → Prop := fun ds O q => match ds with | [d] => ∃ es, asS O d = some es ∧ q (.lst es) O | _ => False
def dTuple1 : List D → Ow → DQ → Prop := fun ds O q => match ds with | [d] => ∃ es, asS O d = some es ∧ q (.tup es) O | _ => False
theorem sim_list1 : SimC B (fun xs H Q => ∃ p ys, xs = [.ref p] ∧ (SqL B.K H p ys ∨ SqT B.K H p ys) ∧ ∀ l, H l = none → Q (.ref l) (upd H l (.lst ys))) dList1 := by
  intro env O σ H F vs ds q Q R r h k
  match ds, r, h with
  | [d], r, ⟨es, e, h⟩ =>
    obtain ⟨v, rfl, r1⟩ := r.one
    obtain ⟨p, xs, rfl, s1, rr⟩ := asS_sq R.fh R.ow r1 e
    exact ⟨p, xs, rfl, s1, fresh_lst R rr h k⟩
/-- tuple(x), what is new being told as it stands -/
theorem call_tupleN {X : Cx} : CallR X (.type "tuple") (fun xs H Q => ∃ p ys, xs = [.ref p] ∧ ((SqL X.K H p ys ∧ NewT ys H Q) ∨ (SqT X.K H p ys ∧ Q (.ref p) H))) := by
  intro pins s σ H xs us Q I r h
  obtain ⟨p, ys, rfl, h⟩ := h
  obtain ⟨u, rfl, rx⟩ := vals1 r
  cases rx
  rcases h with ⟨sq, q⟩ | ⟨sq, q⟩
  · obtain ⟨vs, rv, pl, hz⟩ := I.list sq
    refine call_tuple_list pl.isList (fun h' kp => ?_) (by rw [List.size_toArray, ← rv.length]; exact hz)
    exact Inv.newT_ep (t' := s.toks) (show Inv X pins σ H { s with heap := h' } from I.kept (t' := s.toks) kp) rv hz q
  · obtain ⟨vs, rv, pl, hz⟩ := I.tuple sq
    exact call_tuple_same pl ⟨.ref p, H, I, rfl, q⟩
theorem sim_tuple1 : SimC B (fun xs H Q => ∃ p ys, xs = [.ref p] ∧ ((SqL B.K H p ys ∧ NewT ys H Q) ∨ (SqT B.K H p ys ∧ Q (.ref p) H))) dTuple1 := by
  intro env O σ H F vs ds q Q R r h k
  match ds, r, h with
  | [d], r, ⟨es, e, h⟩ =>
    obtain ⟨v, rfl, r1⟩ := r.one
    have hL : asL O d = some es → ∃ p ys, [v] = [.ref p] ∧ ((SqL B.K H p ys ∧ NewT ys H Q) ∨ (SqT B.K H p ys ∧ Q (.ref p) H)) := fun e => by
      obtain ⟨p, xs, rfl, s1, rr⟩ := asL_sq R.fh R.ow r1 e
      exact ⟨p, xs, rfl, .inl ⟨s1, fresh_tup R rr h k⟩⟩
    cases d <;> simp only [asS] at e <;> try exact hL e
    cases e
    cases r1 with
    | tup s1 rr => exact ⟨_, _, rfl, .inr ⟨same_tup R.fh s1.sq, k _ _ O H F (.refl R) (.tup s1 rr) h⟩⟩
/-- list(range(..)) -/
def dListRg1 (ta : DTE) : DTE := fun env O q => ta env O fun d O1 => match d with | .int n => RgOk 0 n ∧ q (.lst (rgD 0 n)) O1 | _ => False
abbrev srtD (ds : List D) : List D := ds.mergeSort (PySem.W.dataLe false py)
def rRepr (K : Frag) : List V → Hp → VK → Prop := fun xs H Q => ∃ v d, xs = [v] ∧ Dp K H v d ∧ d.showable = true ∧ d.depth ≤ 64 ∧ d.shown.length ≤ sizeLine ∧ Q (.str d.shown) H
theorem dp_noDict {K : Frag} {H : Hp} : ∀ {v : V} {d : PyData}, Dp K H v d → d.hasDict = false := by
  intro v d h
  exact Dp.rec (motive_1 := fun _ d _ => d.hasDict = false) (motive_2 := fun _ ds _ => PyData.hasDictAll ds = false) (by simp [PyData.hasDict]) (fun _ => by simp [PyData.hasDict]) (fun _ => by simp [PyData.hasDict]) (fun _ => by simp [PyData.hasDict])
    (fun _ _ ih => by simpa [PyData.hasDict] using ih) (fun _ _ ih => by simpa [PyData.hasDict] using ih) (by simp [PyData.hasDictAll]) (fun _ _ i1 i2 => by simp [PyData.hasDictAll, i1, i2]) h
theorem cr_repr (hgd : X.A.guards = some []) (hu : X.A.units + 66 < cLine) : CallR X (.builtin "repr") (rRepr X.K) := by
  intro pins s σ H xs us Q I r h
  obtain ⟨v, d, rfl, hd, hs, hdp, hz, q⟩ := h
  obtain ⟨u, rfl, ru⟩ := vals1 r
  have hnd := dp_noDict hd
  cases v with
  | ref a =>
    cases ru
    obtain ⟨as, rd⟩ := Dp.reads I d _ _ hd rfl
    exact repr_of_reads' rd hs (PyData.noDict_hsm hnd) hgd (by omega) (fun _ _ e => e) (fun h' u tk hk => ⟨.str _, H, I.kept hk, ⟨_, rfl⟩, q⟩) hz
  | non => cases hd; cases ru; exact PySem.P.repr_of_none ⟨.str _, H, I.tok _, ⟨_, rfl⟩, by simpa [PyData.shown] using q⟩
  | bl b => cases hd; cases ru; exact PySem.P.repr_of_bool ⟨.str _, H, I.tok _, ⟨_, rfl⟩, by simpa [PyData.shown] using q⟩
  | int i => cases hd; obtain ⟨t, rfl⟩ := ru; exact PySem.P.repr_of_int (by simpa [PyData.showable] using hs) ⟨.str _, H, I.tok _, ⟨_, rfl⟩, by simpa [PyData.shown] using q⟩
  | str i => cases hd; obtain ⟨t, rfl⟩ := ru; exact PySem.P.repr_of_str ⟨.str _, H, I.tok _, ⟨_, rfl⟩, by simpa [PyData.shown] using q⟩ (by simpa [PyData.shown] using hz)
  | byt _ => cases hd
  | flt _ => cases hd
  | ty _ => cases hd
def dRepr : List D → Ow → DQ → Prop := fun ds O q => match ds with
  | [d] => ∃ a, asP O d = some a ∧ a.showable = true ∧ a.depth ≤ 64 ∧ a.shown.length ≤ sizeLine ∧ q (.str a.shown) O
  | _ => False
theorem sim_repr : SimC B (rRepr B.K) dRepr := by
  intro env O σ H F vs ds q Q R r h k
  match ds, r, h with
  | [d], r, ⟨a, e, h1, h2, h3, h⟩ =>
    obtain ⟨v, rfl, r1⟩ := r.one
    exact ⟨v, a, rfl, asP_dp R.fh R.ow r1 e, h1, h2, h3, k _ _ O H F (.refl R) (.str _) h⟩
def dAppend (to : DTE) (ta : DTA) : DTE := fun env O q => to env O fun x O1 => match x with
  | .ref p => ∃ es, O1 p = some (.lst es) ∧ ta env O1 fun ds O2 => match ds with | [d] => O2 p = some (.lst es) ∧ es.length < sizeLine ∧ q .non (setO O2 p (.lst (es ++ [d]))) | _ => False
  | _ => False
theorem de_append {e : Expr} {to : DTE} {ta : DTA} (hK : X.K = B.K) (h : PE X e (tBM X.K "list" rAppend (lift B to) (liftA B ta))) : PE X e (lift B (dAppend to ta)) := PE.weak h fun σ H Q h => by
  obtain ⟨env, O, F, q, R, h, k⟩ := h
  refine ⟨env, O, F, _, R, h, fun x v O1 H1 F1 a1 r1 h1 => ?_⟩
  cases x <;> try exact h1.elim
  rename_i p
  cases r1
  obtain ⟨es, e1, h1⟩ := h1
  obtain ⟨_, ho, e2, vs, rfl, rr⟩ := a1.ow p _ e1
  have R1 := R.call a1
  refine ⟨.inl ⟨rfl, vs, SqL.of e2⟩, env, O1, F1, _, R1, h1, fun ds us O2 H2 F2 a2 r2 h2 => ?_⟩
  match ds, r2, h2 with
  | [d], r2, ⟨e3, hz, h2⟩ =>
    obtain ⟨u, rfl, ru⟩ := r2.one
    obtain ⟨_, ho, e4, vs2, rfl, rr2⟩ := a2.ow p _ e3
    refine ⟨p, vs2, u, rfl, rfl, e4, by rw [← rr2.length]; exact hz, ?_⟩
    exact k _ _ _ _ F2 (a1.trans (a2.trans ((R1.call a2).put e3 (u := .lst (es ++ [d])) ⟨_, rfl, rr2.append (.cons ru .nil)⟩))) .non h2
/-- o[i] = v, o a list of one's own -/
def dgSub (to ti : DTE) : DTG := fun d env O q => to env O fun x O1 => ti env O1 fun y O2 => match x, y with
  | .ref p, .int i => ∃ es j, O2 p = some (.lst es) ∧ ixN es.length i = some j ∧ q env (setO O2 p (.lst (es.set j d)))
  | _, _ => False
theorem dg_sub {tg : Expr} {to ti : DTE} (h : PG X tg (gSub (lift B to) (lift B ti) rSetL)) : PG X tg (liftG B (dgSub to ti)) := PG.weak h fun v σ H Q h => by
  obtain ⟨d, env, O, F, q, R, r, h, k⟩ := h
  refine ⟨env, O, F, _, R, h, fun x xv O1 H1 F1 a1 r1 h1 => ?_⟩
  have R1 := R.call a1
  refine ⟨env, O1, F1, _, R1, h1, fun y yv O2 H2 F2 a2 r2 h2 => ?_⟩
  cases x <;> cases y <;> try exact h2.elim
  cases r1; cases r2
  rename_i p i
  obtain ⟨es, j, e1, e2, h2⟩ := h2
  obtain ⟨_, ho, e3, vs, rfl, rr⟩ := a2.ow p _ e1
  have r' := (r.mono a1.ff).mono a2.ff
  have a3 := (R1.call a2).put e1 (u := .lst (es.set j d)) ⟨vs.set j v, rfl, rr.set r' j⟩
  exact ⟨p, vs, i, j, rfl, rfl, e3, by rw [← rr.length]; exact e2, k _ _ _ _ _ (a1.trans (a2.trans a3)) (((R.sl.mono a1.ff).mono a2.ff).mono a3.ff) h2⟩
end
section
variable {P : Program} {w : World} {K : Frag} {mg : Str → Option Value} {base : Heap}
/-- at a def's end some of the ghost heap may be forgotten -/
def rtK (q : DQ) : DQ := fun d O => ∃ o2, SubO o2 O ∧ q d o2
theorem rt_same {q : DQ} {d : D} {O : Ow} (h : q d O) : rtK q d O := ⟨O, .refl O, h⟩
/-- what a body's walk may lean on -/
structure Site (X : Cx) (B : Bd) (k : Nat) (wx : DW) : Prop where
  hK : X.K = B.K
  gd : X.A.guards = some []
  rm : Room k X.A
  tk : TakesD X B wx
  po : PassesOwn (model X.prog X.w) X.A X.env X.xe
theorem fn_DD {x qual : Str} {params : Arguments} {body : List Stmt} {scope : Scope} {dvs : List V} {kws : List (Str × V)} {f : Addr} {fd : FuncData} {N ps : List Str} {n k : Nat} {fn : DF} (F : FunD K x qual params body scope dvs kws f fd) (S : FnScope N ps scope) (hn : ps.length = n)
    (hb : ∀ (cdv : Value) (A : Around) (outer : List PySem.Env) (s : Shared) (H : Hp) (E : XK) (O0 : Ow) (H0 F0 : Hp) (ds : List D) (O : Ow) (q : DQ) (xx : DX), ds.length = n → fn ds O q xx →
      Site (cxOf (L2.CX P w) P w K mg base N qual scope f cdv A outer s H E) ⟨K, O0, H0, F0⟩ k (fun c fs _ O => xx c fs O) →
      ∃ t : DTS, PSs (cxOf (L2.CX P w) P w K mg base N qual scope f cdv A outer s H E) body (liftS ⟨K, O0, H0, F0⟩ t) ∧ t { nx := fun _ O' => rtK q .non O', rt := rtK q } (envOf N.length ds) O) :
    FnG P w K mg base (L2.CX P w) (k + 1) f fd ps (spD K n fn) := by
  refine FnG.ofFunD F S (spD_len hn) fun cdv A outer s H vs Q E hg hr h => ?_
  obtain ⟨F0, O, ds, q, xx, fh, ow, rv, hl, hf, k1, k2⟩ := h
  obtain ⟨t, ht, hq⟩ := hb cdv A outer s H E O H F0 ds O q xx hl hf ⟨rfl, hg, hr, (takes_of rfl rfl rfl rfl).imp fun c d σ H' z => by
    obtain ⟨env, O', F', fs, R, xr, hx⟩ := z
    exact k2 c d fs O' H' F' R.af xr hx, passes_of rfl⟩
  refine ⟨_, ht, envOf N.length ds, O, F0, _, rel_start fh ow rv, hq, ⟨fun env' O' σ' H' F' a _ ⟨o2, sb, z⟩ => k1 .non .non o2 H' F' (a.weak sb) .non z, fun x v O' H' F' a r ⟨o2, sb, z⟩ => k1 x v o2 H' F' (a.weak sb) r z, fun _ _ _ _ _ _ _ z => z.elim, fun _ _ _ _ _ _ _ z => z.elim⟩⟩
end
end DL
set_option Elab.async false
set_option linter.all false
set_option maxRecDepth 100000
set_option maxHeartbeats 4000000
namespace DL
open PySem PySem.Spec PyProof.Rows L2
/-- the script alone is tracked, and known -/
def scrH (K : Frag) (a : Addr) (vs : List Value) (ns : List Int) : Hp := fun b => if b = a ∧ K.lookup a = none then some (.frz { cls := .type "list", data := .seq vs.toArray } (.lst (ns.map V.int))) else none
theorem scrH_some {K : Frag} {a b : Addr} {vs : List Value} {ns : List Int} {o : HO} (e : scrH K a vs ns b = some o) : b = a ∧ K.lookup a = none ∧ o = .frz { cls := .type "list", data := .seq vs.toArray } (.lst (ns.map V.int)) := by
  unfold scrH at e
  split at e
  · rename_i h
    exact ⟨h.1, h.2, (Option.some.inj e).symm⟩
  · cases e
theorem law_G {P : Program} {w : World} {K : Frag} {mg mb : Str → Option Value} {k : Nat} {fa a : Addr} {fd : FuncData} {x : Str} {fn : DF} {t : Shared} {vs : List Value} {ns : List Int}
    (kin : K.In t.heap) (gl : t.heap.Ns mainGlobals mg) (bl : t.heap.Ns builtinsNs mb) (bb : ∀ x : Str, x ≠ "__name__" → mb x = bootBuiltins x) (lim : t.heap.NoLimit) (gens : t.gens = #[])
    (scr : t.heap.get? a = some { cls := .type "list", data := .seq vs.toArray }) (hin : IntsAre vs ns) (short : ns.length ≤ sizeLine) (room : Room k callerA)
    (F : ∀ base : Heap, K.In base → base.Ns mainGlobals mg → FnG P w K mg base (L2.CX P w) k fa fd [x] (spD K 1 fn)) (bind : ∀ (s : Shared) (u : Value), BindsTo s fd ⟨[u], []⟩ [(x, u)])
    (hfn : fn [.lst (ns.map D.int)] (fun _ => none) (fun d _ => d = .bl true) (fun _ _ _ => False)) :
    codeAny (model P w) callerA (.call (.ref fa) ⟨[.ref a], []⟩) (fun r s' => r = .ok (.ret (.bool true)) ∧ OldK t.heap s'.heap ∧ s'.os = t.os ∧ AllBare s'.gens) t := by
  let H := scrH K a vs ns
  have vals : Vals (ns.map V.int) vs := vals_ints hin
  have hlen := hin.length
  have dat : ∀ {b : Addr} {o : Obj} {es : Array DictEntry} {ep : Nat}, t.heap.get? b = some o → o.data = .dict es ep → H b = none := by
    intro b o es ep e de
    cases z : H b with
    | none => rfl
    | some u =>
      obtain ⟨rfl, _, _⟩ := scrH_some z
      rw [scr] at e
      cases e
      cases de
  have nsOf : ∀ {b : Addr} {m : Str → Option Value}, t.heap.Ns b m → (hidT t.heap H).Ns b m := by
    rintro b m ⟨o, es, ep, e, de, rest⟩
    exact ⟨o, es, ep, hidT_get e (dat e de), de, rest⟩
  have kB : K.In (hidT t.heap H) := by
    intro b o e
    refine hidT_get (kin b o e) ?_
    cases z : H b with
    | none => rfl
    | some u =>
      obtain ⟨rfl, kn, _⟩ := scrH_some z
      rw [kn] at e; cases e
  have hok : HOk P w H t.heap := by
    intro b o e
    obtain ⟨rfl, _, rfl⟩ := scrH_some e
    exact ⟨scr, by simpa using short, vs, _, vals, scr⟩
  have m0 : Mod K mg (hidT t.heap H) := by
    obtain ⟨mc, l1, l2⟩ := lim
    exact ⟨kB, nsOf gl, ⟨mb, nsOf bl, bb⟩, ⟨mc, nsOf l1, l2⟩⟩
  have e0 : Env0 P w K mg (hidT t.heap H) callerA [] t H :=
    ⟨rfl, m0, fun b o e => of_hidT e, Nat.le_of_eq (hidT_size _ _), trivial, fun b z => absurd (show b ∈ ([] : List Addr) from z) (by simp), hok, .of_eq gens⟩
  have sq : SqL K H a (ns.map V.int) := by
    cases hk : K.lookup a with
    | none => exact .inl (.inr ⟨_, if_pos ⟨rfl, hk⟩⟩)
    | some o =>
      have e := kin a o hk
      rw [scr] at e
      cases e
      exact .inr ⟨_, vs.toArray, _, hk, rfl, rfl, rfl, by rw [List.size_toArray, hlen]; exact short, by simpa using vals⟩
  have rvs : ∀ l : List Int, RVs K H (l.map D.int) (l.map V.int) := by
    intro l
    induction l with
    | nil => exact .nil
    | cons i l ih => exact .cons (.int i) ih
  have hsp : spD K 1 fn [.ref a] H (fun v _ => v = .bl true) (fun _ _ _ => False) := by
    refine ⟨H, fun _ => none, [.lst (ns.map D.int)], _, _, Same.refl _, (fun p o z => by cases z), .cons (.lst sq (rvs ns)) .nil, rfl, hfn, fun d v O' H' F' _ r z => ?_, fun _ _ _ _ _ _ _ _ z => z⟩
    subst z
    cases r
    rfl
  refine codeAny_mono ((F _ kB (nsOf gl)).run callerA [] t H ⟨[.ref a], []⟩ [.ref a] [.ref a] _ _ rfl room e0 (bind t (.ref a)) (.cons rfl .nil) hsp) ?_
  intro r s' z
  match r, z with
  | .error e, z =>
    obtain ⟨_, _, _, _, _, _, _, _, _, _, _, _, z⟩ := z
    exact z.elim
  | .ok .next, z => exact False.elim z
  | .ok .brk, z => exact False.elim z
  | .ok .cont, z => exact False.elim z
  | .ok (.ret u), z =>
    obtain ⟨v, H', os, bare, un, hok', rv, q⟩ := z
    have q' : v = .bl true := q
    subst q'
    obtain rfl : u = Value.bool true := rv
    refine ⟨rfl, OldK.of_keep fun b o e => ?_, os, bare⟩
    cases z : H b with
    | none => exact un.keep b o e z (fun y => absurd (show b ∈ ([] : List Addr) from y) (by simp)) (by simp)
    | some y =>
      obtain ⟨rfl, _, rfl⟩ := scrH_some z
      have y2 := (hok' _ _ (un.frzs _ _ _ z)).1
      rw [scr] at e
      cases e
      exact y2
end DL
set_option Elab.async false
set_option linter.all false
set_option maxRecDepth 100000
set_option maxHeartbeats 4000000
namespace DL
open PySem PySem.Spec PyProof.Rows L2
section
variable {X : Cx} {B : Bd} {pos : Pos} {k : Nat} {wx : DW} {a b c : Expr} {ta tb tc : DTE}
theorem Site.blk (S : Site X B k wx) {s : Shared} {H : Hp} {scope : Scope} {cenv : PySem.Env} {fp : List Addr} : Site (X.blk s H scope cenv fp) B k w0 := ⟨S.hK, S.gd, S.rm, takesD0, PassesOwn.never⟩
theorem so_eq (S : Site X B k wx) (ha : PE X a (lift B ta)) (hb : PE X b (lift B tb)) : PE X (.Compare a [.Eq] [b] pos) (lift B (dOp dEq ta tb)) := de_cmp (op_eqD S.rm.units) (by rw [S.hK]; exact sim_eq) ha hb (nomark _)
theorem so_ne (S : Site X B k wx) (ha : PE X a (lift B ta)) (hb : PE X b (lift B tb)) : PE X (.Compare a [.NotEq] [b] pos) (lift B (dOp dNe ta tb)) := de_cmp (op_neD S.rm.units) (by rw [S.hK]; exact sim_ne) ha hb (nomark _)
theorem so_lt (S : Site X B k wx) (ha : PE X a (lift B ta)) (hb : PE X b (lift B tb)) : PE X (.Compare a [.Lt] [b] pos) (lift B (dOp dLt ta tb)) := de_cmp op_lt sim_lt ha hb (nomark _)
theorem so_gt (S : Site X B k wx) (ha : PE X a (lift B ta)) (hb : PE X b (lift B tb)) : PE X (.Compare a [.Gt] [b] pos) (lift B (dOp dGt ta tb)) := de_cmp op_gt sim_gt ha hb (nomark _)
theorem so_ge (S : Site X B k wx) (ha : PE X a (lift B ta)) (hb : PE X b (lift B tb)) : PE X (.Compare a [.GtE] [b] pos) (lift B (dOp dGe ta tb)) := de_cmp op_ge sim_ge ha hb (nomark _)
theorem Site.u65 (S : Site X B k wx) : X.A.units + 65 < cLine := by have := S.rm.un; omega
theorem Site.u66 (S : Site X B k wx) : X.A.units + 66 < cLine := by have := S.rm.un; omega
theorem so_in (S : Site X B k wx) (ha : PE X a (lift B ta)) (hb : PE X b (lift B tb)) (hm : behindInMarks .In b = false := by rfl) : PE X (.Compare a [.In] [b] pos) (lift B (dOp dIn ta tb)) := de_cmp (op_inA S.u65) (by rw [S.hK]; exact sim_in) ha hb hm
theorem st_eq (S : Site X B k wx) (ha : PE X a (lift B ta)) (hb : PE X b (lift B tb)) : PT X (.Compare a [.Eq] [b] pos) (liftT B (dTest (dOp dEq ta tb))) := dt_cmp (op_eqD S.rm.units) (by rw [S.hK]; exact sim_eq) ha hb (nomark _)
theorem st_ne (S : Site X B k wx) (ha : PE X a (lift B ta)) (hb : PE X b (lift B tb)) : PT X (.Compare a [.NotEq] [b] pos) (liftT B (dTest (dOp dNe ta tb))) := dt_cmp (op_neD S.rm.units) (by rw [S.hK]; exact sim_ne) ha hb (nomark _)
theorem st_lt (S : Site X B k wx) (ha : PE X a (lift B ta)) (hb : PE X b (lift B tb)) : PT X (.Compare a [.Lt] [b] pos) (liftT B (dTest (dOp dLt ta tb))) := dt_cmp op_lt sim_lt ha hb (nomark _)
theorem st_le (S : Site X B k wx) (ha : PE X a (lift B ta)) (hb : PE X b (lift B tb)) : PT X (.Compare a [.LtE] [b] pos) (liftT B (dTest (dOp dLe ta tb))) := dt_cmp op_le sim_le ha hb (nomark _)
theorem st_gt (S : Site X B k wx) (ha : PE X a (lift B ta)) (hb : PE X b (lift B tb)) : PT X (.Compare a [.Gt] [b] pos) (liftT B (dTest (dOp dGt ta tb))) := dt_cmp op_gt sim_gt ha hb (nomark _)
theorem st_ge (S : Site X B k wx) (ha : PE X a (lift B ta)) (hb : PE X b (lift B tb)) : PT X (.Compare a [.GtE] [b] pos) (liftT B (dTest (dOp dGe ta tb))) := dt_cmp op_ge sim_ge ha hb (nomark _)
theorem st_is (S : Site X B k wx) (ha : PE X a (lift B ta)) (hb : PE X b (lift B tb)) : PT X (.Compare a [.Is] [b] pos) (liftT B (dTest (dOp dIsN ta tb))) := dt_cmp op_isN sim_isN ha hb (nomark _)
theorem st_isnot (S : Site X B k wx) (ha : PE X a (lift B ta)) (hb : PE X b (lift B tb)) : PT X (.Compare a [.IsNot] [b] pos) (liftT B (dTest (dOp dNotN ta tb))) := dt_cmp op_notN sim_notN ha hb (nomark _)
theorem st_in (S : Site X B k wx) (ha : PE X a (lift B ta)) (hb : PE X b (lift B tb)) (hm : behindInMarks .In b = false := by rfl) : PT X (.Compare a [.In] [b] pos) (liftT B (dTest (dOp dIn ta tb))) := dt_cmp (op_inA S.u65) (by rw [S.hK]; exact sim_in) ha hb hm
theorem st_notin (S : Site X B k wx) (ha : PE X a (lift B ta)) (hb : PE X b (lift B tb)) (hm : behindInMarks .NotIn b = false := by rfl) : PT X (.Compare a [.NotIn] [b] pos) (liftT B (dTest (dOp dNotIn ta tb))) := dt_cmp (op_notInA S.u65) (by rw [S.hK]; exact sim_in) ha hb hm
theorem so_add (S : Site X B k wx) (ha : PE X a (lift B ta)) (hb : PE X b (lift B tb)) : PE X (.BinOp a .Add b pos) (lift B (dOp dAdd ta tb)) := de_op op_addA (by rw [S.hK]; exact sim_add) ha hb
theorem so_sub (S : Site X B k wx) (ha : PE X a (lift B ta)) (hb : PE X b (lift B tb)) : PE X (.BinOp a .Sub b pos) (lift B (dOp dSub ta tb)) := de_op op_sub sim_sub ha hb
theorem so_mul (S : Site X B k wx) (ha : PE X a (lift B ta)) (hb : PE X b (lift B tb)) : PE X (.BinOp a .Mult b pos) (lift B (dOp dMul ta tb)) := de_op op_mulA (by rw [S.hK]; exact sim_mul) ha hb
theorem so_fdiv (S : Site X B k wx) (ha : PE X a (lift B ta)) (hb : PE X b (lift B tb)) : PE X (.BinOp a .FloorDiv b pos) (lift B (dOp dFdiv ta tb)) := de_op op_fdiv sim_fdiv ha hb
theorem so_mod (S : Site X B k wx) (ha : PE X a (lift B ta)) (hb : PE X b (lift B tb)) : PE X (.BinOp a .Mod b pos) (lift B (dOp dMod ta tb)) := de_op op_mod sim_mod ha hb
theorem so_pow (S : Site X B k wx) (ha : PE X a (lift B ta)) (hb : PE X b (lift B tb)) : PE X (.BinOp a .Pow b pos) (lift B (dOp dPow ta tb)) := de_op op_powW sim_pow ha hb
def dNeg (ta : DTE) : DTE := fun env O q => ta env O fun x O1 => match x with | .int i => q (.int (-i)) O1 | _ => False
theorem so_neg (S : Site X B k wx) (ha : PE X a (lift B ta)) : PE X (.UnaryOp .USub a pos) (lift B (dNeg ta)) := PE.weak (pe_un un_neg ha) fun σ H Q h => by
  obtain ⟨env, O, F, q, R, h, kk⟩ := h
  refine ⟨env, O, F, _, R, h, fun d v O1 H1 F1 a1 r1 h1 => ?_⟩
  cases d <;> try exact h1.elim
  cases r1
  exact ⟨_, rfl, kk _ _ O1 H1 F1 a1 (.int _) h1⟩
theorem so_ix (S : Site X B k wx) (ha : PE X a (lift B ta)) (hb : PE X b (lift B tb)) (hs : PlainIx b) : PE X (.Subscript a b pos) (lift B (dOp dIx ta tb)) := de_ix S.hK ha hb hs
def dChain (r r' : DR2) (ta tb tc : DTE) : DTE := fun env O q => ta env O fun x O1 => tb env O1 fun y O2 => r x y O2 fun z O3 => match z with
  | .bl true => tc env O3 fun u O4 => r' y u O4 q
  | .bl false => q (.bl false) O3
  | _ => False
theorem lift_chain {r r' : R2} {dr dr' : DR2} (s : Sim2 B r dr) (s' : Sim2 B r' dr') (σ : St) (H : Hp) (Q : VK) (h : lift B (dChain dr dr' ta tb tc) σ H Q) : tChain r r' (lift B ta) (lift B tb) (lift B tc) σ H Q := by
  obtain ⟨env, O, F, q, R, h, k⟩ := h
  refine ⟨env, O, F, _, R, h, fun dx x O1 H1 F1 a1 r1 h1 => ?_⟩
  have R1 := R.call a1
  refine ⟨env, O1, F1, _, R1, h1, fun dy y O2 H2 F2 a2 r2 h2 => ?_⟩
  have R2 := R1.call a2
  refine s env O2 σ H2 F2 x y dx dy _ _ R2 (r1.mono a2.ff) r2 h2 fun d v O3 H3 F3 a3 r3 h3 => ?_
  have R3 := R2.call a3
  have b3 := a1.trans (a2.trans a3)
  cases d <;> try exact h3.elim
  rename_i bb
  cases r3
  cases bb with
  | true => exact ⟨true, rfl, iteT ⟨env, O3, F3, _, R3, h3, fun du u O4 H4 F4 a4 r4 h4 => s' env O4 σ H4 F4 y u dy du q Q (R3.call a4) ((r2.mono a3.ff).mono a4.ff) r4 h4 fun d v O' H' F' a' => k d v O' H' F' (b3.trans (a4.trans a'))⟩⟩
  | false => exact ⟨false, rfl, iteF (k _ _ O3 H3 F3 b3 (.bl _) h3)⟩
theorem so_chain {op op' : CmpOp} {r r' : R2} {dr dr' : DR2} (ho : OpR X (compareOp op) r) (s : Sim2 B r dr) (ho' : OpR X (compareOp op') r') (s' : Sim2 B r' dr') (ha : PE X a (lift B ta)) (hb : PE X b (lift B tb)) (hc : PE X c (lift B tc))
    (hm : lastMarks [op, op'] [b, c] = false := by with_unfolding_all rfl) : PE X (.Compare a [op, op'] [b, c] pos) (lift B (dChain dr dr' ta tb tc)) := PE.weak (pe_chain ho ho' ha hb hc hm) (lift_chain s s')
theorem st_chain {op op' : CmpOp} {r r' : R2} {dr dr' : DR2} (ho : OpR X (compareOp op) r) (s : Sim2 B r dr) (ho' : OpR X (compareOp op') r') (s' : Sim2 B r' dr') (ha : PE X a (lift B ta)) (hb : PE X b (lift B tb)) (hc : PE X c (lift B tc))
    (hm : lastMarks [op, op'] [b, c] = false := by with_unfolding_all rfl) : PT X (.Compare a [op, op'] [b, c] pos) (liftT B (dTest (dChain dr dr' ta tb tc))) :=
  PT.weak (pt_chain ho ho' ha hb hc hm) fun σ H Q h => tTest_mono (lift_chain s s') σ H Q (lift_test σ H Q h)
def truD (O : Ow) : D → Option Bool
  | .non => some false
  | .bl b => some b
  | .int i => some (i != 0)
  | .str x => if x.length ≤ sizeLine then some (x.length != 0) else none
  | .tup ds => some (!ds.isEmpty)
  | .ty _ => none
  | d => (asL O d).map fun ds => !ds.isEmpty
def dTru (t : DTE) : DTT := fun env O q => t env O fun x O' => ∃ k, truD O' x = some k ∧ q k O'
theorem isEmpty_rv {K : Frag} {F : Hp} {ds : List D} {vs : List V} (r : RVs K F ds vs) : ds.isEmpty = vs.isEmpty := by cases r <;> rfl
theorem tru_v {K : Frag} {O : Ow} {H F : Hp} (fh : Same F H) (ow : OwOk K O H F) {d : D} {v : V} {b : Bool} (r : RV K F d v) (e : truD O d = some b) : TruV K v H b := by
  have hL : ((asL O d).map fun ds => !ds.isEmpty) = some b → TruV K v H b := fun e => by
    cases e2 : asL O d with
    | none => rw [e2] at e; cases e
    | some ds =>
      rw [e2] at e
      cases e
      obtain ⟨p, xs, rfl, s1, rr⟩ := asL_sq fh ow r e2
      exact .inl ⟨xs, s1, by show (!ds.isEmpty) = _; rw [isEmpty_rv rr]⟩
  cases d <;> simp only [truD] at e <;> try exact hL e
  · cases r; cases e; rfl
  · cases r; cases e; rfl
  · cases r; cases e; rfl
  · cases r
    split at e
    · rename_i hz
      cases e
      refine ⟨hz, ?_⟩
      rw [Bool.eq_iff_iff]
      simp
    · cases e
  · cases e
    cases r with
    | tup s1 rr => exact .inr (.inl ⟨_, same_tup fh s1, by rw [isEmpty_rv rr]⟩)
theorem st_tru (S : Site X B k wx) (ha : PE X a (lift B ta)) (he : ∀ whole, isTrue a X.env whole = (do let v ← whole; standAt a.pos; holding [v] (truthy v)) := by intro _; rfl) : PT X a (liftT B (dTru ta)) := PT.weak (pt_truth ha he) fun σ H Q h => by
  obtain ⟨env, O, F, q, R, h, kk⟩ := h
  refine ⟨env, O, F, _, R, h, fun d v O1 H1 F1 a1 r1 h1 => ?_⟩
  obtain ⟨b, e, h1⟩ := h1
  exact ⟨b, by rw [S.hK]; exact tru_v a1.fh a1.ow r1 e, kk b O1 H1 F1 a1 h1⟩
variable {x : Str} {p : Pos} {e : Expr} {es : List Expr} {ps : List Str} {n j : Nat} {fn : DF} {f : Addr} {fd : FuncData} {tA tB : DTA}
theorem so_len (S : Site X B k wx) (hg : Gl X "len") (hm : X.mg "len" = none) (ha : PA X [e] (liftA B tA)) (he : starEach [e] X.env = (false, eval e X.env) :: starEach [] X.env := by rfl) (hpl : (backTo pos (starEach [] X.env)).any (·.1) = false := by rfl) : PE X (.Call (.Name "len" p) [e] [] pos) (lift B (dCB dLen tA)) :=
  de_cb (by rw [S.hK]; exact sim_len) (pe_callB call_len hg hm PySem.boot_len ha (by decide) (by decide) he hpl)
theorem bt_abs : bootBuiltins "abs" = some (.builtin "abs") := by decide +kernel
theorem bt_min : bootBuiltins "min" = some (.builtin "min") := by decide +kernel
theorem bt_max : bootBuiltins "max" = some (.builtin "max") := by decide +kernel
theorem bt_int : bootBuiltins "int" = some (.type "int") := by decide +kernel
theorem bt_list : bootBuiltins "list" = some (.type "list") := by decide +kernel
theorem bt_tuple : bootBuiltins "tuple" = some (.type "tuple") := by decide +kernel
theorem bt_repr : bootBuiltins "repr" = some (.builtin "repr") := by decide +kernel
theorem so_abs (S : Site X B k wx) (hg : Gl X "abs") (hm : X.mg "abs" = none) (ha : PA X [e] (liftA B tA)) (he : starEach [e] X.env = (false, eval e X.env) :: starEach [] X.env := by rfl) (hpl : (backTo pos (starEach [] X.env)).any (·.1) = false := by rfl) : PE X (.Call (.Name "abs" p) [e] [] pos) (lift B (dCB dAbs tA)) :=
  de_cb sim_abs (pe_callB call_abs hg hm bt_abs ha (by decide) (by decide) he hpl)
theorem so_min2 {e2 : Expr} (S : Site X B k wx) (hc : X.calm = true) (hg : Gl X "min") (hm : X.mg "min" = none) (ha : PA X [e, e2] (liftA B tA)) (he : starEach [e, e2] X.env = (false, eval e X.env) :: starEach [e2] X.env := by rfl) (hpl : (backTo pos (starEach [e2] X.env)).any (·.1) = false := by rfl) : PE X (.Call (.Name "min" p) [e, e2] [] pos) (lift B (dCB dMin2 tA)) :=
  de_cb sim_min2 (pe_callB (call_min2 hc) hg hm bt_min ha (by decide) (by decide) he hpl)
theorem so_max2 {e2 : Expr} (S : Site X B k wx) (hc : X.calm = true) (hg : Gl X "max") (hm : X.mg "max" = none) (ha : PA X [e, e2] (liftA B tA)) (he : starEach [e, e2] X.env = (false, eval e X.env) :: starEach [e2] X.env := by rfl) (hpl : (backTo pos (starEach [e2] X.env)).any (·.1) = false := by rfl) : PE X (.Call (.Name "max" p) [e, e2] [] pos) (lift B (dCB dMax2 tA)) :=
  de_cb sim_max2 (pe_callB (call_max2 hc) hg hm bt_max ha (by decide) (by decide) he hpl)
theorem so_int (S : Site X B k wx) (hg : Gl X "int") (hm : X.mg "int" = none) (ha : PA X [e] (liftA B tA)) (he : starEach [e] X.env = (false, eval e X.env) :: starEach [] X.env := by rfl) (hpl : (backTo pos (starEach [] X.env)).any (·.1) = false := by rfl) : PE X (.Call (.Name "int" p) [e] [] pos) (lift B (dCB dInt1 tA)) :=
  de_cb sim_int1 (pe_callTy call_int1 hg hm bt_int ha (by decide) (by decide) he hpl)
theorem so_list (S : Site X B k wx) (hg : Gl X "list") (hm : X.mg "list" = none) (ha : PA X [e] (liftA B tA)) (he : starEach [e] X.env = (false, eval e X.env) :: starEach [] X.env := by rfl) (hpl : (backTo pos (starEach [] X.env)).any (·.1) = false := by rfl) : PE X (.Call (.Name "list" p) [e] [] pos) (lift B (dCB dList1 tA)) :=
  de_cb (by rw [S.hK]; exact sim_list1) (pe_callTy call_list_of hg hm bt_list ha (by decide) (by decide) he hpl)
theorem so_tuple (S : Site X B k wx) (hg : Gl X "tuple") (hm : X.mg "tuple" = none) (ha : PA X [e] (liftA B tA)) (he : starEach [e] X.env = (false, eval e X.env) :: starEach [] X.env := by rfl) (hpl : (backTo pos (starEach [] X.env)).any (·.1) = false := by rfl) : PE X (.Call (.Name "tuple" p) [e] [] pos) (lift B (dCB dTuple1 tA)) :=
  de_cb (by rw [S.hK]; exact sim_tuple1) (pe_callTy call_tupleN hg hm bt_tuple ha (by decide) (by decide) he hpl)
theorem so_repr (S : Site X B k wx) (hg : Gl X "repr") (hm : X.mg "repr" = none) (ha : PA X [e] (liftA B tA)) (he : starEach [e] X.env = (false, eval e X.env) :: starEach [] X.env := by rfl) (hpl : (backTo pos (starEach [] X.env)).any (·.1) = false := by rfl) : PE X (.Call (.Name "repr" p) [e] [] pos) (lift B (dCB dRepr tA)) :=
  de_cb (by rw [S.hK]; exact sim_repr) (pe_callB (cr_repr S.gd S.u66) hg hm bt_repr ha (by decide) (by decide) he hpl)
theorem so_append (S : Site X B k wx) {apos : Pos} {to : DTE} (ho : PE X a (lift B to)) (ha : PA X [e] (liftA B tA)) (hbase : attributeBase a "append" X.env (eval a X.env) = eval a X.env := by rfl)
    (hfew : ((backTo pos (starEach [e] X.env)).all (fun x => !x.1) && (backToKw pos (keywordEach [] X.env)).all (fun x => x.1.isSome) && decide ([e].length + ([] : List Keyword).length + (if ([] : List Keyword).isEmpty then 0 else 1) < 30)) = true := by rfl)
    (hline : (apos.endLine == pos.line) = true := by rfl) (hs : starEach [e] X.env = (false, eval e X.env) :: starEach [] X.env := by rfl) (hplain : (backTo pos (starEach [] X.env)).any (·.1) = false := by rfl) : PE X (.Call (.Attribute a "append" apos) [e] [] pos) (lift B (dAppend to tA)) :=
  de_append S.hK (pe_bm PySem.F.plainAttrs_list PySem.F.slot_list_append PySem.F.type_list_append mt_append ho ha hbase hfew hline hs hplain)
theorem pi_seq {tg l : Expr} {tl : TE} (hl : PE X l tl) : PI X tg l (fun σ H R => tl σ H fun x H1 => ∃ a, x = .ref a ∧ (((∃ xs, SqL X.K H1 a xs) ∧ R (Itl X.K a) H1) ∨ ((∃ xs, SqT X.K H1 a xs) ∧ R (Itt X.K a) H1))) := by
  refine ⟨fun pins s σ H R I h => thn (hl.run pins s σ H _ I h) fun v s1 hh => ?_⟩
  obtain ⟨x, H1, I1, r1, a, rfl, q⟩ := hh
  cases r1
  have fp : ∀ b ∈ [s1.heap.objs.size], FpOk X pins H1 b := fun b hb => by
    obtain rfl : b = s1.heap.objs.size := by simpa using hb
    exact I1.fpOk (Nat.le_refl _) (I1.hok.fresh (Nat.le_refl _))
  rcases q with ⟨⟨xs, hs⟩, q⟩ | ⟨⟨xs, hs⟩, q⟩
  · obtain ⟨its, _, pl, _⟩ := I1.list hs
    exact wpAny_pyIter_list pl.isList ⟨_, [s1.heap.objs.size], _, _, H1, rfl, I1.kept (t' := s1.toks) fun b o e => Heap.get?_push_of_some _ e, turn_list a _, ⟨_, Heap.get?_push_size _ rfl, rfl, rfl⟩, fp, q⟩
  · obtain ⟨its, _, pl, _⟩ := I1.tuple hs
    exact wpAny_pyIter_tuple (show s1.heap.IsTuple a its.toArray from pl) ⟨_, [s1.heap.objs.size], _, _, H1, rfl, I1.kept (t' := s1.toks) fun b o e => Heap.get?_push_of_some _ e, turn_tuple a _, ⟨_, Heap.get?_push_size _ rfl, rfl, rfl⟩, fp, q⟩
def diSeq (te : DTE) : DTI := fun env O q => te env O fun d O1 => match d with
  | .tup ds => q ds (fun _ => True) O1
  | d => ∃ ds, asL O1 d = some ds ∧ q ds (gdL O1 d) O1
theorem di_seq {tg l : Expr} {te : DTE} (S : Site X B k wx) (h : PE X l (lift B te)) : PI X tg l (liftI B (diSeq te)) := PI.weak (pi_seq h) fun σ H R hh => by
  have hK := S.hK
  obtain ⟨env, O, F, q, R0, hh, kk⟩ := hh
  refine ⟨env, O, F, _, R0, hh, fun d v O1 H1 F1 a1 r1 h1 => ?_⟩
  have hL : (∃ ds, asL O1 d = some ds ∧ q ds (gdL O1 d) O1) → ∃ a, v = .ref a ∧ (((∃ xs, SqL X.K H1 a xs) ∧ R (Itl X.K a) H1) ∨ ((∃ xs, SqT X.K H1 a xs) ∧ R (Itt X.K a) H1)) := by
    rintro ⟨ds, e, h1⟩
    obtain ⟨a, xs, rfl, hs, hr⟩ := asL_sq a1.fh a1.ow r1 e
    refine ⟨a, rfl, .inl ⟨⟨xs, by rw [hK]; exact hs⟩, kk ds _ O1 H1 F1 _ a1 ?_ h1⟩⟩
    intro O2 H2 F2 i s2 fh2 ow2 gd
    obtain ⟨a', ys, e', hs', hr'⟩ := asL_sq fh2 ow2 (r1.mono s2) (asL_gd e gd)
    cases e'
    rw [hK]
    refine ⟨fun x hx => ?_, fun hi => ⟨ys, hs', by rw [hi, hr'.length]; exact Nat.le_refl _⟩⟩
    obtain ⟨v', e1, r'⟩ := hr'.get hx
    refine ⟨⟨ys, v', hs', e1⟩, fun v H3 hy => ?_⟩
    obtain ⟨rfl, hy⟩ := hy
    obtain rfl : v = v' := Option.some.inj ((hy ys hs').symm.trans e1)
    exact ⟨F2, .rfl' fh2 ow2, r'⟩
  cases d <;> simp only at h1 <;> try exact hL h1
  cases r1 with
  | tup hs hr =>
    rename_i a xs
    refine ⟨a, rfl, .inr ⟨⟨xs, by rw [hK]; exact same_tup a1.fh hs⟩, kk _ _ O1 H1 F1 _ a1 ?_ h1⟩⟩
    intro O2 H2 F2 i s2 fh2 ow2 _
    have hs' : SqT B.K H2 a xs := same_tup (s2.trans fh2) hs
    rw [hK]
    refine ⟨fun x hx => ?_, fun hi => ⟨xs, hs', by rw [hi, hr.length]; exact Nat.le_refl _⟩⟩
    obtain ⟨v', e1, r'⟩ := hr.get hx
    refine ⟨⟨xs, v', hs', e1⟩, fun v H3 hy => ?_⟩
    obtain ⟨rfl, hy⟩ := hy
    obtain rfl : v = v' := Option.some.inj ((hy xs hs').symm.trans e1)
    exact ⟨F2, .rfl' fh2 ow2, r'.mono s2⟩
def dAugI (f : Int → Int → Int) (i : Nat) (te : DTE) : DTS := fun E env O => ∃ x, env[i]? = some (some (.int x)) ∧ te env O fun y O1 => match y with | .int z => E.nx (env.set i (some (.int (f x z)))) O1 | _ => False
theorem ss_augI {st : Stmt} {f : Int → Int → Int} {i : Nat} {te : DTE} (h : PS X st (tAug i (lift B te) (ipI f))) : PS X st (liftS B (dAugI f i te)) := PS.weak h fun E σ H h => by
  obtain ⟨env, O, F, d, R, ⟨x, e, h⟩, m⟩ := h
  obtain ⟨v, e1, r⟩ := R.sl.2 i _ e
  cases r
  refine ⟨_, e1, env, O, F, _, R, h, fun y v O1 H1 F1 a1 r1 h1 => ?_⟩
  cases y <;> try exact h1.elim
  cases r1
  exact ⟨_, _, rfl, rfl, m.nx _ O1 _ H1 F1 a1 ((R.sl.mono a1.ff).setv (.int _)) h1⟩
end
end DL
set_option Elab.async false
set_option linter.all false
set_option maxRecDepth 100000
set_option maxHeartbeats 4000000
namespace DL
open PySem PySem.Spec PyProof.Rows L2
section
variable {env : Env} {O : Ow} {q : DQ} {ta tb tc te to ti : DTE} {tA tB : DTA} {E : DEnds} {t u : DTS} {cT cU : DTT} {qb : Bool → Ow → Prop} {qa : List D → Ow → Prop} {g : DTG} {qe : Env → Ow → Prop}
theorem i_seq (h : t { E with nx := u E } env O) : dSeq t u E env O := h
theorem i_next (h : E.nx env O) : dNext E env O := h
theorem i_asg (h : te env O fun d O1 => g d env O1 E.nx) : dAsg te g E env O := h
theorem i_gname {i : Nat} {d : D} (h : qe (env.set i (some d)) O) : dgName i d env O qe := h
theorem i_ret (h : te env O E.rt) : dRet te E env O := h
theorem i_retN (h : E.rt .non O) : dRetN E env O := h
theorem i_expr (h : te env O fun _ O1 => E.nx env O1) : dExpr te E env O := h
theorem i_if (h : cT env O fun b O1 => if b = true then t E env O1 else u E env O1) : dIf cT t u E env O := h
theorem i_break (h : E.bk env O) : dBreak E env O := h
theorem i_cont (h : E.ct env O) : dCont E env O := h
theorem i_par {i j : Nat} (h : tA env O fun ds O1 => match ds with | [d, e] => E.nx ((env.set i (some d)).set j (some e)) O1 | _ => False) : dPar i j tA E env O := h
theorem i_for {wi : DTI} (h : wi env O fun xs Gd O1 => forGo g t Gd E xs env O1) : dFor wi g t E env O := h
theorem i_gtup {n : Nat} {gs : DTGs} {ds : List D} (h : ds.length = n) (h2 : gs ds env O qe) : dgTup n gs (.tup ds) env O qe := ⟨h, h2⟩
theorem i_gnil (h : qe env O) : dgNil [] env O qe := ⟨rfl, h⟩
theorem i_gcons {gs : DTGs} {d : D} {ds : List D} (h : g d env O fun env' O' => gs ds env' O' qe) : dgCons g gs (d :: ds) env O qe := h
theorem i_augI {f : Int → Int → Int} {i : Nat} {x : Int} (e : env[i]? = some (some (.int x))) (h : te env O fun y O1 => match y with | .int z => E.nx (env.set i (some (.int (f x z)))) O1 | _ => False) : dAugI f i te E env O := ⟨x, e, h⟩
theorem i_var {i : Nat} {d : D} (e : env[i]? = some (some d)) (h : q d O) : dVar i env O q := ⟨d, e, h⟩
theorem i_c {d : D} (h : q d O) : dC d env O q := h
theorem i_op {r : DR2} (h : ta env O fun x O1 => tb env O1 fun y O2 => r x y O2 q) : dOp r ta tb env O q := h
theorem i_cb {dr : List D → Ow → DQ → Prop} (h : tA env O fun ds O1 => dr ds O1 q) : dCB dr tA env O q := h
theorem i_nil (h : qa [] O) : dNil env O qa := h
theorem i_cons (h : ta env O fun x O1 => tA env O1 fun xs O2 => qa (x :: xs) O2) : dCons ta tA env O qa := h
theorem i_tup (h : tA env O fun ds O1 => ds.length ≤ sizeLine ∧ q (.tup ds) O1) : dTup tA env O q := h
theorem i_lst (h : tA env O fun ds O1 => ds.length ≤ sizeLine ∧ q (.lst ds) O1) : dLst tA env O q := h
theorem i_lstO (h : tA env O fun ds O1 => ds.length ≤ sizeLine ∧ ∀ p, O1 p = none → q (.ref p) (setO O1 p (.lst ds))) : dLstO tA env O q := h
theorem i_ifE (h : cT env O fun c O1 => if c = true then ta env O1 q else tb env O1 q) : dIfE cT ta tb env O q := h
theorem i_test (h : te env O fun x O' => match x with | .bl k => qb k O' | _ => False) : dTest te env O qb := h
theorem i_tru (h : te env O fun x O' => ∃ k, truD O' x = some k ∧ qb k O') : dTru te env O qb := h
theorem i_and (h : cT env O fun c O1 => if c = true then cU env O1 qb else qb false O1) : dAnd cT cU env O qb := h
theorem i_or (h : cT env O fun c O1 => if c = true then qb true O1 else cU env O1 qb) : dOr cT cU env O qb := h
theorem i_not (h : cT env O fun c O1 => qb (!c) O1) : dNot cT env O qb := h
theorem i_andV (h : ta env O fun x O1 => match x with | .bl true => tb env O1 q | .bl false => q (.bl false) O1 | _ => False) : dAndV ta tb env O q := h
theorem i_orV (h : ta env O fun x O1 => match x with | .bl false => tb env O1 q | .bl true => q (.bl true) O1 | _ => False) : dOrV ta tb env O q := h
theorem i_notV (h : ta env O fun x O1 => match x with | .bl b => q (.bl !b) O1 | _ => False) : dNotV ta env O q := h
theorem i_neg (h : ta env O fun x O1 => match x with | .int i => q (.int (-i)) O1 | _ => False) : dNeg ta env O q := h
theorem i_chain {r r' : DR2} (h : ta env O fun x O1 => tb env O1 fun y O2 => r x y O2 fun z O3 => match z with | .bl true => tc env O3 fun u O4 => r' y u O4 q | .bl false => q (.bl false) O3 | _ => False) : dChain r r' ta tb tc env O q := h
theorem i_call {fn : DF} {n : Nat} {w : DW} {dds : List D} (h : tA env O fun ds O1 => (ds ++ dds).length = n ∧ fn (ds ++ dds) O1 q fun c fs O' => w c fs env O') : dCall fn n w dds tA env O q := h
theorem i_callK {fn : DF} {n m l : Nat} {w : DW} {gD : List D → List D → List D} (h : tA env O fun ds O1 => tB env O1 fun es O2 => ds.length = m ∧ es.length = l ∧ (gD ds es).length = n ∧ fn (gD ds es) O2 q fun c fs O' => w c fs env O') : dCallK fn n m l w gD tA tB env O q := h
def appK2 (p : Addr) (es : List D) (q : DQ) : List D → Ow → Prop := fun ds O2 => match ds with | [d] => O2 p = some (.lst es) ∧ es.length < sizeLine ∧ q .non (setO O2 p (.lst (es ++ [d]))) | _ => False
def appK (tA : DTA) (env : Env) (q : DQ) : D → Ow → Prop := fun x O1 => match x with
  | .ref p => ∃ es, O1 p = some (.lst es) ∧ tA env O1 (appK2 p es q)
  | _ => False
theorem i_append (h : to env O (appK tA env q)) : dAppend to tA env O q := h
theorem i_appK {p : Addr} {es : List D} (hp : O p = some (.lst es)) (h : tA env O (appK2 p es q)) : appK tA env q (.ref p) O := ⟨es, hp, h⟩
theorem i_appK2 {p : Addr} {es : List D} {d : D} (hp : O p = some (.lst es)) (hl : es.length < sizeLine) (h : q .non (setO O p (.lst (es ++ [d])))) : appK2 p es q [d] O := ⟨hp, hl, h⟩
def subK (d : D) (env : Env) (qe : Env → Ow → Prop) (x : D) : D → Ow → Prop := fun y O2 => match x, y with
  | .ref p, .int i => ∃ es j, O2 p = some (.lst es) ∧ ixN es.length i = some j ∧ qe env (setO O2 p (.lst (es.set j d)))
  | _, _ => False
theorem i_gsub {d : D} (h : to env O fun x O1 => ti env O1 (subK d env qe x)) : dgSub to ti d env O qe := h
theorem i_subK {d : D} {p : Addr} {es : List D} {i : Int} {j : Nat} (hp : O p = some (.lst es)) (e : ixN es.length i = some j) (h : qe env (setO O p (.lst (es.set j d)))) : subK d env qe (.ref p) (.int i) O := ⟨es, j, hp, e, h⟩
def slK (q : DQ) (x : D) (l : Option Int) : Option Int → Ow → Prop := fun u O3 => match x with
  | .tup ds => q (.tup (cutD ds l u)) O3
  | x => ∃ ds, asL O3 x = some ds ∧ q (.lst (cutD ds l u)) O3
theorem i_sl {tl th : DTO} (h : te env O fun x O1 => tl env O1 fun l O2 => th env O2 (slK q x l)) : dSl te tl th env O q := h
theorem i_slT {ds : List D} {l u : Option Int} (h : q (.tup (cutD ds l u)) O) : slK q (.tup ds) l u O := h
theorem i_slL {ds : List D} {l u : Option Int} (h : q (.lst (cutD ds l u)) O) : slK q (.lst ds) l u O := ⟨ds, rfl, h⟩
theorem asL_ref {p : Addr} {ds : List D} (h : O p = some (.lst ds)) : asL O (.ref p) = some ds := by simp [asL, h]
theorem i_slO {p : Addr} {ds : List D} {l u : Option Int} (hp : O p = some (.lst ds)) (h : q (.lst (cutD ds l u)) O) : slK q (.ref p) l u O := ⟨ds, asL_ref hp, h⟩
theorem i_oN {qo : Option Int → Ow → Prop} (h : qo none O) : doNone env O qo := h
theorem i_oS {qo : Option Int → Ow → Prop} (h : te env O fun d O1 => match d with | .int i => qo (some i) O1 | _ => False) : doSome te env O qo := h
theorem i_lc {wi : DTI} {tt : DTT} {vs : List Nat} (h : wi env O fun xs Gd O1 => xs.length ≤ sizeLine ∧ lcGo g tt te Gd xs (wipeD env vs) O1 fun ys O2 => q (.lst ys) O2) : dLc wi g tt te vs env O q := h
theorem i_lcO {wi : DTI} {tt : DTT} {vs : List Nat} (h : wi env O fun xs Gd O1 => xs.length ≤ sizeLine ∧ lcGo g tt te Gd xs (wipeD env vs) O1 fun ys O2 => ∀ p, O2 p = none → q (.ref p) (setO O2 p (.lst ys))) : dLcO wi g tt te vs env O q := h
theorem i_yes (h : qb true O) : dYes env O qb := h
theorem i_listRg1 (h : ta env O fun d O1 => match d with | .int n => RgOk 0 n ∧ q (.lst (rgD 0 n)) O1 | _ => False) : dListRg1 ta env O q := h
theorem i_rg1 {qi : List D → (Ow → Prop) → Ow → Prop} (h : tA env O fun ds O1 => match ds with | [.int j] => InRg j ∧ qi (rgD 0 j) (fun _ => True) O1 | _ => False) : diRg1 tA env O qi := h
theorem i_rg2 {qi : List D → (Ow → Prop) → Ow → Prop} (h : tA env O fun ds O1 => match ds with | [.int i, .int j] => InRg i ∧ InRg j ∧ qi (rgD i j) (fun _ => True) O1 | _ => False) : diRg2 tA env O qi := h
def seqK (qi : List D → (Ow → Prop) → Ow → Prop) : D → Ow → Prop := fun d O1 => match d with | .tup ds => qi ds (fun _ => True) O1 | d => ∃ ds, asL O1 d = some ds ∧ qi ds (gdL O1 d) O1
theorem i_seqI {qi : List D → (Ow → Prop) → Ow → Prop} (h : te env O (seqK qi)) : diSeq te env O qi := h
theorem i_seqT {qi : List D → (Ow → Prop) → Ow → Prop} {ds : List D} (h : qi ds (fun _ => True) O) : seqK qi (.tup ds) O := h
theorem i_seqL {qi : List D → (Ow → Prop) → Ow → Prop} {ds : List D} (h : qi ds (fun _ => True) O) : seqK qi (.lst ds) O := ⟨ds, rfl, h⟩
theorem i_seqO {qi : List D → (Ow → Prop) → Ow → Prop} {p : Addr} {ds : List D} (hp : O p = some (.lst ds)) (h : qi ds (fun O' => O' p = O p) O) : seqK qi (.ref p) O := ⟨ds, asL_ref hp, h⟩
variable {i j : Int}
theorem i_lt (h : q (.bl (decide (i < j))) O) : dLt (.int i) (.int j) O q := ⟨trivial, h⟩
theorem i_le (h : q (.bl (decide (i ≤ j))) O) : dLe (.int i) (.int j) O q := ⟨trivial, h⟩
theorem i_gt (h : q (.bl (decide (j < i))) O) : dGt (.int i) (.int j) O q := ⟨trivial, h⟩
theorem i_ge (h : q (.bl (decide (j ≤ i))) O) : dGe (.int i) (.int j) O q := ⟨trivial, h⟩
theorem i_sub (h : q (.int (i - j)) O) : dSub (.int i) (.int j) O q := ⟨trivial, h⟩
theorem i_addI (h : q (.int (i + j)) O) : dAdd (.int i) (.int j) O q := h
theorem i_mulI (hc : CMul i j) (h : q (.int (i * j)) O) : dMul (.int i) (.int j) O q := ⟨hc, h⟩
theorem i_mod (hc : 0 < j) (h : q (.int (i % j)) O) : dMod (.int i) (.int j) O q := ⟨hc, h⟩
theorem i_fdiv (hc : CDiv i j) (h : q (.int (i / j)) O) : dFdiv (.int i) (.int j) O q := ⟨hc, h⟩
theorem i_pow (hc : CPowW i j) (h : q (.int (i ^ j.toNat)) O) : dPow (.int i) (.int j) O q := ⟨hc, h⟩
theorem i_int (h : q (.int i) O) : dInt1 [.int i] O q := h
theorem i_intb {b : Bool} (h : q (.int (if b then 1 else 0)) O) : dInt1 [.bl b] O q := h
theorem i_abs (h : q (.int (if i < 0 then -i else i)) O) : dAbs [.int i] O q := h
theorem i_min2 (h : q (.int (if j < i then j else i)) O) : dMin2 [.int i, .int j] O q := h
theorem i_max2 (h : q (.int (if j > i then j else i)) O) : dMax2 [.int i, .int j] O q := h
theorem i_isN {d : D} (h : q (.bl (match d with | .non => true | _ => false)) O) : dIsN d .non O q := h
theorem i_notN {d : D} (h : q (.bl (match d with | .non => false | _ => true)) O) : dNotN d .non O q := h
theorem i_mulT {a : List D} {k : Int} (h1 : a ≠ []) (h2 : a.length ≤ 1000) (h3 : -(2 ^ 63) ≤ k ∧ k ≤ 1000) (h : q (.tup (List.replicate k.toNat a).flatten) O) : dMul (.tup a) (.int k) O q := ⟨h1, h2, h3, h⟩
theorem i_addT {a b : List D} (h1 : a.length + b.length ≤ sizeLine) (h : q (.tup (a ++ b)) O) : dAdd (.tup a) (.tup b) O q := ⟨h1, h⟩
theorem i_addL {a b : List D} (h1 : a.length + b.length ≤ sizeLine) (h : q (.lst (a ++ b)) O) : dAdd (.lst a) (.lst b) O q := ⟨a, b, rfl, rfl, h1, h⟩
theorem i_ixT {ds : List D} {d : D} (e : atI ds i = some d) (h : q d O) : dIx (.tup ds) (.int i) O q := ⟨d, e, h⟩
theorem i_ixL {ds : List D} {d : D} (e : atI ds i = some d) (h : q d O) : dIx (.lst ds) (.int i) O q := ⟨ds, d, rfl, e, h⟩
theorem i_ixO {p : Addr} {ds : List D} {d : D} (hp : O p = some (.lst ds)) (e : atI ds i = some d) (h : q d O) : dIx (.ref p) (.int i) O q := ⟨ds, d, asL_ref hp, e, h⟩
theorem i_lenL {ds : List D} (h : q (.int (ds.length : Int)) O) : dLen [.lst ds] O q := ⟨ds.length, rfl, h⟩
theorem i_lenT {ds : List D} (h : q (.int (ds.length : Int)) O) : dLen [.tup ds] O q := ⟨ds.length, rfl, h⟩
theorem i_lenO {p : Addr} {ds : List D} (hp : O p = some (.lst ds)) (h : q (.int (ds.length : Int)) O) : dLen [.ref p] O q := ⟨ds.length, by simp [lenD, asL_ref hp], h⟩
theorem join (V : D → Prop) (hk : ∀ d, V d → q d O) (h : ∀ q' : DQ, (∀ d, V d → q' d O) → te env O q') : te env O q := h q hk
theorem if_d {P A B : Prop} [Decidable P] (h1 : P → A) (h2 : ¬ P → B) : if decide P = true then A else B := by
  by_cases h : P
  · rw [decide_eq_true h]; exact h1 h
  · rw [decide_eq_false h]; exact h2 h
end
theorem asP_pd {O : Ow} {d : D} (h : pd d = true) : asP O d = some (py d) := by
  cases d <;> first | (simp [pd] at h; done) | simp [asP, h]
theorem asPs_L {O : Ow} {ds : List D} (h : pds ds = true) : asPs O (.lst ds) = some (pys ds) := by simp [asPs, asL, h]
theorem asPs_T {O : Ow} {ds : List D} (h : pds ds = true) : asPs O (.tup ds) = some (pys ds) := by simp [asPs, h]
theorem line_ok {n : Nat} (h : n ≤ 100000) : n ≤ sizeLine := Nat.le_trans h (by decide)
theorem len_ok {ds : List D} (h : ds.length ≤ 100000) : ds.length ≤ sizeLine := Nat.le_trans h (by decide)
theorem lcGo_fm {g : DTG} {tt : DTT} {te : DTE} {Gd : Ow → Prop} {env : Env} {O : Ow} (f : D → Option D) (hG : Gd O) : ∀ {xs : List D} {q : List D → Ow → Prop},
    (∀ x ∈ xs, ∀ (k : DQ) (z : Ow → Prop), (∀ y o, f x = some y → SubO O o → k y o) → (∀ o, f x = none → SubO O o → z o) → g x env O fun env2 _ => tt env2 O fun b O3 => if b = true then te env2 O3 k else z O3) → q (xs.filterMap f) O → lcGo g tt te Gd xs env O q
  | [], _, _, hq => ⟨hG, hq⟩
  | x :: xs, q, hx, hq => by
    refine ⟨hG, hx x List.mem_cons_self _ _ (fun y o e sb => ⟨O, sb, ?_⟩) (fun o e sb => ⟨O, sb, ?_⟩)⟩
    · refine lcGo_fm f hG (fun x' h' => hx x' (List.mem_cons_of_mem _ h')) ?_
      rw [List.filterMap_cons_some e] at hq
      exact hq
    · refine lcGo_fm f hG (fun x' h' => hx x' (List.mem_cons_of_mem _ h')) ?_
      rw [List.filterMap_cons_none e] at hq
      exact hq
theorem lcGo_map {g : DTG} {tt : DTT} {te : DTE} {Gd : Ow → Prop} {env : Env} {O : Ow} {xs : List D} {q : List D → Ow → Prop} (f : D → D) (hG : Gd O)
    (hx : ∀ x ∈ xs, ∀ (k : DQ) (z : Ow → Prop), (∀ o, SubO O o → k (f x) o) → g x env O fun env2 _ => tt env2 O fun b O3 => if b = true then te env2 O3 k else z O3) (hq : q (xs.map f) O) : lcGo g tt te Gd xs env O q :=
  lcGo_fm (fun x => some (f x)) hG (fun x h k z h1 _ => hx x h k z fun o sb => h1 _ o rfl sb) (by rw [List.filterMap_eq_map']; exact hq)
theorem strs_pds : ∀ ss : List Str, pds (ss.map D.str) = true
  | [] => by simp [pds]
  | s :: ss => by simp [pds, pd, strs_pds ss]
theorem powW {i j : Int} {m : Nat} (hi : i.natAbs < 2 ^ m) (hm : 0 < m) (h0 : 0 ≤ j) (h : ((m : Int) + 1) * j ≤ 2 ^ 27) : CPowW i j := by
  refine ⟨h0, Int.le_trans (Int.mul_le_mul_of_nonneg_right ?_ h0) h⟩
  have h1 : i.natAbs.log2 < m := PySem.Flt.log2_lt_of hm hi
  have h2 : Builtin.Int.intBits i ≤ i.natAbs.log2 + 1 := by
    unfold Builtin.Int.intBits
    split <;> omega
  omega
/-- a source of draws: digits, a mixed number, how often it was mixed -/
def Bag (O : Ow) (p : Addr) (m : Int) : Prop := ∃ a b c : Int, O p = some (.lst [.int a, .int b, .int c]) ∧ 0 ≤ b ∧ b < 2 ^ 90 ∧ 0 ≤ c ∧ c ≤ m
theorem Bag.mono {O : Ow} {p : Addr} {m m' : Int} (h : Bag O p m) (hm : m ≤ m') : Bag O p m' := by
  obtain ⟨a, b, c, e, h1, h2, h3, h4⟩ := h
  exact ⟨a, b, c, e, h1, h2, h3, Int.le_trans h4 hm⟩
theorem Bag.other {O : Ow} {p r : Addr} {m : Int} {o : OD} (h : Bag O p m) (hr : O r = none) : Bag (setO O r o) p m := by
  obtain ⟨a, b, c, e, h1⟩ := h
  refine ⟨a, b, c, ?_, h1⟩
  have : p ≠ r := fun z => by rw [z, hr] at e; cases e
  rw [setO_ne this]; exact e
/-- a number from 0 to n - 1 is drawn; nothing else changes -/
def f_take : DF := fun ds O q _ => ∃ p n m, ds = [.ref p, .int n] ∧ Bag O p m ∧ m < 2 ^ 40 ∧ 0 < n ∧ n < 2 ^ 30 ∧ ∀ r o, 0 ≤ r → r < n → Bag (setO O p o) p (m + 1) → q (.int r) (setO O p o)
/-- a new bag of a cell of the script -/
def f_bag : DF := fun ds O q _ => ∃ (ns : List Int) (at_ : Int), ds = [.lst (ns.map D.int), .int at_] ∧ 0 ≤ at_ ∧ at_ < 1000 ∧ ∀ p o, O p = none → Bag (setO O p o) p 0 → q (.ref p) (setO O p o)
end DL
set_option linter.all false
namespace DL
open PySem PySem.Spec PyProof.Rows L2
def shw (d : D) : Str := (py d).shown
def shwOk (d : D) : Bool := pd d && (py d).showable && decide ((py d).depth ≤ 64) && decide ((py d).shown.length ≤ 16777216) && (PyData.str (shw d)).canLay0
theorem i_repr {O : Ow} {q : DQ} {d : D} (h : shwOk d = true) (hq : q (.str (shw d)) O) : dRepr [d] O q := by
  simp only [shwOk, Bool.and_eq_true, decide_eq_true_eq] at h
  exact ⟨py d, asP_pd h.1.1.1.1, h.1.1.1.2, h.1.1.2, by rw [sizeLine_eq]; exact h.1.2, hq⟩
theorem strs_lay : ∀ {ss : List Str}, (∀ s ∈ ss, (PyData.str s).canLay0 = true) → PyData.canLayAll0 (pys (ss.map D.str)) = true ∧ PyData.depthAll (pys (ss.map D.str)) = 0
  | [], _ => by simp [pys, PyData.canLayAll0, PyData.depthAll]
  | s :: ss, h => by
    obtain ⟨h1, h2⟩ := strs_lay fun s' hs => h s' (List.mem_cons_of_mem _ hs)
    have h3 := h s List.mem_cons_self
    simp only [List.map_cons, pys, py, PyData.canLayAll0, PyData.depthAll, PyData.depth, h1, h2, h3]
    exact ⟨rfl, rfl⟩
theorem strs_shaped {ss : List Str} (h : ∀ s ∈ ss, (PyData.str s).canLay0 = true) : SeqAt.shaped (py (.lst (ss.map D.str))) = true := by
  obtain ⟨h1, h2⟩ := strs_lay h
  simp only [SeqAt.shaped, py, PyData.canLay0, PyData.depth, h1, h2]
  decide
end DL
set_option Elab.async false
set_option linter.all false
set_option maxRecDepth 100000
set_option maxHeartbeats 4000000
namespace DL
open PySem PySem.Spec PyProof.Rows L2
theorem walk_GE {l : PySem.W.OpenLaw} {n k : Nat} {q : Program} {loose : List Str} {XP : (Str → Option Value) → Heap → Prop} {YP : World → Heap → Prop} {d : DefRec} {x : Str} {fn : DF}
    (hn : l.most = some n) (hn2 : n ≤ sizeLine) (hdf : d.params.defaults = []) (hr : Room k callerA)
    (F : ∀ (w : World) (mg : Str → Option Value) (fa : Addr) (h : Heap), YP w h → h.Ns mainGlobals mg → mg d.name = some (.ref fa) →
      ∃ (K : PySem.W.Frag) (fd : FuncData), K.In h ∧ (∀ (s : Shared) (u : Value), BindsTo s fd ⟨[u], []⟩ [(x, u)]) ∧ ∀ base : Heap, K.In base → base.Ns mainGlobals mg → FnG l.prog w K mg base (L2.CX l.prog w) k fa fd [x] (spD K 1 fn))
    (hfn : ∀ ns : List Int, ns.length ≤ n → (∀ k ∈ ns, Builtin.Int.intBits k ≤ 1048576) → fn [.lst (ns.map D.int)] (fun _ => none) (fun d _ => d = .bl true) (fun _ _ _ => False)) :
    PySem.W.WalkO q loose XP YP l.row.toRowW d [] (fun f vs => PySem.call f vs) := by
  refine Att.attach_callB hn hdf fun w s₀ s₁ mg mb fa o pm cd doc a vs ns G Y ho hd hcd hmg hobj hints hlen hbits hg => ?_
  obtain ⟨K, fd, KX, hb, hF⟩ := F w mg fa _ Y G.T.g hmg
  exact law_G KX G.T.g G.T.b G.T.builtins G.T.nolimit hg hobj hints (Nat.le_trans hlen hn2) hr hF hb (hfn ns hlen hbits)
end DL
set_option Elab.async false
set_option linter.all false
set_option maxRecDepth 100000
set_option maxHeartbeats 4000000
namespace DL
open PySem PySem.Spec PyProof.Rows L2
section
variable {X : Cx} {B : Bd} {pos : Pos} {k : Nat} {wx : DW} {e : Expr} {p : Pos}
def delO (O : Ow) (p : Addr) : Ow := fun b => if b = p then none else O b
theorem delO_ne {O : Ow} {p r : Addr} (h : r ≠ p) : delO O p r = O r := if_neg h
theorem delO_set {O : Ow} {p : Addr} {o : OD} (h : O p = none) : delO (setO O p o) p = O := by
  funext b
  unfold delO setO
  split
  · rename_i z; rw [z, h]
  · rfl
def iceK (q : DQ) : DQ := fun d O1 => match d with
  | .ref p => ∃ ds, O1 p = some (.lst ds) ∧ q (.lst ds) (delO O1 p)
  | .lst ds => q (.lst ds) O1
  | _ => False
def dIce (t : DTE) : DTE := fun env O q => t env O (iceK q)
theorem de_ice {t : DTE} (h : PE X e (lift B t)) : PE X e (lift B (dIce t)) := PE.weak h fun σ H Q hh => by
  obtain ⟨env, O, F, q, R, hh, kk⟩ := hh
  refine ⟨env, O, F, _, R, hh, fun d v O1 H1 F1 a1 r1 h1 => ?_⟩
  cases d <;> try exact h1.elim
  · rename_i p
    obtain ⟨ds, e, h1⟩ := h1
    cases r1
    obtain ⟨F2, r2, a2⟩ := (R.call a1).ice e
    exact kk _ _ _ _ F2 (a1.trans a2) r2 h1
  · exact kk _ _ _ _ F1 a1 r1 h1
theorem i_ice {t : DTE} {env : Env} {O : Ow} {q : DQ} (h : t env O (iceK q)) : dIce t env O q := h
theorem i_iceK {O : Ow} {q : DQ} {p : Addr} {ds : List D} (e : O p = some (.lst ds)) (h : q (.lst ds) (delO O p)) : iceK q (.ref p) O := ⟨ds, e, h⟩
theorem i_iceL {O : Ow} {q : DQ} {ds : List D} (h : q (.lst ds) O) : iceK q (.lst ds) O := h
def tyN (O : Ow) : D → Option String
  | .non => some "NoneType"
  | .bl _ => some "bool"
  | .int _ => some "int"
  | .str _ => some "str"
  | .lst _ => some "list"
  | .tup _ => some "tuple"
  | .ref p => match O p with
    | some (.lst _) => some "list"
    | some (.dK _) => some "dict"
    | some (.dT _) => some "dict"
    | _ => none
  | .ty _ => none
  | .ins _ _ _ => none
theorem tyN_ok {K : Frag} {O : Ow} {H F : Hp} (fh : Same F H) (ow : OwOk K O H F) {d : D} {v : V} {a : String} (r : RV K F d v) (h : tyN O d = some a) : TyX K H v (.type a) := by
  cases d <;> simp only [tyN] at h
  · cases h; cases r; exact .base .non
  · cases h; cases r; exact .base (.bl _)
  · cases h; cases r; exact .base (.int _)
  · cases h; cases r; exact .base (.str _)
  · rename_i p
    cases r
    split at h
    · rename_i e
      obtain ⟨_, ho, e1, vs, rfl, _⟩ := ow _ _ e
      cases h; exact .base (.lst e1)
    · rename_i e
      obtain ⟨_, ho, e1, vs, rfl, _⟩ := ow _ _ e
      cases h; exact .base (.dK e1)
    · rename_i e
      obtain ⟨_, ho, e1, vs, rfl, _⟩ := ow _ _ e
      cases h; exact .base (.dT e1)
    · cases h
  · cases h
  · cases h
    cases r with
    | lst hs _ =>
      rcases hs with (hs | ⟨o, hs⟩) | ⟨o, its, n, lk, c, _⟩
      · exact .base (.lst (fh _ _ hs))
      · exact .base (.frz (fh _ _ hs))
      · exact .kList lk c
  · cases h
    cases r with
    | tup hs _ =>
      rcases hs with (hs | ⟨o, hs⟩) | ⟨o, its, n, lk, c, _⟩
      · exact .base (.tup (fh _ _ hs))
      · exact .fTuple (fh _ _ hs)
      · exact .kTuple lk c
  · cases h
def tyKnown : List String := ["NoneType", "bool", "int", "str", "list", "tuple", "dict"]
def kitT (a n : String) : Bool := a == n || (a == "bool" && n == "int")
theorem kitB_eq : ∀ a ∈ tyKnown, ∀ n ∈ ["str", "int", "bool", "tuple", "list", "dict"], kitB a n = some (kitT a n) := by decide +kernel
theorem tyN_mem {O : Ow} {d : D} {a : String} (h : tyN O d = some a) : a ∈ tyKnown := by
  cases d <;> simp only [tyN] at h <;> try (cases h; done)
  all_goals try (cases h; decide)
  split at h <;> cases h <;> decide
def dIsi : List D → Ow → DQ → Prop := fun ds O q => match ds with
  | [x, .ty n] => ∃ a, tyN O x = some a ∧ n ∈ ["str", "int", "bool", "tuple", "list", "dict"] ∧ q (.bl (kitT a n)) O
  | _ => False
theorem sim_isi : SimC B (rIsi B.K) dIsi := by
  intro env O σ H F vs ds q Q R r h kk
  match ds, r, h with
  | [x, .ty n], r, ⟨a, e, hn, h⟩ =>
    obtain ⟨v, w, rfl, r1, r2⟩ := r.two
    cases r2
    exact ⟨v, _, _, _, _, rfl, .ty n, tyN_ok R.fh R.ow r1 e, kit_ty (kitB_eq a (tyN_mem e) n hn), kk _ _ O H F (.refl R) (.bl _) h⟩
theorem bt_isi : bootBuiltins "isinstance" = some (.builtin "isinstance") := by decide +kernel
theorem so_isi {e1 e2 : Expr} {tA : DTA} (S : Site X B k wx) (hg : Gl X "isinstance") (hm : X.mg "isinstance" = none) (ha : PA X [e1, e2] (liftA B tA)) (he : starEach [e1, e2] X.env = (false, eval e1 X.env) :: starEach [e2] X.env := by rfl) (hpl : (backTo pos (starEach [e2] X.env)).any (·.1) = false := by rfl) :
    PE X (.Call (.Name "isinstance" p) [e1, e2] [] pos) (lift B (dCB dIsi tA)) :=
  de_cb (by rw [S.hK]; exact sim_isi) (pe_callB call_isi hg hm bt_isi ha (by decide) (by decide) he hpl)
/-- a tuple of classes -/
def tyNs : List D → Option (List String)
  | [] => some []
  | .ty n :: ds => (tyNs ds).map (n :: ·)
  | _ => none
def dIsiT : List D → Ow → DQ → Prop := fun ds O q => match ds with
  | [x, .tup cs] => ∃ a ns, tyN O x = some a ∧ tyNs cs = some ns ∧ (∀ n ∈ ns, n ∈ ["str", "int", "bool", "tuple", "list", "dict"]) ∧ q (.bl (ns.any (kitT a))) O
  | _ => False
def rIsiS (K : Frag) : List V → Hp → VK → Prop := fun xs H Q => ∃ (x : V) (tp : Addr) (cs : List V) (t : Value) (us : List Value) (b : Bool), xs = [x, .ref tp] ∧ SqT K H tp cs ∧ Paired ClsV cs us ∧ TyX K H x t ∧ PySem.W.kitAny K t us = some b ∧ Q (.bl b) H
theorem call_isiS : CallR X (.builtin "isinstance") (rIsiS X.K) := by
  intro pins s σ H xs us Q I r h
  obtain ⟨x, tp, cs, t, ws, b, rfl, hT, k, ty, e, q⟩ := h
  obtain ⟨u1, u2, rfl, r1, r2⟩ := vals2 r
  cases (show u2 = Value.ref tp from r2)
  obtain ⟨P, Z, p, hx⟩ := kit_of I r1 ty
  obtain ⟨its, rv, ⟨o, h1, h2, n, h3⟩, _⟩ := I.tuple hT
  have e3 := ClsV.all k rv
  subst e3
  obtain ⟨oc, od, dt, sl⟩ := o
  simp only at h2 h3
  subst h2 h3
  exact PySem.W.kia_tup Z I.kIn p h1 e hx fun tk => ⟨.bl b, H, I.tok tk, rfl, q⟩
theorem tyNs_ok {K : Frag} {F : Hp} : ∀ {cs : List D} {vs : List V} {ns : List String}, RVs K F cs vs → tyNs cs = some ns → Paired ClsV vs (ns.map Value.type)
  | [], _, _, .nil, h => by cases h; exact .nil
  | .ty n :: ds, _, ns, .cons r rs, h => by
    simp only [tyNs] at h
    cases e : tyNs ds with
    | none => rw [e] at h; cases h
    | some ms =>
      rw [e] at h
      cases h
      cases r
      exact .cons (.ty n) (tyNs_ok rs e)
theorem kitAny_eq {K : Frag} {a : String} (ha : a ∈ tyKnown) : ∀ {ns : List String}, (∀ n ∈ ns, n ∈ ["str", "int", "bool", "tuple", "list", "dict"]) → PySem.W.kitAny K (.type a) (ns.map Value.type) = some (ns.any (kitT a))
  | [], _ => rfl
  | n :: ns, h => by
    have h1 := kit_ty (K := K) (kitB_eq a ha n (h n List.mem_cons_self))
    have h2 := kitAny_eq (K := K) ha fun m hm => h m (List.mem_cons_of_mem _ hm)
    refine kitAny_cons h1 (fun z => ?_) (fun z => ?_)
    · rw [h2, List.any_cons, z]; rfl
    · rw [List.any_cons, z]; rfl
theorem sim_isiT : SimC B (rIsiS B.K) dIsiT := by
  intro env O σ H F vs ds q Q R r h kk
  match ds, r, h with
  | [x, .tup cs], r, ⟨a, ns, e, e2, hn, h⟩ =>
    obtain ⟨v, w, rfl, r1, r2⟩ := r.two
    cases r2 with
    | tup hs hr =>
      exact ⟨v, _, _, _, _, _, rfl, same_tup R.fh hs, tyNs_ok hr e2, tyN_ok R.fh R.ow r1 e, kitAny_eq (tyN_mem e) hn, kk _ _ O H F (.refl R) (.bl _) h⟩
theorem so_isiT {e1 e2 : Expr} {tA : DTA} (S : Site X B k wx) (hg : Gl X "isinstance") (hm : X.mg "isinstance" = none) (ha : PA X [e1, e2] (liftA B tA)) (he : starEach [e1, e2] X.env = (false, eval e1 X.env) :: starEach [e2] X.env := by rfl) (hpl : (backTo pos (starEach [e2] X.env)).any (·.1) = false := by rfl) :
    PE X (.Call (.Name "isinstance" p) [e1, e2] [] pos) (lift B (dCB dIsiT tA)) :=
  de_cb (by rw [S.hK]; exact sim_isiT) (pe_callB call_isiS hg hm bt_isi ha (by decide) (by decide) he hpl)
/-- a built-in type by its name -/
theorem so_ty {x : Str} {n : String} (hg : Gl X x) (hm : X.mg x = none) (hv : bootBuiltins x = some (.type n) := by decide +kernel) (hn : x ≠ "__name__" := by decide) (hd : (x == ("__debug__" : Str)) = false := by decide) : PE X (.Name x pos) (lift B (dC (.ty n))) :=
  de_con (pe_bltn hg hm hv (v := .ty n) rfl hn hd) fun _ => .ty n
theorem i_isi {O : Ow} {q : DQ} {x : D} {n a : String} {b : Bool} (e : tyN O x = some a) (hn : ["str", "int", "bool", "tuple", "list", "dict"].contains n = true) (hb : kitT a n = b) (h : q (.bl b) O) : dIsi [x, .ty n] O q :=
  ⟨a, e, by simpa using hn, hb ▸ h⟩
end
end DL
set_option Elab.async false
set_option linter.all false
set_option maxRecDepth 100000
set_option maxHeartbeats 4000000
namespace DL
open PySem PySem.Spec PyProof.Rows L2
def putD (f : Str) (v : D) : List (Str × D) → List (Str × D)
  | [] => [(f, v)]
  | (g, x) :: r => if g = f then (g, v) :: r else (g, x) :: putD f v r
theorem RKV.put {K : Frag} {F : Hp} {f : Str} {d : D} {v : V} (r : RV K F d v) : ∀ {l : List (Str × D)} {m : List (Str × V)}, RKV K F l m → RKV K F (putD f d l) (putF f v m)
  | _, _, .nil => .cons ⟨rfl, r⟩ .nil
  | (g, x) :: l, (g', y) :: m, .cons h t => by
    obtain ⟨h1, h2⟩ := h
    simp only at h1
    subst h1
    unfold putD putF
    by_cases hg : g = f
    · rw [if_pos hg, if_pos hg]; exact .cons ⟨rfl, r⟩ t
    · rw [if_neg hg, if_neg hg]; exact .cons ⟨rfl, h2⟩ (RKV.put r t)
theorem RKV.look {K : Frag} {F : Hp} {f : Str} {d : D} : ∀ {l : List (Str × D)} {m : List (Str × V)}, RKV K F l m → l.lookup f = some d → ∃ v, m.lookup f = some v ∧ RV K F d v
  | _, _, .nil, h => by cases h
  | (g, x) :: l, (g', y) :: m, .cons h t, e => by
    obtain ⟨h1, h2⟩ := h
    simp only at h1
    subst h1
    rw [List.lookup_cons] at e ⊢
    cases hg : (f == g) with
    | true => rw [hg] at e; cases e; exact ⟨y, rfl, h2⟩
    | false => rw [hg] at e; exact RKV.look t e
theorem RKV.len {κ : Type} {K : Frag} {F : Hp} : ∀ {l : List (κ × D)} {m : List (κ × V)}, RKV K F l m → l.length = m.length
  | _, _, .nil => rfl
  | _, _, .cons _ t => congrArg (· + 1) (RKV.len t)
section
variable {X : Cx} {B : Bd} {pos : Pos} {k : Nat} {wx : DW} {e o value : Expr} {es : List Expr} {p pos' : Pos} {C : Addr} {f : Str} {ta tv : DTE} {env : Env} {O : Ow} {q : DQ} {E : DEnds}
/-- an instance of C: one's own, or data -/
def InsAt (C : Addr) (O : Ow) : D → List (Str × D) → Prop
  | .ref p, fs => ∃ dx, O p = some (.ins C dx fs)
  | .ins C' ns ds, fs => C' = C ∧ fs = ns.zip ds
  | _, _ => False
theorem rkv_zip {K : Frag} {F : Hp} : ∀ {ns : List Str} {ds : List D} {vs : List V}, RVs K F ds vs → RKV K F (ns.zip ds) (ns.zip vs)
  | [], _, _, _ => by simp only [List.zip_nil_left]; exact .nil
  | _ :: _, _, _, .nil => .nil
  | _ :: ns, _, _, .cons h t => .cons ⟨rfl, h⟩ (rkv_zip (ns := ns) t)
theorem InsAt.ok {K : Frag} {C : Addr} {O : Ow} {H F : Hp} (fh : Same F H) (ow : OwOk K O H F) {d : D} {v : V} {fs : List (Str × D)} (r : RV K F d v) (h : InsAt C O d fs) : ∃ a dx gs, v = .ref a ∧ H a = some (.ins C dx gs) ∧ RKV K F fs gs := by
  cases d <;> try exact h.elim
  · rename_i p
    obtain ⟨dx, e⟩ := h
    cases r
    obtain ⟨_, ho, e3, gs, rfl, rk⟩ := ow _ _ e
    exact ⟨_, dx, gs, rfl, e3, rk⟩
  · obtain ⟨rfl, rfl⟩ := h
    cases r with
    | ins e l hs => exact ⟨_, _, _, rfl, fh _ _ e, rkv_zip hs⟩
def fldK (C : Addr) (f : Str) (q : DQ) : DQ := fun x O1 => ∃ fs d, InsAt C O1 x fs ∧ fs.lookup f = some d ∧ q d O1
def dFld (C : Addr) (f : Str) (ta : DTE) : DTE := fun env O q => ta env O (fldK C f q)
theorem de_fld (S : Site X B k wx) (c : Cls X.K C) (n : NoAttr X.K C f) (he : PE X e (lift B ta)) (hb : attributeBase e f X.env (eval e X.env) = eval e X.env := by rfl) : PE X (.Attribute e f pos) (lift B (dFld C f ta)) :=
  PE.weak (pe_fld he hb) fun σ H Q h => by
    obtain ⟨env, O, F, q, R, h, kk⟩ := h
    refine ⟨env, O, F, _, R, h, fun d v O1 H1 F1 a1 r1 h1 => ?_⟩
    obtain ⟨fs, d, e1, e2, h1⟩ := h1
    obtain ⟨_, dx, gs, rfl, e3, rk⟩ := e1.ok a1.fh a1.ow r1
    obtain ⟨v, e4, rv⟩ := rk.look e2
    exact ⟨_, C, dx, gs, v, rfl, e3, c, n, e4, kk d v O1 H1 F1 a1 rv h1⟩
theorem i_fld (h : ta env O (fldK C f q)) : dFld C f ta env O q := h
theorem i_fldK {p dx : Addr} {fs : List (Str × D)} {d : D} (e1 : O p = some (.ins C dx fs)) (e2 : fs.lookup f = some d) (h : q d O) : fldK C f q (.ref p) O := ⟨fs, d, ⟨dx, e1⟩, e2, h⟩
theorem i_fldI {ns : List Str} {ds : List D} {d : D} (e2 : (ns.zip ds).lookup f = some d) (h : q d O) : fldK C f q (.ins C ns ds) O := ⟨_, d, ⟨rfl, rfl⟩, e2, h⟩
/-- self.f = v -/
def setfK (C : Addr) (f : Str) (y : D) (E : DEnds) (env : Env) : DQ := fun x O2 => match x with
  | .ref p => ∃ dx fs, O2 p = some (.ins C dx fs) ∧ fs.length < 1000 ∧ E.nx env (setO O2 p (.ins C dx (putD f y fs)))
  | _ => False
def dsFld (C : Addr) (f : Str) (ta tv : DTE) : DTS := fun E env O => tv env O fun y O1 => ta env O1 (setfK C f y E env)
theorem ds_fld (S : Site X B k wx) (c : Cls X.K C) (n : NoAttr X.K C f) (ha : PE X o (lift B ta)) (hv : PE X value (lift B tv)) (hs : swapsWith value (some (.Attribute o f pos')) pos.line X.env = pure false := by rfl) : PS X (.Assign [.Attribute o f pos'] value pos) (liftS B (dsFld C f ta tv)) :=
  PS.weak (ps_fld ha hv hs) fun E σ H h => by
    obtain ⟨env, O, F, d, R, h, m⟩ := h
    refine ⟨env, O, F, _, R, h, fun y v O1 H1 F1 a1 r1 h1 => ?_⟩
    refine ⟨env, O1, F1, _, R.call a1, h1, fun x u O2 H2 F2 a2 r2 h2 => ?_⟩
    cases x <;> try exact h2.elim
    cases r2
    obtain ⟨dx, fs, e1, hl, h2⟩ := h2
    obtain ⟨_, ho, e3, gs, rfl, rk⟩ := a2.ow _ _ e1
    have R2 := (R.call a1).call a2
    have a3 := R2.put e1 (o := .ins C dx (putF f v gs)) (u := .ins C dx (putD f y fs)) ⟨_, rfl, rk.put (r1.mono a2.ff)⟩
    exact ⟨_, C, dx, gs, rfl, e3, c, n, rk.len ▸ hl, m.nx env _ σ _ F2 (a1.trans (a2.trans a3)) R2.sl h2⟩
theorem i_sfld (h : tv env O fun y O1 => ta env O1 (setfK C f y E env)) : dsFld C f ta tv E env O := h
theorem i_setfK {y : D} {p dx : Addr} {fs : List (Str × D)} (e1 : O p = some (.ins C dx fs)) (hl : fs.length < 1000) (h : E.nx env (setO O p (.ins C dx (putD f y fs)))) : setfK C f y E env (.ref p) O := ⟨dx, fs, e1, hl, h⟩
/-- self.f += v, lists of one's own -/
def dsFldExt (C : Addr) (f : Str) (ta tv : DTE) : DTS := fun E env O => ta env O fun x O1 => match x with
  | .ref p => ∃ dx fs l, O1 p = some (.ins C dx fs) ∧ fs.lookup f = some (.ref l) ∧ tv env O1 fun y O2 => match y with
    | .ref b => ∃ xs zs dx' fs', O2 l = some (.lst xs) ∧ O2 b = some (.lst zs) ∧ xs.length + zs.length ≤ sizeLine ∧ O2 p = some (.ins C dx' fs') ∧ fs'.length < 1000 ∧ E.nx env (setO (setO O2 l (.lst (xs ++ zs))) p (.ins C dx' (putD f (.ref l) fs')))
    | _ => False
  | _ => False
theorem ds_fldExt (S : Site X B k wx) (c : Cls X.K C) (n : NoAttr X.K C f) (ha : PE X o (lift B ta)) (hv : PE X value (lift B tv)) : PS X (.AugAssign (.Attribute o f pos') .Add value pos) (liftS B (dsFldExt C f ta tv)) :=
  PS.weak (ps_fldaug (rd := rExt2) ha hv (fun pins s σ H x y u v Q I rx ry h => iop_ext pins s σ H x y u v Q I rx ry h)) fun E σ H h => by
    obtain ⟨env, O, F, d, R, h, m⟩ := h
    refine ⟨env, O, F, _, R, h, fun x v O1 H1 F1 a1 r1 h1 => ?_⟩
    cases x <;> try exact h1.elim
    rename_i p
    cases r1
    obtain ⟨dx, fs, l, e1, e2, h1⟩ := h1
    obtain ⟨_, ho, e3, gs, rfl, rk⟩ := a1.ow _ _ e1
    obtain ⟨v, e4, rv⟩ := rk.look e2
    cases rv
    refine ⟨p, C, dx, gs, .ref l, rfl, e3, c, n, e4, env, O1, F1, _, R.call a1, h1, fun y v O2 H2 F2 a2 r2 h2 => ?_⟩
    cases y <;> try exact h2.elim
    cases r2
    obtain ⟨xs, zs, dx', fs', i1, i2, hl, i3, hl2, h2⟩ := h2
    obtain ⟨_, ho1, j1, vs1, rfl, s1⟩ := a2.ow _ _ i1
    obtain ⟨_, ho2, j2, vs2, rfl, s2⟩ := a2.ow _ _ i2
    obtain ⟨_, ho3, j3, gs', rfl, s3⟩ := a2.ow _ _ i3
    have hne : p ≠ l := fun z => by rw [z, i1] at i3; cases i3
    have R2 := (R.call a1).call a2
    have a3 := R2.put i1 (o := .lst (vs1 ++ vs2)) (u := .lst (xs ++ zs)) ⟨_, rfl, s1.append s2⟩
    have R3 := R2.call a3
    have i4 : (setO O2 l (.lst (xs ++ zs))) p = some (.ins C dx' fs') := by rw [setO_ne hne]; exact i3
    have a4 := R3.put i4 (o := .ins C dx' (putF f (.ref l) gs')) (u := .ins C dx' (putD f (.ref l) fs')) ⟨_, rfl, s3.put (.ref l)⟩
    exact ⟨l, _, vs1, vs2, rfl, rfl, j1, j2, by rw [← s1.length, ← s2.length]; exact hl, dx', gs', by rw [upd_ne hne]; exact j3, s3.len ▸ hl2, m.nx env _ σ _ F2 (a1.trans (a2.trans (a3.trans a4))) R3.sl h2⟩
end
section
variable {X : Cx} {B : Bd} {pos : Pos} {C f : Addr} {fd : FuncData} {ps : List Str} {k n : Nat}
theorem run_mkG {pins : List (Addr × Obj)} {σ : St} {H : Hp} {s : Shared} {Q : VK} {us : List Value} {vs dvs : List V} {ds : List Value} {W : WX} {sp : Sp}
    (M : Mk X.K C f) (Fn : FnG X.prog X.w X.K X.mg X.base (L2.CX X.prog X.w) k f fd ps sp) (hgd : X.A.guards = some []) (hr : Room (k + 1) X.A) (hb : Binds X.K fd ps ds) (hd : Vals dvs ds) (tk : Takes X W)
    (I : Inv X pins σ H s) (r : Vals vs us)
    (h : ∀ x dx, H x = none → H dx = none → dx ≠ x → sp (.ref x :: (vs ++ dvs)) (upd (upd H dx (.own x)) x (.ins C dx [])) (fun v H2 => v = .non ∧ Q (.ref x) H2) (fun c d H' => W c d σ H')) :
    wpAny (model X.prog X.w) X.A (call (.ref C) us) (EP X pins σ Q) X.xe s := by
  have z := h (s.heap.objs.size + 1) s.heap.objs.size (I.hok.fresh (Nat.le_succ _)) (I.hok.fresh (Nat.le_refl _)) (Nat.ne_of_lt (Nat.lt_succ_self _))
  have J := Inv.made (C := C) I
  have rr : Vals (V.ref (s.heap.objs.size + 1) :: (vs ++ dvs)) (Value.ref (s.heap.objs.size + 1) :: (us ++ ds)) := .cons rfl (r.append hd)
  have lens : (Value.ref (s.heap.objs.size + 1) :: us ++ ds).length = ps.length := (rr.length.symm.trans (Fn.len _ _ _ _ z))
  refine wpAny_call (make_map (f := f) I.kIn M.makes M.init (beq_iff_eq.mp M.fn) (codeAny_mono (Fn.run _ X.stack _ _ ⟨Value.ref (s.heap.objs.size + 1) :: us, []⟩ (Value.ref (s.heap.objs.size + 1) :: (us ++ ds)) _ _ _ hgd (hr.make C us [])
    (J.env0.make C us []) (hb _ (Value.ref (s.heap.objs.size + 1) :: us) J.kIn lens) rr z) fun r s' y => ?_))
  match r, y with
  | .error e, y => exact tk _ s' (XE.of_call J (fun _ _ _ z => z) y)
  | .ok (.ret u), y =>
    obtain ⟨v, H', J2, rv, ev, q3⟩ := J.after y
    subst ev
    exact ⟨rv, ⟨V.ref (s.heap.objs.size + 1), H', J2, rfl, q3⟩⟩
  | .ok .next, y => exact False.elim y
  | .ok .brk, y => exact False.elim y
  | .ok .cont, y => exact False.elim y
def dMake (C : Addr) (fn : DF) (n : Nat) (w : DW) (dds : List D) (ta : DTA) : DTE := fun env O q => ta env O fun ds O1 => (ds ++ dds).length + 1 = n ∧ ∀ x dx, O1 x = none → O1 dx = none → dx ≠ x →
  fn (.ref x :: (ds ++ dds)) (setO O1 x (.ins C dx [])) (fun d O2 => d = .non ∧ q (.ref x) O2) fun c fs O' => w c fs env O'
/-- the dict of a new instance: nobody's own, it stands -/
theorem Rel.junk {env : Env} {O : Ow} {σ : St} {H F : Hp} (R : Rel B env O σ H F) {p : Addr} (h : H p = none) (o : HO) : After B.K O H F O (upd H p o) F := by
  obtain ⟨hO, hF⟩ := R.free h
  refine ⟨Same.refl _, fun b x e => by rw [upd_ne (ne_of_none e hF)]; exact R.fh b x e, fun b x e _ => .inl (by rw [upd_ne (ne_of_none e h)]; exact e), fun _ _ _ e => e, fun q x e => ?_, fun q x e => .inl (by rw [e]; simp), fun _ _ t => tabs_new t h⟩
  have hq : q ≠ p := fun z => by rw [z, hO] at e; cases e
  obtain ⟨h1, ho, h3, h4⟩ := R.ow q x e
  exact ⟨h1, ho, by rw [upd_ne hq]; exact h3, h4⟩
theorem sp_make {env : Env} {O : Ow} {σ : St} {H F : Hp} {ds : List D} {vs : List V} {fn : DF} {w : DW} {q : DQ} {Q : VK} {x dx : Addr} (R : Rel B env O σ H F) (r : RVs B.K F ds vs) (hl : ds.length + 1 = n) (hx : H x = none) (hdx : H dx = none) (hne : dx ≠ x)
    (h : fn (.ref x :: ds) (setO O x (.ins C dx [])) (fun d O2 => d = .non ∧ q (.ref x) O2) fun c fs O' => w c fs env O') (kk : ∀ d v O' H' F', After B.K O H F O' H' F' → RV B.K F' d v → q d O' → Q v H') :
    spD B.K n fn (.ref x :: vs) (upd (upd H dx (.own x)) x (.ins C dx [])) (fun v H2 => v = .non ∧ Q (.ref x) H2) (fun c d H' => liftX B w c d σ H') := by
  have a1 := R.junk hdx (.own x)
  have R1 := R.call a1
  have hx1 : (upd H dx (.own x)) x = none := by rw [upd_ne (Ne.symm hne)]; exact hx
  have a2 := R1.own hx1 (o := .ins C dx []) (u := .ins C dx []) ⟨[], rfl, .nil⟩
  have R2 := R1.call a2
  refine ⟨F, _, .ref x :: ds, _, _, R2.fh, R2.ow, .cons (.ref x) r, hl, h, fun d v O' H' F' a' r' hq => ?_, fun c dx fs O' H' F' a' xr hx => ⟨env, O', F', fs, R2.call a', xr, hx⟩⟩
  obtain ⟨rfl, hq⟩ := hq
  cases r'
  exact ⟨rfl, kk _ _ O' H' F' (a1.trans (a2.trans a')) (.ref x) hq⟩
section
variable {e : Expr} {es : List Expr} {x : Str} {p : Pos} {fn : DF} {w : DW} {ta : DTA}
theorem de_make {dvs : List V} {dds : List D} {ds : List Value} (M : Mk X.K C f) (Fn : FnG X.prog X.w X.K X.mg X.base (L2.CX X.prog X.w) k f fd ps (spD B.K n fn)) (hgd : X.A.guards = some []) (hr : Room (k + 1) X.A) (hg : Gl X x) (hm : X.mg x = some (.ref C))
    (hb : Binds X.K fd ps ds) (hd : Vals dvs ds) (hdd : ∀ F, RVs B.K F dds dvs) (tk : TakesD X B w) (ha : PA X (e :: es) (liftA B ta))
    (hdb : (x == ("__debug__" : Str)) = false := by decide) (he : starEach (e :: es) X.env = (false, eval e X.env) :: starEach es X.env := by rfl) (hpl : (backTo pos (starEach es X.env)).any (·.1) = false := by rfl) :
    PE X (.Call (.Name x p) (e :: es) [] pos) (lift B (dMake C fn n w dds ta)) := by
  refine ⟨fun pins s σ H Q I h => wpAny_Call_Name_kw (ld_glob I hg hm ?_ hdb)⟩
  obtain ⟨env, O, F0, q, R, h, kk⟩ := h
  refine PySem.W.callWith_K (h₀ := X.base) I.ok.mod.kin M.kp (thn (ha.run pos pins s σ H (fun vs H1 => ∀ x dx, H1 x = none → H1 dx = none → dx ≠ x → spD B.K n fn (.ref x :: (vs ++ dvs)) (upd (upd H1 dx (.own x)) x (.ins C dx [])) (fun v H2 => v = .non ∧ Q (.ref x) H2) (fun c d H' => liftX B w c d σ H')) I ⟨env, O, F0, _, R, h, ?_⟩) fun us s1 ⟨vs, H1, I1, rv, z⟩ => ⟨I1.kIn, ?_⟩) he hpl
  · intro ds vs O1 H1 F1 a1 r1 q1 x dx hx hdx hne
    have R1 := R.call a1
    exact sp_make R1 (r1.append (hdd F1)) q1.1 hx hdx hne (q1.2 x dx (R1.free hx).1 (R1.free hdx).1 hne) fun d v O' H' F' a' r' hq => kk d v O' H' F' (a1.trans a') r' hq
  · exact run_mkG M Fn hgd hr hb hd tk I1 rv z
end
theorem i_make {fn : DF} {w : DW} {dds : List D} {ta : DTA} {env : Env} {O : Ow} {q : DQ} (h : ta env O fun ds O1 => (ds ++ dds).length + 1 = n ∧ ∀ x dx, O1 x = none → O1 dx = none → dx ≠ x →
  fn (.ref x :: (ds ++ dds)) (setO O1 x (.ins C dx [])) (fun d O2 => d = .non ∧ q (.ref x) O2) fun c fs O' => w c fs env O') : dMake C fn n w dds ta env O q := h
end
section
variable {X : Cx} {B : Bd} {pos : Pos} {k : Nat} {wx : DW} {e : Expr} {C g : Addr} {f f' : Str} {ta : DTE}
theorem de_prop {pa : Addr} {fd : FuncData} (S : Site X B (k + 2) wx) (c : Cls X.K C) (hp : PropOf X.K C f pa g) (Fn : FnOk X.prog X.w X.K X.mg X.base CX0 1 g fd ["self"] (getSp C f')) (hb : Binds X.K fd ["self"] [])
    (he : PE X e (lift B ta)) (hab : attributeBase e f X.env (eval e X.env) = eval e X.env := by rfl) : PE X (.Attribute e f pos) (lift B (dFld C f' ta)) :=
  PE.weak (pe_prop (E := fun _ _ _ => False) he c hp Fn (S.rm.mono (by omega)) hb .nil (fun _ _ _ _ _ _ _ z => z) hab) fun σ H Q h => by
    obtain ⟨env, O, F, q, R, h, kk⟩ := h
    refine ⟨env, O, F, _, R, h, fun d v O1 H1 F1 a1 r1 h1 => ?_⟩
    obtain ⟨fs, d, e1, e2, h1⟩ := h1
    obtain ⟨_, dx, gs, rfl, e3, rk⟩ := e1.ok a1.fh a1.ow r1
    obtain ⟨v, e4, rv⟩ := rk.look e2
    exact ⟨_, dx, gs, rfl, e3, _, dx, gs, v, rfl, e3, e4, kk d v O1 H1 F1 a1 rv h1⟩
end
end DL
set_option Elab.async false
set_option linter.all false
set_option maxRecDepth 100000
set_option maxHeartbeats 4000000
namespace DL
open PySem PySem.Spec PyProof.Rows L2
theorem enum1_new {v : Value} {o : Obj} {Hh : Heap → Prop} (Bg : Begins v o Hh) :
    Meets (Builtin.«enumerate.__new__» ⟨[.type "enumerate", v], []⟩) (fun _ R s => Hh s.heap ∧
      R (.ok (.ret (.ref (s.heap.push o).objs.size))) { s with heap := (s.heap.push o).push { cls := .type "enumerate", data := .fields #[.none, .bool false, .ref s.heap.objs.size, rawInt 0, .none, .none] } }) :=
  .of_wp fun prog w A R s z => by
    obtain ⟨hp, g, d, tk, os⟩ := s
    obtain ⟨z1, z⟩ := z
    have hsub := sub_enumerate
    have q1 : ∀ {A' : Around} {E : Value → Shared → Prop} {Q : Value → Shared → Prop}, Q (.ref hp.objs.size) ⟨hp.push o, g, d, tk, os⟩ → wpAny (model prog w) A' (pyIter v) Q E ⟨hp, g, d, tk, os⟩ :=
      fun y => Bg.iter prog w _ _ ⟨hp, g, d, tk, os⟩ _ z1 y
    wp_walk using q1
    refine wpAny_stack_any fun st => wpAny_pure ?_
    split
    · rename_i c _ _ _ _ _
      cases (c == Value.type "enumerate")
      · wp_walk using q1
        exact ⟨_, rfl, z⟩
      · wp_walk using q1
        exact ⟨_, rfl, z⟩
    · wp_walk using q1
      exact ⟨_, rfl, z⟩
theorem enum1 {prog : Program} {w : World} {A : Around} {E : Value → Shared → Prop} {s : Shared} {v : Value} {o : Obj} {Hh : Heap → Prop} {Q : Value → Shared → Prop} (Bg : Begins v o Hh) (h1 : Hh s.heap)
    (h : ∀ h', IsEnum h' (s.heap.objs.size + 1) s.heap.objs.size 0 .none → h'.get? s.heap.objs.size = some o → (∀ b u, s.heap.get? b = some u → h'.get? b = some u) → Q (.ref (s.heap.objs.size + 1)) { s with heap := h' }) :
    wpAny (model prog w) A (call (.type "enumerate") [v]) Q E s := by
  refine callType_new F.called_enumerate (by decide) (F.typeCall_enumerate_1 _) (F.newCall_enumerate_1 _) (fun obj => F.args_object_init_2 obj _) F.entry_enumerate_new (enum1_new Bg) ⟨h1, ?_⟩
  have sz : (s.heap.push o).objs.size = s.heap.objs.size + 1 := Heap.size_push ..
  show _ ∧ _
  rw [sz]
  have en : IsEnum ((s.heap.push o).push { cls := .type "enumerate", data := .fields #[.none, .bool false, .ref s.heap.objs.size, rawInt 0, .none, .none] }) (s.heap.objs.size + 1) s.heap.objs.size 0 .none := by
    have y := Heap.get?_push_size (s.heap.push o) (o := { cls := .type "enumerate", data := .fields #[.none, .bool false, .ref s.heap.objs.size, rawInt 0, .none, .none] }) rfl
    rw [sz] at y
    exact y
  exact ⟨⟨_, en, rfl⟩, h _ en (Heap.get?_push_of_some _ (Heap.get?_push_size _ Bg.free)) fun b u x => Heap.get?_push_of_some _ (Heap.get?_push_of_some _ x)⟩
/-- the tuple at a, each item in a new pair -/
def IteT (K : Frag) (a : Addr) : It :=
  ⟨fun i H => ∃ (xs : List V) (x : V), SqT K H a xs ∧ xs[i]? = some x, fun i H v H' => ∃ T x, v = .ref T ∧ H T = none ∧ (∃ o : Obj, o.dict = none ∧ H' = upd H T (.frz o (.tup [.int (i : Nat), x]))) ∧ ∀ xs, SqT K H a xs → xs[i]? = some x, fun i H => ∃ xs : List V, SqT K H a xs ∧ xs.length = i⟩
theorem turn_enumT {P : Program} {w : World} {K : Frag} {elts : List Expr} {kk : Nat} {tpos : Pos} (a e it : Addr) (hai : a ≠ it) (hae : a ≠ e) :
    Turn P w K (.Tuple elts kk tpos) (IteT K a) [e, it] e (fun i h => (∃ old, IsEnum h e it ((i : Nat) : Int) old) ∧ h.IsTupleIter it a i ∧ e ≠ it) where
  mem := by simp
  obj := fun i h st b hb => by
    obtain ⟨⟨old, he⟩, ⟨o, ho, hc, hd⟩, _⟩ := st
    have e' : b = e ∨ b = it := by simpa using hb
    rcases e' with z | z
    · rw [z]; exact ⟨_, he, fun v q => nomatch q⟩
    · rw [z]; exact ⟨o, ho, fun v q => by rw [hd] at q; cases q⟩
  keep := fun i h h' st k => let ⟨⟨old, he⟩, hi, hne⟩ := st; ⟨⟨old, k e (by simp) _ he⟩, hi.at fun o q => k it (by simp) o q, hne⟩
  item := by
    intro X hP hw hK hc i pins s σ H E I hf st hg
    subst hP hw hK
    obtain ⟨⟨old, he⟩, hit, hne⟩ := st
    obtain ⟨xs, x, hq, hx⟩ := hg
    obtain ⟨its, rv, p, hz⟩ := I.tuple hq
    obtain ⟨u, hu, ru⟩ := rv.get hx
    have l1 : e < s.heap.objs.size := Heap.lt_size he
    have l2 : it < s.heap.objs.size := by obtain ⟨_, q, _⟩ := hit; exact Heap.lt_size q
    have hlt : i < its.toArray.size := by
      have := (List.getElem?_eq_some_iff.mp hu).1
      simpa using this
    have hef : e ∉ [it, a] := by simp [hne, Ne.symm hae]
    refine wpAny_pyNext_enum_itemD (Draws.tuple (A := X.A.in1) (I.ok.hd hc) it a hai its.toArray) he ⟨hit, p⟩ hlt hne hef fun y h' tk hy ho st' hT hsz hk => ?_
    have ey : y = u := by
      have : its[i]? = some y := by simpa using hy
      rw [hu] at this
      exact (Option.some.inj this).symm
    subst ey
    refine ⟨_, rfl, wpAny_letOwnedTupleGo_enum (s := { s with heap := h', toks := tk + 1 }) ho fun h'' he' sb => ?_⟩
    have hT2 : h''.get? s.heap.objs.size = some { cls := .type "tuple", data := .seq #[.int i tk, y] } := (sb.2 _ (Nat.ne_of_gt l1)).trans hT
    have new : ObjOk X.prog X.w (upd H s.heap.objs.size (.frz { cls := .type "tuple", data := .seq #[.int i tk, y] } (.tup [.int (i : Nat), x]))) h'' s.heap.objs.size (.frz { cls := .type "tuple", data := .seq #[.int i tk, y] } (.tup [.int (i : Nat), x])) :=
      ⟨hT2, by show 2 ≤ sizeLine; decide, [.int i tk, y], .cons ⟨_, rfl⟩ (.cons ru .nil), ⟨_, hT2, rfl, _, rfl⟩⟩
    have I1 : Inv X pins σ (upd H s.heap.objs.size (.frz { cls := .type "tuple", data := .seq #[.int i tk, y] } (.tup [.int (i : Nat), x]))) { s with heap := h'', toks := tk + 1 } :=
      I.turnedNew (ch := [e, it]) (fun b ob hb q => (sb.2 b (fun z => hb (by simp [z]))).trans (hk b ob (fun z => hb (by simp [z])) (fun z => hb (by simp [z])) q)) hf (Nat.le_refl _) new
    refine ⟨.ref s.heap.objs.size, _, I1, rfl, ⟨_, x, rfl, I.hok.fresh (Nat.le_refl _), ⟨_, rfl, rfl⟩, fun ys hy => by rw [I.tuple_inj hy hq]; exact hx⟩, ⟨⟨y, ?_⟩, st'.1.at fun o q => (sb.2 it (Ne.symm hne)).trans q, hne⟩, fun b hb => ?_⟩
    · have e1 : ((i + 1 : Nat) : Int) = (i : Int) + 1 := by omega
      rw [e1]; exact he'
    · have hb' : b < s.heap.objs.size := by
        have e' : b = e ∨ b = it := by simpa using hb
        rcases e' with z | z
        · rw [z]; exact l1
        · rw [z]; exact l2
      rw [upd_ne (Nat.ne_of_lt hb')]
      exact (hf b hb).1
  done := by
    intro X hP hw hK hc i pins s σ H E I hf st hg
    subst hP hw hK
    obtain ⟨⟨old, he⟩, hit, hne⟩ := st
    obtain ⟨xs, hq, hx⟩ := hg
    obtain ⟨its, rv, p, hz⟩ := I.tuple hq
    obtain ⟨f0, f1, f2, f3, f4, f5⟩ := hf it (by simp)
    have hl := rv.length
    have hi : i = its.toArray.size := by rw [List.size_toArray, ← hl, hx]
    subst hi
    exact wpAny_pyNext_enum_endD (Draws.tuple (A := X.A.in1) (I.ok.hd hc) it a hai its.toArray) he ⟨hit, p⟩ fun h' eb => ⟨rfl, I.turned (t' := s.toks) (fun b o hb q => eb b o hb q) f0 f1 f3 f4 f5⟩
  self := fun A i s Q E st h => let ⟨⟨_, he⟩, _⟩ := st; wpAny_pyIter_enum he h
/-- the list at a as it stands at each turn, each item in a new pair, told as it stands -/
def IteL (K : Frag) (a : Addr) : It :=
  ⟨fun i H => ∃ (xs : List V) (x : V), SqL K H a xs ∧ xs[i]? = some x, fun i H v H' => ∃ T x, v = .ref T ∧ H T = none ∧ (∃ o : Obj, o.dict = none ∧ H' = upd H T (.frz o (.tup [.int (i : Nat), x]))) ∧ ∀ xs, SqL K H a xs → xs[i]? = some x, fun i H => ∃ xs : List V, SqL K H a xs ∧ xs.length ≤ i⟩
theorem turn_enumL {P : Program} {w : World} {K : Frag} {elts : List Expr} {kk : Nat} {tpos : Pos} (a e it : Addr) :
    Turn P w K (.Tuple elts kk tpos) (IteL K a) [e, it] e (fun i h => (∃ old, IsEnum h e it ((i : Nat) : Int) old) ∧ h.IsListIter it a i ∧ e ≠ it) where
  mem := (turn_enum (P := P) (w := w) (K := K) (elts := elts) (kk := kk) (tpos := tpos) a e it).mem
  obj := (turn_enum (P := P) (w := w) (K := K) (elts := elts) (kk := kk) (tpos := tpos) a e it).obj
  keep := (turn_enum (P := P) (w := w) (K := K) (elts := elts) (kk := kk) (tpos := tpos) a e it).keep
  item := by
    intro X hP hw hK hc i pins s σ H E I hf st hg
    subst hP hw hK
    obtain ⟨⟨old, he⟩, hit, hne⟩ := st
    obtain ⟨xs, x, hq, hx⟩ := hg
    obtain ⟨vs, rv, pl, _⟩ := I.list hq
    obtain ⟨y, hy, ry⟩ := rv.get hx
    have l1 : e < s.heap.objs.size := Heap.lt_size he
    have l2 : it < s.heap.objs.size := by obtain ⟨_, q, _⟩ := hit; exact Heap.lt_size q
    have lb : ∀ b ∈ [e, it], b < s.heap.objs.size := fun b hb => by
      rcases List.mem_cons.mp hb with z | z
      · rw [z]; exact l1
      · rw [List.mem_singleton.mp z]; exact l2
    refine wpAny_pyNext_enum_item he hit pl.isList (x := y) (by simpa using hy) hne fun h1 ho st1 hT _ hk => ⟨_, rfl, ?_⟩
    refine wpAny_letOwnedTupleGo_enum (s := { s with heap := h1, toks := s.toks + 1 }) ho fun h2 he2 sb => ?_
    have hT2 : h2.get? s.heap.objs.size = some { cls := .type "tuple", data := .seq #[.int i s.toks, y] } := (sb.2 _ (Nat.ne_of_gt l1)).trans hT
    have new : ObjOk X.prog X.w (upd H s.heap.objs.size (.frz { cls := .type "tuple", data := .seq #[.int i s.toks, y] } (.tup [.int (i : Nat), x]))) h2 s.heap.objs.size (.frz { cls := .type "tuple", data := .seq #[.int i s.toks, y] } (.tup [.int (i : Nat), x])) :=
      ⟨hT2, by show 2 ≤ sizeLine; decide, [.int i s.toks, y], .cons ⟨_, rfl⟩ (.cons ry .nil), ⟨_, hT2, rfl, _, rfl⟩⟩
    have I1 := I.turnedNew (t' := s.toks + 1) (ch := [e, it]) (fun b ob hb q => (sb.2 b (fun z => hb (by simp [z]))).trans (hk b ob (fun z => hb (by simp [z])) (fun z => hb (by simp [z])) q)) hf (Nat.le_refl _) new
    have ei : ((i + 1 : Nat) : Int) = (i : Int) + 1 := by omega
    refine ⟨.ref s.heap.objs.size, _, I1, rfl, ⟨_, x, rfl, I.hok.fresh (Nat.le_refl _), ⟨_, rfl, rfl⟩, fun ys hy => by rw [I.list_inj hy hq]; exact hx⟩, ⟨⟨y, by rw [ei]; exact he2⟩, st1.at fun o q => (sb.2 it (Ne.symm hne)).trans q, hne⟩, fun b hb => ?_⟩
    rw [upd_ne (Nat.ne_of_lt (lb b hb))]
    exact (hf b hb).1
  done := (turn_enum (P := P) (w := w) (K := K) (elts := elts) (kk := kk) (tpos := tpos) a e it).done
  self := (turn_enum (P := P) (w := w) (K := K) (elts := elts) (kk := kk) (tpos := tpos) a e it).self
/-- enumerate(x), x a list or a tuple -/
def iEnumS (K : Frag) (ta : TA) : TI := fun σ H R => ta σ H fun vs H1 => ∃ a, vs = [.ref a] ∧ (((∃ xs, SqL K H1 a xs) ∧ R (IteL K a) H1) ∨ ((∃ xs, SqT K H1 a xs) ∧ R (IteT K a) H1))
section
variable {X : Cx} {B : Bd} {k : Nat} {wx : DW}
theorem pi_enumS {e : Expr} {ta : TA} {p pos tpos : Pos} {elts : List Expr} {kk : Nat} (hg : Gl X "enumerate") (hm : X.mg "enumerate" = none) (ha : PA X [e] ta) (hs : starEach [e] X.env = [(false, eval e X.env)] := by rfl) :
    PI X (.Tuple elts kk tpos) (.Call (.Name "enumerate" p) [e] [] pos) (iEnumS X.K ta) := by
  refine ⟨fun pins s σ H R I h => ?_⟩
  refine Call_ (ld_blt I hg hm boot_enumerate (PyProof.Rows.callWith_type1 (thn (ha.run pos pins s σ H _ I h) fun us s1 ⟨vs, H1, I1, r1, q1⟩ => ?_) hs rfl))
  obtain ⟨a, ex, q1⟩ := q1
  subst ex
  cases r1 with
  | cons r rr =>
    cases rr
    cases r
    have fps : ∀ b ∈ [s1.heap.objs.size + 1, s1.heap.objs.size], FpOk X pins H1 b := fun b hb => by
      have e' : b = s1.heap.objs.size + 1 ∨ b = s1.heap.objs.size := by simpa using hb
      have hle : s1.heap.objs.size ≤ b := by
        rcases e' with z | z
        · rw [z]; exact Nat.le_add_right _ _
        · rw [z]; exact Nat.le_refl _
      exact I1.fpOk hle (I1.hok.fresh hle)
    rcases q1 with ⟨⟨xs, hq⟩, q⟩ | ⟨⟨xs, hq⟩, q⟩
    · obtain ⟨its, rv, p', hz⟩ := I1.list hq
      refine call_enumerate_list p'.isList fun h' he hit hsz hk => wpAny_pyIter_enum he ?_
      exact ⟨s1.heap.objs.size + 1, [s1.heap.objs.size + 1, s1.heap.objs.size], _, _, H1, rfl, I1.kept (t' := s1.toks) hk, turn_enumL a (s1.heap.objs.size + 1) s1.heap.objs.size, ⟨⟨.none, he⟩, hit, Nat.succ_ne_self _⟩, fps, q⟩
    · obtain ⟨its, rv, p', hz⟩ := I1.tuple hq
      have hal : a < s1.heap.objs.size := by obtain ⟨_, y, _⟩ := p'; exact Heap.lt_size y
      refine enum1 (begins_tuple a its.toArray) p' fun h' he hit hk => wpAny_pyIter_enum he ?_
      exact ⟨s1.heap.objs.size + 1, [s1.heap.objs.size + 1, s1.heap.objs.size], _, _, H1, rfl, I1.kept (t' := s1.toks) hk, turn_enumT a (s1.heap.objs.size + 1) s1.heap.objs.size (Nat.ne_of_lt hal) (Nat.ne_of_lt (Nat.lt_succ_of_lt hal)), ⟨⟨.none, he⟩, ⟨_, hit, rfl, rfl⟩, Nat.succ_ne_self _⟩, fps, q⟩
/-- the pairs -/
def enumD (ds : List D) : List D := (List.range ds.length).zipWith (fun i d => D.tup [.int (i : Nat), d]) ds
theorem enumD_get (ds : List D) (i : Nat) : (enumD ds)[i]? = (ds[i]?).map fun d => D.tup [.int (i : Nat), d] := by
  unfold enumD
  rw [List.getElem?_zipWith]
  by_cases h : i < ds.length
  · rw [List.getElem?_range h]
    cases ds[i]? <;> rfl
  · have h' : ds[i]? = none := List.getElem?_eq_none (Nat.le_of_not_lt h)
    rw [h']
    cases (List.range ds.length)[i]? <;> rfl
theorem enumD_len (ds : List D) : (enumD ds).length = ds.length := by simp [enumD]
def diEnum (ta : DTE) : DTI := fun env O q => ta env O fun d O1 => match d with
  | .tup ds => q (enumD ds) (fun _ => True) O1
  | d => ∃ ds, asL O1 d = some ds ∧ q (enumD ds) (gdL O1 d) O1
theorem di_enum {e : Expr} {te : DTE} {p pos tpos : Pos} {elts : List Expr} {kk : Nat} (S : Site X B k wx) (hg : Gl X "enumerate") (hm : X.mg "enumerate" = none) (h : PE X e (lift B te)) (hs : starEach [e] X.env = [(false, eval e X.env)] := by rfl) :
    PI X (.Tuple elts kk tpos) (.Call (.Name "enumerate" p) [e] [] pos) (liftI B (diEnum te)) := PI.weak (pi_enumS hg hm (da_cons h da_nil hs) hs) fun σ H R hh => by
  have hK := S.hK
  obtain ⟨env, O, F, q, R0, hh, kk⟩ := hh
  refine ⟨env, O, F, fun ds O1 => match ds with
    | [d] => (match d with
      | .tup ds => q (enumD ds) (fun _ => True) O1
      | d => ∃ ds, asL O1 d = some ds ∧ q (enumD ds) (gdL O1 d) O1)
    | _ => False, R0, hh, fun ds vs O1 H1 F1 a1 r1 h1 => ?_⟩
  have laid : ∀ (O2 : Ow) (H2 F2 : Hp) (T : Addr) (i : Nat) (d : D) (x : V) (o : Obj), Same F2 H2 → OwOk B.K O2 H2 F2 → H2 T = none → o.dict = none → RV B.K F2 d x →
      ∃ F3, After B.K O2 H2 F2 O2 (upd H2 T (.frz o (.tup [.int (i : Nat), x]))) F3 ∧ RV B.K F3 (.tup [.int (i : Nat), d]) (.ref T) := fun O2 H2 F2 T i d x o fh ow hT hd r => by
    have R2 : Rel ⟨B.K, O2, H2, F2⟩ [] O2 [] H2 F2 := ⟨.rfl' fh ow, rfl, fun j d e => by cases e⟩
    have a := R2.froz hT (.frz o (.tup [.int (i : Nat), x]))
    exact ⟨_, a, .tup (SqN.new hd) (.cons (.int _) (.cons (r.mono a.ff) .nil))⟩
  match ds, r1, h1 with
  | [d], r1, h1 =>
    obtain ⟨v, rfl, rd⟩ := r1.one
    have hL : (∃ ds, asL O1 d = some ds ∧ q (enumD ds) (gdL O1 d) O1) → ∃ a, [v] = [V.ref a] ∧ (((∃ xs, SqL X.K H1 a xs) ∧ R (IteL X.K a) H1) ∨ ((∃ xs, SqT X.K H1 a xs) ∧ R (IteT X.K a) H1)) := by
      rintro ⟨ds, e, h1⟩
      obtain ⟨a, xs, rfl, hs, hr⟩ := asL_sq a1.fh a1.ow rd e
      refine ⟨a, rfl, .inl ⟨⟨xs, by rw [hK]; exact hs⟩, kk _ _ O1 H1 F1 _ a1 ?_ h1⟩⟩
      intro O2 H2 F2 i s2 fh2 ow2 gd
      obtain ⟨a', ys, e', hs', hr'⟩ := asL_sq fh2 ow2 (rd.mono s2) (asL_gd e gd)
      cases e'
      rw [hK]
      refine ⟨fun x hx => ?_, fun hi => ⟨ys, hs', by rw [hi, enumD_len, hr'.length]; exact Nat.le_refl _⟩⟩
      rw [enumD_get] at hx
      cases hd : ds[i]? with
      | none => rw [hd] at hx; cases hx
      | some d' =>
        rw [hd] at hx
        cases hx
        obtain ⟨v', e1, r'⟩ := hr'.get hd
        refine ⟨⟨ys, v', hs', e1⟩, fun v H3 hy => ?_⟩
        obtain ⟨T, x, rfl, hT, ⟨o, hd, rfl⟩, hy⟩ := hy
        obtain rfl : x = v' := Option.some.inj ((hy ys hs').symm.trans e1)
        exact laid O2 H2 F2 T i d' x o fh2 ow2 hT hd r'
    cases d <;> simp only at h1 <;> try exact hL h1
    rename_i ds0
    cases rd with
    | @tup a xs _ hs hr =>
      refine ⟨a, rfl, .inr ⟨⟨xs, by rw [hK]; exact same_tup a1.fh hs⟩, kk _ _ O1 H1 F1 _ a1 ?_ h1⟩⟩
      intro O2 H2 F2 i s2 fh2 ow2 _
      have hs' : SqT B.K H2 a xs := same_tup (s2.trans fh2) hs
      rw [hK]
      refine ⟨fun x hx => ?_, fun hi => ⟨xs, hs', by rw [hi, enumD_len, hr.length]⟩⟩
      rw [enumD_get] at hx
      cases hd : ds0[i]? with
      | none => rw [hd] at hx; cases hx
      | some d' =>
        rw [hd] at hx
        cases hx
        obtain ⟨v', e1, r'⟩ := hr.get hd
        refine ⟨⟨xs, v', hs', e1⟩, fun v H3 hy => ?_⟩
        obtain ⟨T, x, rfl, hT, ⟨o, hd, rfl⟩, hy⟩ := hy
        obtain rfl : x = v' := Option.some.inj ((hy xs hs').symm.trans e1)
        exact laid O2 H2 F2 T i d' x o fh2 ow2 hT hd (r'.mono s2)
theorem unpack_star {prog : Program} {w : World} {A : Around} {E : Value → Shared → Prop} {s : Shared} {l : Addr} {u : Value} {us : List Value} {Q : List Value → Shared → Prop} (hl : IsTup s.heap l (u :: us).toArray) (hh : A.handled = none) (hz : us.length < 16384)
    (h : ∀ (h' : Heap) tk, (∀ b o, s.heap.get? b = some o → h'.get? b = some o) → Q [u, .ref h'.objs.size] { s with heap := h'.push { cls := .type "list", data := .seq us.toArray }, toks := tk }) :
    wpAny (model prog w) A (unpackItems (.ref l) 2 (some 1)) Q E s := by
  have n1 : l ≠ s.heap.objs.size := by obtain ⟨o, ho, _⟩ := hl; exact Nat.ne_of_lt (Heap.lt_size ho)
  unfold unpackItems
  refine wpAny_bind ?_
  unfold notIterableAtAll
  refine wpAny_bind (wpAny_specialOf hl.typeIs slot_tuple_iter.lookup ?_)
  refine wpAny_pure ?_
  simp only [Bool.false_eq_true, if_false]
  refine wpAny_bind (wpAny_holding (iter_tuple hl ?_))
  refine wpAny_bind (wpAny_holding (draw_tuple n1 1 0 _ _ ⟨_, Heap.get?_push_size _ rfl, rfl, rfl⟩ (hl.push _) (by simp) fun h1 t1 b1 => ?_))
  have l1 : IsTup h1 l (u :: us).toArray := (hl.push _).extBut b1.extBut n1
  rw [Nat.zero_add] at t1
  have t1' := t1
  obtain ⟨oi, hoi, _⟩ := t1'
  have l1' := l1
  obtain ⟨ol, hol, _⟩ := l1'
  have e1 : ((u :: us).toArray.toList.drop 0).take 1 = [u] := rfl
  rw [e1]
  rw [if_neg (show ¬ ([u].length < 1) from Nat.lt_irrefl 1)]
  refine wpAny_bind (wpAny_holding (PySem.W.kun_collect (s := { s with heap := h1 }) (T := "tuple_iterator") (.inr (.inr (.inr rfl))) (Walks.tuple (A := A.in1) hh s.heap.objs.size l n1 (u :: us).toArray) (fun j u st => st.1.typeIs) (k := 1) (by simp) ⟨t1, l1⟩ (Heap.lt_size hoi) (Heap.lt_size hol) (fun h2 tk hk => ?_) (by rw [sizeLine_eq]; simp; omega)))
  have e2 : (u :: us).toArray.toList.drop 1 = us := rfl
  rw [e2]
  have e3 : ¬ (us.length < 2 - 1 - 1) := by omega
  simp only [e3, if_false]
  have e4 : us.length - (2 - 1 - 1) = us.length := by omega
  rw [e4, List.take_length, List.drop_length]
  have keep : ∀ b o, s.heap.get? b = some o → h2.get? b = some o := fun b o e => hk b o (Nat.ne_of_lt (Heap.lt_size e)) (b1.extBut b o (Nat.ne_of_lt (Heap.lt_size e)) (Heap.get?_push_of_some _ e))
  refine wpAny_bind (wpAny_newList ?_ (by rw [sizeLine_eq]; omega))
  refine wpAny_pure ?_
  exact h h2 tk keep
theorem pg_star {e1 e2 : Expr} {pos p2 : Pos} {kk : Nat} {i j : Nat} (hc : X.calm = true) (h1 : PG X e1 (gName i)) (h2 : PG X e2 (gName j))
    (ha : assignEach [e1, .Starred e2 p2] X.env = [(false, assign e1 X.env), (true, assign e2 X.env)] := by rfl) : PG X (.Tuple [e1, .Starred e2 p2] kk pos)
    (fun v σ H Q => ∃ a x xs, v = .ref a ∧ SqT X.K H a (x :: xs) ∧ xs.length < 16384 ∧ ∀ p, H p = none → Q ((σ.set i (some x)).set j (some (.ref p))) (upd H p (.lst xs))) := by
  refine ⟨fun pins s σ H v u Q I r hw => ?_⟩
  obtain ⟨a, x, xs, rfl, hq, hl, hw⟩ := hw
  cases r
  obtain ⟨its, rv, ht, hz⟩ := I.tuple hq
  cases rv with
  | @cons _ u _ us ru rus =>
    rw [assign_Tuple, ha]
    refine wpAny_bind (wpAny_standAt ?_)
    unfold unpack
    refine wpAny_bind (wpAny_holding (unpack_star ht (I.ok.hd hc) (by rw [← rus.length]; exact hl) fun h' tk keep => ?_))
    have I1 : Inv X pins σ H { s with heap := h', toks := tk } := I.kept (t' := tk) keep
    have hf : H h'.objs.size = none := I1.hok.fresh (Nat.le_refl _)
    have I2 : Inv X pins σ (upd H h'.objs.size (.lst xs)) { s with heap := h'.push { cls := .type "list", data := .seq us.toArray }, toks := tk } :=
      I1.laid (t' := tk) (fun b o e => Heap.get?_push_of_some _ e) (Nat.le_refl _) ⟨by have := hl; rw [sizeLine_eq]; omega, us, 0, rus, Heap.get?_push_size _ rfl⟩
    refine assignInOrder_cons (thn (h1.run pins _ σ _ _ _ (fun σ1 H1 => Q (σ1.set j (some (.ref h'.objs.size))) H1) I2 ru (hw _ hf)) fun _ s1 ⟨σ1, H1, I3, q1⟩ => ?_)
    refine assignInOrder_cons (thn (h2.run pins s1 σ1 H1 (.ref h'.objs.size) (.ref h'.objs.size) Q I3 rfl q1) fun _ s2 z => ?_)
    exact assignInOrder_nil z
/-- the rest is a list of one's own -/
def dgStar (i j : Nat) : DTG := fun d env O q => match d with
  | .tup (x :: xs) => xs.length < 16384 ∧ q ((env.set i (some x)).set j (some (.lst xs))) O
  | _ => False
theorem dg_star {e1 e2 : Expr} {pos p2 : Pos} {kk : Nat} {i j : Nat} (S : Site X B k wx) (hc : X.calm = true) (h1 : PG X e1 (gName i)) (h2 : PG X e2 (gName j))
    (ha : assignEach [e1, .Starred e2 p2] X.env = [(false, assign e1 X.env), (true, assign e2 X.env)] := by rfl) : PG X (.Tuple [e1, .Starred e2 p2] kk pos) (liftG B (dgStar i j)) := PG.weak (pg_star hc h1 h2 ha) fun v σ H Q h => by
  obtain ⟨d, env, O, F, q, R, r, h, kk⟩ := h
  cases d <;> try exact h.elim
  rename_i ds
  cases ds with
  | nil => exact h.elim
  | cons x xs =>
    cases r with
    | tup hs hr =>
      cases hr with
      | cons rx rxs =>
        refine ⟨_, _, _, rfl, by rw [S.hK]; exact same_tup R.fh hs.sq, rxs.length ▸ h.1, fun p hp => ?_⟩
        rename_i vs
        have a1 := R.froz hp (.lst vs)
        exact kk _ O _ _ _ a1 (((R.sl.mono a1.ff).setv (rx.mono a1.ff)).setv (.lst (SqL.of upd_same) (rxs.mono a1.ff))) h.2
def dPar3 (i j l : Nat) (ta : DTA) : DTS := fun E env O => ta env O fun ds O1 => match ds with | [d, e, f] => E.nx (((env.set i (some d)).set j (some e)).set l (some f)) O1 | _ => False
theorem ds_par3 {st : Stmt} {i j l : Nat} {ta : DTA} (h : PS X st (tPar3 i j l (liftA B ta))) : PS X st (liftS B (dPar3 i j l ta)) := PS.weak h fun E σ H h => by
  obtain ⟨env, O, F, d, R, h, m⟩ := h
  refine ⟨env, O, F, _, R, h, fun ds vs O1 H1 F1 a1 r1 h1 => ?_⟩
  match ds, r1, h1 with
  | [a, b, c], r1, h1 =>
    cases r1 with
    | cons ra rb =>
      obtain ⟨v, w, rfl, r1, r2⟩ := rb.two
      exact ⟨_, v, w, rfl, m.nx _ O1 _ H1 F1 a1 ((((R.sl.mono a1.ff).setv ra).setv r1).setv r2) h1⟩
end
end DL
set_option Elab.async false
set_option linter.all false
set_option maxRecDepth 100000
set_option maxHeartbeats 4000000
namespace DL
open PySem PySem.Spec PyProof.Rows L2
open ClX (CRead CVal pe_cval tCVal)
section
variable {X : Cx} {B : Bd} {pos : Pos} {k n : Nat} {wx : DW}
def dCallK0 (fn : DF) (n l : Nat) (w : DW) (gD : List D → List D) (tb : DTA) : DTE := fun env O q => tb env O fun es O1 => es.length = l ∧ (gD es).length = n ∧ fn (gD es) O1 q fun c fs O' => w c fs env O'
theorem i_callK0 {fn : DF} {l : Nat} {w : DW} {gD : List D → List D} {tb : DTA} {env : Env} {O : Ow} {q : DQ} (h : tb env O fun es O1 => es.length = l ∧ (gD es).length = n ∧ fn (gD es) O1 q fun c fs O' => w c fs env O') : dCallK0 fn n l w gD tb env O q := h
theorem so_cval {C : Addr} {mc : Value} {f : Str} {v : V} {u : Value} {d : D} {e : Expr} (cr : CRead X.K C mc) (cv : CVal X.K C mc f v u) (he : PE X e (tC (.ref C))) (r : ∀ F, RV B.K F d v) (hb : attributeBase e f X.env (eval e X.env) = eval e X.env := by rfl) : PE X (.Attribute e f pos) (lift B (dC d)) :=
  de_con (PE.weak (pe_cval he hb) fun σ H Q h => ⟨C, mc, v, u, rfl, cr, cv, h⟩) r
def dDsp2 (x y : Str) (i j : Int) (te : DTE) : DTE := fun env O q => te env O fun d O1 => match d with
  | .str z => (z = x ∧ x ≠ y ∧ q (.int i) O1) ∨ (z = y ∧ x ≠ y ∧ q (.int j) O1)
  | _ => False
end
theorem ok_getter {P : Program} {w : World} {K : Frag} {mg : Str → Option Value} {base : Heap} {C g : Addr} {x qual f : Str} {params : Arguments} {body : List Stmt} {scope : Scope} {fd : FuncData} {p1 p2 p3 : Pos}
    (Fn : FunD K x qual params body scope [] [] g fd) (S : FnScope ["self"] ["self"] scope) (hb : body = [.Return (some (.Attribute (.Name "self" p1) f p2)) p3]) (c : Cls K C) (n : NoAttr K C f) : FnOk P w K mg base CX0 1 g fd ["self"] (getSp C f) := by
  obtain ⟨oc, od, dV, kV, doc, pm, an, cdv, ct, osl, rfl, lk, hcd, _, _⟩ := Fn.ex
  exact fn_getter lk hcd S rfl hb c n
structure DefX where
  adr : Frag → Addr
  d : He.DefD
def fnX (K : Frag) (a : Addr) : He.FnW := match K.lookup a with
  | some ⟨_, _, .func fd, _⟩ => some (fd.name, fd.qualname, fd.params, fd.body, fd.scope, fd.globals, fd.closure, fd.builtins)
  | _ => none
def DefX.ok (K : Frag) (z : DefX) : Bool := PySem.W.keepIn K (.ref (z.adr K)) && (match K.lookup (z.adr K) with
  | some ⟨_, _, .func fd, _⟩ => PySem.W.codeIn K fd.code z.d.qual && (He.dflB K fd.defaults (z.d.dvs K) && He.kwdB K fd.kwdefaults (z.d.kws K))
  | _ => false)
theorem DefX.funD {K : Frag} {z : DefX} (e : fnX K (z.adr K) = z.d.val) (c : z.ok K = true) : ∃ fd, FunD K z.d.name z.d.qual z.d.params z.d.body z.d.scope (z.d.dvs K) (z.d.kws K) (z.adr K) fd := by
  obtain ⟨kp, c2⟩ := Bool.and_eq_true_iff.mp c
  unfold fnX at e
  cases lk : K.lookup (z.adr K) with
  | none => rw [lk] at c2; cases c2
  | some o =>
    obtain ⟨oc, od, dt, osl⟩ := o
    rw [lk] at c2 e
    cases dt with
    | func fd =>
      obtain ⟨m1, m2, m3, m4, m5, m6, m7, m8, m9, m10, m11, m12, m13, m14, m15⟩ := fd
      have e2 : (some (m1, m2, m3, m4, m5, m6, m7, m15) : He.FnW) = some (z.d.name, z.d.qual, z.d.params, .stmts z.d.body, z.d.scope, mainGlobals, [], builtinsNs) := e
      simp only [Option.some.injEq, Prod.mk.injEq] at e2
      obtain ⟨y1, y2, y3, y4, y5, y6, y7, y8⟩ := e2
      subst y1 y2 y3 y4 y5 y6 y7 y8
      obtain ⟨x1, x2⟩ := Bool.and_eq_true_iff.mp (show (PySem.W.codeIn K m13 z.d.qual && (He.dflB K m8 (z.d.dvs K) && He.kwdB K m9 (z.d.kws K))) = true from c2)
      obtain ⟨x3, x4⟩ := Bool.and_eq_true_iff.mp x2
      exact ⟨_, ⟨oc, od, m8, m9, m10, m11, m12, m13, m14, osl, rfl, lk, x1, He.dflB_ok x3, He.kwdB_ok x4⟩, kp⟩
    | _ => cases c2
abbrev Fac := Frag → Bool
def asX (st : List Addr) (g : Addr → Option Obj) : Nat → List Addr
  | 0 => st
  | n + 1 => He.growD g (asX st g n)
def obsX (fa : List Fac) (fn : List DefX) (K : Frag) : He.AlD := ((fa.all fun f => f K) && fn.all fun z => z.ok K, fn.map fun z => fnX K (z.adr K))
def valX (fn : List DefX) : He.AlD := (true, fn.map fun z => z.d.val)
def SaysX (fa : List Fac) (fn : List DefX) (K : Frag) : Prop := obsX fa fn K = valX fn
section
variable {fa : List Fac} {fn : List DefX} {K : Frag}
theorem SaysX.both (c : SaysX fa fn K) : (fa.all fun f => f K) = true ∧ (fn.all fun z => z.ok K) = true := Bool.and_eq_true_iff.mp (congrArg (fun z : He.AlD => z.1) c)
theorem SaysX.fact (c : SaysX fa fn K) (i : Nat) {f : Fac} (h : fa[i]? = some f := by rfl) : f K = true := List.all_eq_true.mp c.both.1 f (List.mem_of_getElem? h)
theorem SaysX.def_ (c : SaysX fa fn K) (i : Nat) {z : DefX} (h : fn[i]? = some z := by rfl) : ∃ fd, FunD K z.d.name z.d.qual z.d.params z.d.body z.d.scope (z.d.dvs K) (z.d.kws K) (z.adr K) fd := by
  have e : (fn.map fun z => fnX K (z.adr K)) = fn.map fun z => z.d.val := congrArg (fun z : He.AlD => z.2) c
  have e2 := congrArg (·[i]?) e
  simp only [List.getElem?_map, h, Option.map_some, Option.some.injEq] at e2
  exact DefX.funD e2 (List.all_eq_true.mp c.both.2 z (List.mem_of_getElem? h))
end
/-- the getter of a property -/
def ga2 (K : Frag) (C : Str) (f : Str) : Addr := match PySem.W.recIn K (He.ma K (He.ga K C) f) "property" with
  | some (.ref g :: _) => g
  | _ => 0
def propB (C f : Str) : Fac := fun K => He.eqO (PySem.W.findIn K (.ref (He.ga K C)) f) (some (some (.ref (He.ma K (He.ga K C) f)))) && (He.eqO (PySem.W.specialIn K (.ref (He.ma K (He.ga K C) f)) "__get__") (some (some (.builtin "property.__get__"))) &&
  (decide (PySem.W.takesIn K (.ref (He.ma K (He.ga K C) f)) = some true) && (match PySem.W.recIn K (He.ma K (He.ga K C) f) "property" with
    | some (.ref _ :: _) => true
    | _ => false)))
theorem propB_ok {K : Frag} {C f : Str} (h : propB C f K = true) : PropOf K (He.ga K C) f (He.ma K (He.ga K C) f) (ga2 K C f) := by
  unfold propB at h
  simp only [Bool.and_eq_true, decide_eq_true_eq] at h
  obtain ⟨h1, h2, h3, h4⟩ := h
  refine ⟨He.eqO_ok h1, He.eqO_ok h2, h3, ?_⟩
  unfold ga2
  split at h4
  · rename_i g r e
    exact ⟨r, by rw [e]⟩
  · cases h4
def gloB (x : Str) : Fac := fun K => (He.Fa.glo x).ok K
def freeB (x : Str) : Fac := fun K => (He.Fa.free x).ok K
def strB (x z : Str) : Fac := fun K => (He.Fa.str x z).ok K
def tupX (x : Str) (vs : List He.Dv) : Fac := fun K => (match K.lookup (He.ga K x) with | some o => o.dict.isNone | none => false) && He.tupB K x vs
theorem tupX_ok {K : Frag} {x : Str} {vs : List He.Dv} (h : tupX x vs K = true) (H : Hp) : SqN K H (He.ga K x) (vs.map (He.Dv.v K)) := by
  obtain ⟨h1, h2⟩ := Bool.and_eq_true_iff.mp h
  refine ⟨He.tupB_ok h2 H, .inr ?_⟩
  split at h1
  · rename_i o e
    exact ⟨o, e, Option.isNone_iff_eq_none.mp h1⟩
  · cases h1
def clsB (x : Str) : Fac := fun K => (He.Fa.cls x).ok K
def noatB (x f : Str) : Fac := fun K => (He.Fa.noat x f).ok K
def mkrB (x : Str) : Fac := fun K => (He.Fa.mkr x).ok K
/-- C.f is the int i -/
def cvalB (C f : Str) (i : Int) : Fac := fun K => PySem.W.readsIn K (He.ga K C) (.type "type") && (He.eqO (PySem.W.specialIn K (.ref (He.ga K C)) "__getattribute__") (some (some (.builtin "type.__getattribute__"))) &&
  (match PySem.W.findCls K (.ref (He.ga K C)) (.type "type") f with
    | some (.val (.int j _)) => decide (j = i)
    | _ => false))
theorem cvalB_ok {K : Frag} {C f : Str} {i : Int} (h : cvalB C f i K = true) : CRead K (He.ga K C) (.type "type") ∧ ∃ u, CVal K (He.ga K C) (.type "type") f (.int i) u := by
  unfold cvalB at h
  simp only [Bool.and_eq_true] at h
  obtain ⟨h1, h2, h3⟩ := h
  refine ⟨⟨h1, He.eqO_ok h2⟩, ?_⟩
  split at h3
  · rename_i j t e
    exact ⟨_, e, ⟨t, by rw [of_decide_eq_true h3]⟩⟩
  · cases h3
end DL
set_option Elab.async false
set_option linter.all false
set_option maxRecDepth 100000
set_option maxHeartbeats 4000000
namespace DL
open PySem PySem.Spec PyProof.Rows L2
section
variable {X : Cx} {B : Bd} {pos p : Pos} {k j n : Nat} {wx : DW} {e : Expr} {es : List Expr} {x : Str} {ps : List Str} {fn : DF} {C f : Addr} {fd : FuncData} {tA : DTA}
/-- a module's constant -/
theorem so_gc {v : V} {d : D} (hg : Gl X x) (h : ∃ u, X.mg x = some u ∧ RelV v u) (r : ∀ F, RV B.K F d v) (hd : (x == ("__debug__" : Str)) = false := by decide) : PE X (.Name x pos) (lift B (dC d)) := by
  obtain ⟨u, hm, ru⟩ := h
  exact de_con (pe_glob hg hm ru hd) r
end
section
variable {env : Env} {O : Ow} {q : DQ} {E : DEnds} {te : DTE} {ta : DTA}
theorem i_isiT {x : D} {cs : List D} {ns : List String} {a : String} {b : Bool} (e : tyN O x = some a) (e2 : tyNs cs = some ns) (hn : ns.all (["str", "int", "bool", "tuple", "list", "dict"].contains ·) = true) (hb : ns.any (kitT a) = b) (h : q (.bl b) O) : dIsiT [x, .tup cs] O q :=
  ⟨a, ns, e, e2, fun n hm => by simpa using List.all_eq_true.mp hn n hm, hb ▸ h⟩
theorem i_star {i j : Nat} {x : D} {xs : List D} {qe : Env → Ow → Prop} (hl : xs.length < 16384) (h : qe ((env.set i (some x)).set j (some (.lst xs))) O) : dgStar i j (.tup (x :: xs)) env O qe := ⟨hl, h⟩
theorem i_par3 {i j l : Nat} (h : ta env O fun ds O1 => match ds with | [d, e, f] => E.nx (((env.set i (some d)).set j (some e)).set l (some f)) O1 | _ => False) : dPar3 i j l ta E env O := h
theorem i_dsp2 {x y : Str} {i j : Int} (h : te env O fun d O1 => match d with | .str z => (z = x ∧ x ≠ y ∧ q (.int i) O1) ∨ (z = y ∧ x ≠ y ∧ q (.int j) O1) | _ => False) : dDsp2 x y i j te env O q := h
/-- while: an invariant and a measure -/
theorem wh_inv {c : DTT} {tb : DTS} (P : Nat → Env → Ow → Prop) (m : Nat) (h0 : P m env O)
    (hs : ∀ (m : Nat) (N : Env → Ow → Prop) (env : Env) (O : Ow), P m env O → (∀ e o o2 m', m' < m → SubO o2 o → P m' e o2 → N e o) →
      c env O fun b O1 => if b = true then tb { nx := N, rt := E.rt, bk := E.nx, ct := N } env O1 else E.nx env O1) : dWhile c tb E env O := by
  suffices h : ∀ (l m : Nat) (env : Env) (O : Ow), m < l → P m env O → whGo c tb E l env O from ⟨m + 1, h (m + 1) m env O (Nat.lt_succ_self _) h0⟩
  intro l
  induction l with
  | zero => intro m env O h _; exact absurd h (Nat.not_lt_zero _)
  | succ l ih =>
    intro m env O hm hp
    exact hs m _ env O hp fun e o o2 m' h1 sb h2 => ⟨o2, sb, ih m' e o2 (by omega) h2⟩
end
end DL
set_option Elab.async false
set_option linter.all false
set_option maxRecDepth 100000
set_option maxHeartbeats 4000000
namespace DL
open PySem PySem.Spec PyProof.Rows L2
/-- a comprehension that draws on the way -/
theorem lcGo_inv {g : DTG} {tt : DTT} {te : DTE} {Gd : Ow → Prop} {env : Env} {O : Ow} {xs : List D} {q : List D → Ow → Prop} (P : Nat → List D → Ow → Prop) (h0 : P 0 [] O) (hG : ∀ i ys O, P i ys O → Gd O)
    (hs : ∀ (i : Nat) (x : D) (ys : List D) (O : Ow) (k : DQ) (z : Ow → Prop), xs[i]? = some x → P i ys O → (∀ y o o2, SubO o2 o → P (i + 1) (ys ++ [y]) o2 → k y o) → g x env O fun env2 _ => tt env2 O fun b O3 => if b = true then te env2 O3 k else z O3)
    (hd : ∀ ys O, P xs.length ys O → q ys O) : lcGo g tt te Gd xs env O q := by
  suffices h : ∀ (zs : List D) (i : Nat) (acc : List D) (O : Ow), xs.drop i = zs → i ≤ xs.length → P i acc O → lcGo g tt te Gd zs env O fun ys O => q (acc ++ ys) O from h xs 0 [] O rfl (Nat.zero_le _) h0
  intro zs
  induction zs with
  | nil =>
    intro i acc O e hi hp
    have : i = xs.length := Nat.le_antisymm hi (List.drop_eq_nil_iff.mp e)
    subst this
    exact ⟨hG _ _ _ hp, by show q (acc ++ []) O; rw [List.append_nil]; exact hd _ _ hp⟩
  | cons x zs ih =>
    intro i acc O e hi hp
    have hx : xs[i]? = some x := by
      have := congrArg (·[0]?) e
      simpa using this
    have hi' : i < xs.length := (List.getElem?_eq_some_iff.mp hx).1
    have e2 : xs.drop (i + 1) = zs := by
      have := congrArg List.tail e
      simpa using this
    refine ⟨hG _ _ _ hp, hs i x acc O _ _ hx hp fun y o o2 sb hp2 => ⟨o2, sb, ?_⟩⟩
    have := ih (i + 1) (acc ++ [y]) o2 e2 hi' hp2
    simpa [List.append_assoc] using this
/-- ranges -/
def zs (lo hi : Int) : List Int := (List.range (hi - lo).toNat).map fun (k : Nat) => lo + (k : Int)
theorem rgD_zs (lo hi : Int) : rgD lo hi = (zs lo hi).map D.int := by
  unfold rgD zs
  rw [List.map_map]; rfl
theorem zs_mem {lo hi x : Int} (h : x ∈ zs lo hi) : lo ≤ x ∧ x < hi := by
  unfold zs at h
  simp only [List.mem_map, List.mem_range] at h
  obtain ⟨k, hk, rfl⟩ := h
  omega
theorem zs_len (lo hi : Int) : (zs lo hi).length = (hi - lo).toNat := by simp [zs]
theorem map_get {l : List Int} {i : Nat} {x : D} (hx : (l.map D.int)[i]? = some x) : ∃ b, l[i]? = some b ∧ x = .int b := by
  rw [List.getElem?_map] at hx
  cases e : l[i]? with
  | none => rw [e] at hx; cases hx
  | some b => rw [e] at hx; exact ⟨b, rfl, (Option.some.inj hx).symm⟩
theorem atI_in {ds : List D} {i : Int} (h0 : 0 ≤ i) (h : i < (ds.length : Int)) : ∃ d, ds[i.toNat]? = some d ∧ atI ds i = some d := by
  have hl : i.toNat < ds.length := by omega
  refine ⟨ds[i.toNat], by simp [hl], ?_⟩
  have := atI_nat (xs := ds) (j := i.toNat) (v := ds[i.toNat]) (by simp [hl])
  rw [Int.toNat_of_nonneg h0] at this
  exact this
theorem Bag.ne {O : Ow} {p r : Addr} {m : Int} (h : Bag O p m) (hr : O r = none) : p ≠ r := fun z => by
  obtain ⟨a, b, c, e, h1⟩ := h
  rw [z, hr] at e; cases e
theorem Bag.keep {O : Ow} {p r : Addr} {m : Int} {o : OD} (h : Bag O p m) (hr : p ≠ r) : Bag (setO O r o) p m := by
  obtain ⟨a, b, c, e, h1⟩ := h
  exact ⟨a, b, c, by rw [setO_ne hr]; exact e, h1⟩
theorem Bag.ref {O : Ow} {p r : Addr} {m : Int} {o : OD} (h : Bag O p m) (hr : O r = some o) (ho : ∀ ds, o ≠ .lst ds) : p ≠ r := fun z => by
  obtain ⟨a, b, c, e, h1⟩ := h
  rw [z, hr] at e
  exact ho _ (Option.some.inj e)
def bitB : D → Bool
  | .int i => i == 0 || i == 1
  | _ => false
def plB (n : Int) (ws : List Str) : D → Bool
  | .int i => decide (0 ≤ i) && decide (i < n)
  | .str s => ws.contains s
  | _ => false
def rowB (n : Int) (ws : List Str) : D → Bool
  | .tup [b, p, q] => bitB b && plB n ws p && plB n ws q
  | _ => false
/-- a sound machine -/
def Mach (ws : List Str) (rs : List D) : Prop := ∀ r ∈ rs, rowB rs.length ws r = true
theorem plB_cases {n : Int} {ws : List Str} {d : D} (h : plB n ws d = true) : (∃ i : Int, d = .int i ∧ 0 ≤ i ∧ i < n) ∨ ∃ s, d = .str s ∧ s ∈ ws := by
  cases d <;> simp [plB] at h
  · exact .inl ⟨_, rfl, h.1, h.2⟩
  · exact .inr ⟨_, rfl, h⟩
theorem rowB_cases {n : Int} {ws : List Str} {d : D} (h : rowB n ws d = true) : ∃ (b : Int) (p q : D), d = .tup [.int b, p, q] ∧ (b = 0 ∨ b = 1) ∧ plB n ws p = true ∧ plB n ws q = true := by
  unfold rowB at h
  split at h
  · rename_i b p q
    simp only [Bool.and_eq_true] at h
    cases b <;> simp [bitB] at h
    exact ⟨_, p, q, rfl, h.1.1, h.1.2, h.2⟩
  · cases h
/-- the ints to which a row leads -/
def nextsB (L : List Int) : D → Bool
  | .tup [_, p, q] => (match p with | .int i => L.contains i | _ => true) && (match q with | .int i => L.contains i | _ => true)
  | _ => true
def noWord (w : Str) : D → Bool
  | .tup [_, p, q] => (match p with | .str s => !(s == w) | _ => true) && (match q with | .str s => !(s == w) | _ => true)
  | _ => true
/-- a closed set of rows that tells no w -/
structure Closed (rs : List D) (first : Int) (w : Str) (L : List Int) : Prop where
  mem : first ∈ L
  next : ∀ i ∈ L, ∀ r, rs[i.toNat]? = some r → nextsB L r = true
  word : ∀ i ∈ L, ∀ r, rs[i.toNat]? = some r → noWord w r = true
end DL
namespace DL
open PySem PySem.Spec PyProof.Rows L2
def good (d : D) : Bool := pd d && SeqAt.shaped (py d)
def strGood (s : Str) : Bool := (PyData.str s).canLay0
theorem good_int (i : Int) : good (.int i) = true := by simp [good, pd, py, SeqAt.shaped, PyData.canLay0, PyData.depth]
theorem good_non : good .non = true := by simp [good, pd, py, SeqAt.shaped, PyData.canLay0, PyData.depth]
theorem good_str {s : Str} (h : strGood s = true) : good (.str s) = true := by
  have h' : (PyData.str s).canLay0 = true := h
  simp only [good, pd, py, SeqAt.shaped, PyData.depth, h']
  decide
theorem good_of_str {s : Str} (h : good (.str s) = true) : strGood s = true := by
  simp only [good, SeqAt.shaped, Bool.and_eq_true, py] at h
  exact h.2.1
theorem good_pd {d : D} (h : good d = true) : pd d = true := (Bool.and_eq_true_iff.mp h).1
theorem good_sh {d : D} (h : good d = true) : SeqAt.shaped (py d) = true := (Bool.and_eq_true_iff.mp h).2
theorem good_items : ∀ {ds : List D}, pds ds = true → PyData.canLayAll0 (pys ds) = true → PyData.depthAll (pys ds) ≤ 64 → ∀ d ∈ ds, good d = true
  | [], _, _, _, d, h => by cases h
  | x :: ds, h1, h2, h3, d, h => by
    simp only [pds, Bool.and_eq_true] at h1
    simp only [pys, PyData.canLayAll0, Bool.and_eq_true] at h2
    simp only [pys, PyData.depthAll] at h3
    rcases List.mem_cons.mp h with rfl | h
    · simp only [good, SeqAt.shaped, h1.1, h2.1, Bool.true_and, decide_eq_true_eq]
      omega
    · exact good_items h1.2 h2.2 (by omega) d h
theorem good_tup {ds : List D} (h : good (.tup ds) = true) : ∀ d ∈ ds, good d = true := by
  simp only [good, SeqAt.shaped, Bool.and_eq_true, decide_eq_true_eq, pd, py, PyData.canLay0, PyData.depth] at h
  exact good_items h.1 h.2.1 (by omega)
/-- x in (texts) -/
theorem any_strs {s : Str} : ∀ ws : List Str, ((pys (ws.map D.str)).any fun z => PyData.eqv z (py (.str s))) = ws.contains s
  | [] => rfl
  | w :: ws => by
    have ih := any_strs (s := s) ws
    simp only [py] at ih
    simp only [List.map_cons, pys, py, List.any_cons, List.contains_cons, PyData.eqv]
    rw [Bool.beq_comm, ih]
theorem shaped_strs {ws : List Str} (h : ws.all strGood = true) : SeqAt.shaped (.list (pys (ws.map D.str))) = true := by
  have := strs_shaped (ss := ws) fun s hs => List.all_eq_true.mp h s hs
  simpa [py] using this
theorem i_inStr {O : Ow} {q : DQ} {s : Str} {ws : List Str} (hs : strGood s = true) (hw : ws.all strGood = true) (h : q (.bl (ws.contains s)) O) : dIn (.str s) (.tup (ws.map D.str)) O q := by
  refine ⟨_, _, asP_pd (good_pd (good_str hs)), asPs_T (strs_pds ws), good_sh (good_str hs), shaped_strs hw, ?_⟩
  rw [any_strs]
  exact h
theorem i_inStrL {O : Ow} {q : DQ} {s : Str} {ws : List Str} (hs : strGood s = true) (hw : ws.all strGood = true) (h : q (.bl (ws.contains s)) O) : dIn (.str s) (.lst (ws.map D.str)) O q := by
  refine ⟨_, _, asP_pd (good_pd (good_str hs)), asPs_L (strs_pds ws), good_sh (good_str hs), shaped_strs hw, ?_⟩
  rw [any_strs]
  exact h
end DL
namespace DL
open PySem PySem.Spec PyProof.Rows L2
section
variable {O : Ow} {q : DQ}
theorem i_eqG {x y : D} (hx : good x = true) (hy : good y = true) (h : q (.bl (PyData.eqv (py x) (py y))) O) : dEq x y O q := ⟨_, _, asP_pd (good_pd hx), asP_pd (good_pd hy), good_sh hx, good_sh hy, h⟩
theorem i_neG {x y : D} (hx : good x = true) (hy : good y = true) (h : q (.bl (!PyData.eqv (py x) (py y))) O) : dNe x y O q := ⟨_, _, asP_pd (good_pd hx), asP_pd (good_pd hy), good_sh hx, good_sh hy, h⟩
theorem eqv_int (i j : Int) : PyData.eqv (py (.int i)) (py (.int j)) = decide (i = j) := by
  simp only [py, PyData.eqv]
  by_cases h : i = j
  · simp [h]
  · simp [h]
theorem eqv_str (i j : Str) : PyData.eqv (py (.str i)) (py (.str j)) = decide (i = j) := by
  simp only [py, PyData.eqv]
  by_cases h : i = j
  · simp [h]
  · simp [h]
theorem i_eqI {i j : Int} (h : q (.bl (decide (i = j))) O) : dEq (.int i) (.int j) O q := i_eqG (good_int _) (good_int _) (by rw [eqv_int]; exact h)
theorem i_neI {i j : Int} (h : q (.bl (!decide (i = j))) O) : dNe (.int i) (.int j) O q := i_neG (good_int _) (good_int _) (by rw [eqv_int]; exact h)
theorem i_eqS {i j : Str} (hi : strGood i = true) (hj : strGood j = true) (h : q (.bl (decide (i = j))) O) : dEq (.str i) (.str j) O q := i_eqG (good_str hi) (good_str hj) (by rw [eqv_str]; exact h)
theorem i_truB {b : Bool} {Pk : Bool → Prop} (h : Pk b) : ∃ k, truD O (.bl b) = some k ∧ Pk k := ⟨b, rfl, h⟩
end
end DL
namespace DL
open PySem PySem.Spec PyProof.Rows L2
theorem any_ints {i : Int} : ∀ ws : List Int, ((pys (ws.map D.int)).any fun z => PyData.eqv z (py (.int i))) = ws.contains i
  | [] => rfl
  | w :: ws => by
    have ih := any_ints (i := i) ws
    simp only [py] at ih
    simp only [List.map_cons, pys, py, List.any_cons, List.contains_cons, PyData.eqv]
    rw [Bool.beq_comm, ih]
theorem pds_nums : ∀ ws : List Int, pds (ws.map D.int) = true ∧ PyData.canLayAll0 (pys (ws.map D.int)) = true ∧ PyData.depthAll (pys (ws.map D.int)) = 0
  | [] => ⟨rfl, rfl, rfl⟩
  | w :: ws => by
    obtain ⟨h1, h2, h3⟩ := pds_nums ws
    simp only [List.map_cons, pys, py, pds, pd, PyData.canLayAll0, PyData.canLay0, PyData.depthAll, PyData.depth, h1, h2, h3]
    exact ⟨rfl, rfl, rfl⟩
theorem shaped_nums (ws : List Int) : SeqAt.shaped (.list (pys (ws.map D.int))) = true := by
  obtain ⟨h1, h2, h3⟩ := pds_nums ws
  simp only [SeqAt.shaped, PyData.canLay0, PyData.depth, h2, h3]
  decide
theorem i_notinO {O : Ow} {q : DQ} {i : Int} {ws : List Int} {p : Addr} (e : O p = some (.lst (ws.map D.int))) (h : q (.bl (!ws.contains i)) O) : dNotIn (.int i) (.ref p) O q := by
  refine ⟨_, pys (ws.map D.int), asP_pd rfl, by simp [asPs, asL, e, (pds_nums ws).1], good_sh (good_int i), shaped_nums ws, ?_⟩
  rw [if_pos rfl, any_ints]
  exact h
theorem nodup_len : ∀ (n : Nat) {l : List Int}, l.Nodup → (∀ x ∈ l, 0 ≤ x ∧ x < (n : Int)) → l.length ≤ n
  | 0, l, _, h => by
    cases l with
    | nil => simp
    | cons x l => have := h x List.mem_cons_self; omega
  | n + 1, l, nd, h => by
    by_cases hm : (n : Int) ∈ l
    · have h1 := nodup_len n (l := l.erase n) (nd.erase _) fun x hx => by
        have h2 := h x (List.mem_of_mem_erase hx)
        have h3 : x ≠ (n : Int) := fun z => by
          subst z
          exact (List.Nodup.not_mem_erase nd) hx
        omega
      rw [List.length_erase_of_mem hm] at h1
      omega
    · have h1 := nodup_len n nd fun x hx => by
        have h2 := h x hx
        have h3 : x ≠ (n : Int) := fun z => hm (z ▸ hx)
        omega
      omega
/-- two objects of one's own beside what was there -/
structure Two (O O' : Ow) (p r : Addr) (a b : OD) : Prop where
  ne : p ≠ r
  at1 : O' p = some a
  at2 : O' r = some b
  old : ∀ x, x ≠ p → x ≠ r → O' x = O x
theorem Two.set1 {O O' : Ow} {p r : Addr} {a b a' : OD} (h : Two O O' p r a b) : Two O (setO O' p a') p r a' b :=
  ⟨h.ne, setO_same, by rw [setO_ne h.ne.symm]; exact h.at2, fun x h1 h2 => by rw [setO_ne h1]; exact h.old x h1 h2⟩
theorem Two.set2 {O O' : Ow} {p r : Addr} {a b b' : OD} (h : Two O O' p r a b) : Two O (setO O' r b') p r a b' :=
  ⟨h.ne, by rw [setO_ne h.ne]; exact h.at1, setO_same, fun x h1 h2 => by rw [setO_ne h2]; exact h.old x h1 h2⟩
theorem Two.mk' {O : Ow} {p r : Addr} {a b : OD} (hp : O p = none) (hr : (setO O p a) r = none) : Two O (setO (setO O p a) r b) p r a b := by
  have hne : p ≠ r := fun z => by rw [← z, setO_same] at hr; cases hr
  exact ⟨hne, by rw [setO_ne hne, setO_same], setO_same, fun x h1 h2 => by rw [setO_ne h2, setO_ne h1]⟩
theorem Two.sub {O O' : Ow} {p r : Addr} {a b : OD} (h : Two O O' p r a b) (hp : O p = none) (hr : O r = none) : SubO O O' := fun x o e => by
  have h1 : x ≠ p := fun z => by rw [z, hp] at e; cases e
  have h2 : x ≠ r := fun z => by rw [z, hr] at e; cases e
  rw [h.old x h1 h2]; exact e
theorem SubO.del {O O' : Ow} {p : Addr} (h : SubO O O') (hp : O p = none) : SubO O (delO O' p) := fun x o e => by
  have h1 : x ≠ p := fun z => by rw [z, hp] at e; cases e
  rw [delO_ne h1]; exact h x o e
end DL
set_option linter.all false
set_option maxRecDepth 100000
set_option maxHeartbeats 4000000
namespace DL
open PySem PySem.Spec PyProof.Rows L2
theorem RVs.reverse {K : Frag} {F : Hp} : ∀ {ds : List D} {vs : List V}, RVs K F ds vs → RVs K F ds.reverse vs.reverse
  | _, _, .nil => .nil
  | _, _, .cons h t => by
    rw [List.reverse_cons, List.reverse_cons]
    exact (RVs.reverse t).append (.cons h .nil)
end DL
set_option Elab.async false
set_option linter.all false
set_option maxRecDepth 100000
set_option maxHeartbeats 4000000
namespace DL
open PySem PySem.Spec PyProof.Rows L2
/-- a def of the text, as the head tells it: at the address a -/
def HasD (K : Frag) (x qn : Str) (st : Stmt) (dvs : List V) (kws : List (Str × V)) (a : Addr) : Prop := ∃ fd, FunD K x qn (defArgs st) (defBody st) (defScope st) dvs kws a fd
/-- a def of the text as callee -/
structure Fn (P : Program) (w : World) (K : Frag) (mg : Str → Option Value) (base : Heap) (x qn : Str) (st : Stmt) (dvs : List V) (kws : List (Str × V)) (ps : List Str) (n k : Nat) (fn : DF) (a : Addr) : Prop where
  ex : ∃ fd, FnG P w K mg base (L2.CX P w) k a fd ps (spD K n fn) ∧ FunD K x qn (defArgs st) (defBody st) (defScope st) dvs kws a fd
section
variable {P : Program} {w : World} {K : Frag} {mg : Str → Option Value} {base : Heap}
theorem fn_E {x qual : Str} {st : Stmt} {dvs : List V} {kws : List (Str × V)} {f : Addr} {N ps : List Str} {n k : Nat} {fn : DF} (F : HasD K x qual st dvs kws f) (S : FnScope N ps (defScope st)) (hn : ps.length = n)
    (hb : ∀ (cdv : Value) (A : Around) (outer : List PySem.Env) (s : Shared) (H : Hp) (E : XK) (O0 : Ow) (H0 F0 : Hp) (ds : List D) (O : Ow) (q : DQ) (xx : DX), ds.length = n → fn ds O q xx →
      Site (cxOf (L2.CX P w) P w K mg base N qual (defScope st) f cdv A outer s H E) ⟨K, O0, H0, F0⟩ k (fun c fs _ O => xx c fs O) →
      ∃ t : DTS, PSs (cxOf (L2.CX P w) P w K mg base N qual (defScope st) f cdv A outer s H E) (defBody st) (liftS ⟨K, O0, H0, F0⟩ t) ∧ t { nx := fun _ O' => rtK q .non O', rt := rtK q } (envOf N.length ds) O) :
    Fn P w K mg base x qual st dvs kws ps n (k + 1) fn f := by
  obtain ⟨fd, F⟩ := F
  exact ⟨fd, fn_DD F S hn hb, F⟩
end
/-- how all parameters are bound by position -/
def Bd0 (x qn : Str) (st : Stmt) (ps : List Str) : Prop := ∀ (kV doc pm : Value) (an : Option Addr) (cdv ct : Value) (us : List Value), us.length = ps.length → bindArgs (PySem.W.fnOf x qn (defArgs st) (defBody st) (defScope st) .none kV doc pm an cdv ct) ⟨us, []⟩ = pure (ps.zip us)
/-- picked by places -/
def pick {α : Type} (ix : List Nat) (l : List α) : List α := ix.filterMap fun i => l[i]?
theorem pick_vals {vs : List V} {us : List Value} (r : Vals vs us) : ∀ ix : List Nat, Vals (pick ix vs) (pick ix us)
  | [] => .nil
  | i :: ix => by
    unfold pick
    rw [List.filterMap_cons, List.filterMap_cons]
    cases e : vs[i]? with
    | none =>
      have : us[i]? = none := by
        have h2 := List.getElem?_eq_none_iff.mp e
        exact List.getElem?_eq_none_iff.mpr (by rw [← r.length]; exact h2)
      rw [this]
      exact pick_vals r ix
    | some d =>
      obtain ⟨v, e1, r1⟩ := r.get e
      rw [e1]
      exact .cons r1 (pick_vals r ix)
/-- how n values by position and keywords ks are bound: by the places ix in both together -/
def BdK (x qn : Str) (st : Stmt) (ps : List Str) (n : Nat) (ks : List Str) (ix : List Nat) : Prop := ∀ (kV doc pm : Value) (an : Option Addr) (cdv ct : Value) (us ws : List Value), us.length = n → ws.length = ks.length →
  bindArgs (PySem.W.fnOf x qn (defArgs st) (defBody st) (defScope st) .none kV doc pm an cdv ct) ⟨us, ks.zip ws⟩ = pure (ps.zip (pick ix (us ++ ws)))
section
variable {K : Frag} {x qn : Str} {st : Stmt} {ps ks : List Str} {kws : List (Str × V)} {f : Addr} {fd : FuncData} {n : Nat} {ix : List Nat}
theorem FunD.b0 (F : FunD K x qn (defArgs st) (defBody st) (defScope st) [] kws f fd) (h : Bd0 x qn st ps) : Binds K fd ps [] := FunD.bindsN F h
theorem FunD.bk (F : FunD K x qn (defArgs st) (defBody st) (defScope st) [] kws f fd) (h : BdK x qn st ps n ks ix) : KBn K fd ps n ks (fun us ws => pick ix (us ++ ws)) (fun us ws => pick ix (us ++ ws)) := by
  obtain ⟨oc, od, dV, kV, doc, pm, an, cdv, ct, osl, rfl, lk, hcd, hD, hK⟩ := F.ex
  rcases hD with ⟨_, rfl⟩ | ⟨e, _⟩
  · exact ⟨fun s us ws _ l1 l2 => .of_eq (h kV doc pm an cdv ct us ws l1 l2), fun r1 r2 => pick_vals (r1.append r2) ix⟩
  · exact absurd rfl e
end
section
variable {X : Cx} {B : Bd} {pos p : Pos} {k j n : Nat} {wx : DW} {e : Expr} {es : List Expr} {x qn : Str} {st : Stmt} {kws : List (Str × V)} {ps : List Str} {fn : DF} {f : Addr} {tA tB : DTA}
theorem so_callF (S : Site X B k wx) (C : Fn X.prog X.w X.K X.mg X.base x qn st [] kws ps n j fn f) (hj : j ≤ k) (hm : X.mg x = some (.ref f)) (hb : Bd0 x qn st ps) (hg : Gl X x) (ha : PA X (e :: es) (liftA B tA))
    (hdb : (x == ("__debug__" : Str)) = false := by decide) (he : starEach (e :: es) X.env = (false, eval e X.env) :: starEach es X.env := by rfl) (hpl : (backTo pos (starEach es X.env)).any (·.1) = false := by rfl) :
    PE X (.Call (.Name x p) (e :: es) [] pos) (lift B (dCall fn n wx [] tA)) := by
  obtain ⟨fd, G, F⟩ := C.ex
  exact de_call (S.hK ▸ G) S.gd (S.rm.mono hj) hg hm F.kp (FunD.b0 F hb) .nil (fun _ => .nil) S.tk ha hdb he hpl
end
end DL
set_option Elab.async false
set_option linter.all false
set_option maxRecDepth 100000
set_option maxHeartbeats 4000000
namespace DL
open PySem PySem.Spec PyProof.Rows L2
section
variable {X : Cx} {B : Bd} {k n : Nat} {C f : Addr} {fd : FuncData} {ps : List Str} {sp : Sp}
/-- the reading: y is an instance of C -/
def dOwnIn (C : Addr) (neg : Bool) (fn : DF) : DR2 := fun x y O q => ∃ fs, InsAt C O y fs ∧ fn [y, x] O (fun d O' => ∃ b, d = .bl b ∧ q (.bl (if neg then !b else b)) O') (fun _ _ _ => False)
def dOwnEq (C : Addr) (fn : DF) : DR2 := fun x y O q => ∃ fs gs, InsAt C O x fs ∧ InsAt C O y gs ∧ fn [x, y] O (fun d O' => ∃ c, d = .bl c ∧ q (.bl c) O') (fun _ _ _ => False)
def dOwnLen (C : Addr) (fn : DF) : List D → Ow → DQ → Prop := fun ds O q => match ds with | [y] => ∃ fs, InsAt C O y fs ∧ fn [y] O (fun d O' => ∃ n : Int, d = .int n ∧ (0 ≤ n ∧ n < 2 ^ 63) ∧ q (.int n) O') (fun _ _ _ => False) | _ => False
def dOwnStr (C : Addr) (fn : DF) : List D → Ow → DQ → Prop := fun ds O q => match ds with | [y] => ∃ fs, InsAt C O y fs ∧ fn [y] O (fun d O' => ∃ x : Str, d = .str x ∧ q (.str x) O') (fun _ _ _ => False) | _ => False
def dIsiC (C : Addr) : List D → Ow → DQ → Prop := fun ds O q => match ds with
  | [x, .ref c] => c = C ∧ ((∃ fs, InsAt C O x fs ∧ q (.bl true) O) ∨ ∃ a, tyN O x = some a ∧ q (.bl false) O)
  | _ => False
end
section
variable {O : Ow} {q : DQ} {C : Addr} {fn : DF} {ns : List Str} {ds : List D}
theorem i_ownIn {x : D} {neg : Bool} (h : fn [.ins C ns ds, x] O (fun d O' => ∃ b, d = .bl b ∧ q (.bl (if neg then !b else b)) O') (fun _ _ _ => False)) : dOwnIn C neg fn x (.ins C ns ds) O q := ⟨_, ⟨rfl, rfl⟩, h⟩
theorem i_ownEq {ms : List Str} {es : List D} (h : fn [.ins C ns ds, .ins C ms es] O (fun d O' => ∃ c, d = .bl c ∧ q (.bl c) O') (fun _ _ _ => False)) : dOwnEq C fn (.ins C ns ds) (.ins C ms es) O q := ⟨_, _, ⟨rfl, rfl⟩, ⟨rfl, rfl⟩, h⟩
theorem i_ownLen (h : fn [.ins C ns ds] O (fun d O' => ∃ n : Int, d = .int n ∧ (0 ≤ n ∧ n < 2 ^ 63) ∧ q (.int n) O') (fun _ _ _ => False)) : dOwnLen C fn [.ins C ns ds] O q := ⟨_, ⟨rfl, rfl⟩, h⟩
theorem i_ownStr (h : fn [.ins C ns ds] O (fun d O' => ∃ x : Str, d = .str x ∧ q (.str x) O') (fun _ _ _ => False)) : dOwnStr C fn [.ins C ns ds] O q := ⟨_, ⟨rfl, rfl⟩, h⟩
theorem i_isiI (h : q (.bl true) O) : dIsiC C [.ins C ns ds, .ref C] O q := ⟨rfl, .inl ⟨_, ⟨rfl, rfl⟩, h⟩⟩
end
end DL
set_option Elab.async false
set_option linter.all false
set_option maxRecDepth 100000
set_option maxHeartbeats 4000000
namespace DL
open PySem PySem.Spec PyProof.Rows L2
section
variable {X : Cx} {B : Bd} {k : Nat} {wx : DW} {e o : Expr} {p pos apos : Pos} {tA : DTA} {ta tb : DTE}
def dStr1 : List D → Ow → DQ → Prop := fun ds O q => match ds with
  | [.int i] => i.natAbs.log2 < 1920 ∧ q (.str (toString i)) O
  | [.str s] => q (.str s) O
  | _ => False
/-- sep.join(texts) -/
def strsOf : List D → Option (List Str)
  | [] => some []
  | .str s :: ds => (strsOf ds).map (s :: ·)
  | _ => none
def joinK (a : Str) (q : DQ) : DQ := fun y O2 => ∃ ds ss, asS O2 y = some ds ∧ strsOf ds = some ss ∧ (ss.map (·.length)).sum + ss.length * a.length ≤ 16777216 ∧ q (.str (Txt.join a ss)) O2
def dJoin (ta tb : DTE) : DTE := fun env O q => ta env O fun x O1 => match x with
  | .str a => tb env O1 (joinK a q)
  | _ => False
theorem i_join {env : Env} {O : Ow} {q : DQ} (h : ta env O fun x O1 => match x with | .str a => tb env O1 (joinK a q) | _ => False) : dJoin ta tb env O q := h
end
end DL
set_option Elab.async false
set_option linter.all false
set_option maxRecDepth 100000
set_option maxHeartbeats 4000000
namespace DL
open PySem PySem.Spec PyProof.Rows L2
/-- what an own list is as data -/
def frzD (O : Ow) : D → D
  | .ref p => match O p with | some (.lst ds) => .lst ds | _ => .ref p
  | d => d
/-- the own lists among some data -/
def frzP (O : Ow) : List (Str × D) → Addr → Bool
  | [], _ => false
  | (_, .ref p) :: r, a => (match O p with | some (.lst _) => a == p | _ => false) || frzP O r a
  | _ :: r, a => frzP O r a
/-- without x and the own lists among its attributes -/
def cutO (O : Ow) (x : Addr) (fs : List (Str × D)) : Ow := fun a => if a = x ∨ frzP O fs a = true then none else O a
theorem frzP_own {O : Ow} : ∀ {fs : List (Str × D)} {a : Addr}, frzP O fs a = true → ∃ ds, O a = some (.lst ds)
  | [], a, h => by cases h
  | (n, d) :: r, a, h => by
    cases d <;> simp only [frzP, Bool.or_eq_true] at h <;> try exact frzP_own h
    rename_i p
    rcases h with h | h
    · split at h
      · rename_i ds e
        rw [beq_iff_eq.mp h]
        exact ⟨ds, e⟩
      · cases h
    · exact frzP_own h
theorem frzP_mem {O : Ow} {n : Str} {p : Addr} {ds : List D} (e : O p = some (.lst ds)) : ∀ {fs : List (Str × D)}, (n, D.ref p) ∈ fs → frzP O fs p = true
  | (m, d) :: r, h => by
    rcases List.mem_cons.mp h with h | h
    · cases h
      simp only [frzP, e, beq_self_eq_true, Bool.true_or]
    · have ih := frzP_mem e h
      cases d <;> simp only [frzP] <;> try exact ih
      rw [ih, Bool.or_true]
section
variable {B : Bd} {env : Env} {O : Ow} {σ : St} {H F : Hp}
theorem Rel.iceIns (R : Rel B env O σ H F) {x C dx : Addr} {fs : List (Str × D)} (h : O x = some (.ins C dx fs)) :
    ∃ F', RV B.K F' (.ins C (fs.map (·.1)) (fs.map fun z => frzD O z.2)) (.ref x) ∧ After B.K O H F (cutO O x fs) H F' := by
  obtain ⟨hF, ho, e1, gs, rfl, rk⟩ := R.ow x _ h
  let F' : Hp := fun a => if a = x ∨ frzP O fs a = true then H a else F a
  have hin : ∀ a, (a = x ∨ frzP O fs a = true) → O a ≠ none ∧ F a = none := fun a ha => by
    rcases ha with rfl | ha
    · exact ⟨by rw [h]; simp, hF⟩
    · obtain ⟨ds, e⟩ := frzP_own ha
      exact ⟨by rw [e]; simp, (R.ow a _ e).1⟩
  have s1 : Same F F' := fun b u e => by
    show (if b = x ∨ frzP O fs b = true then H b else F b) = some u
    by_cases hb : b = x ∨ frzP O fs b = true
    · rw [(hin b hb).2] at e; cases e
    · rw [if_neg hb]; exact e
  have s2 : Same F' H := fun b u e => by
    have e' : (if b = x ∨ frzP O fs b = true then H b else F b) = some u := e
    by_cases hb : b = x ∨ frzP O fs b = true
    · rw [if_pos hb] at e'; exact e'
    · rw [if_neg hb] at e'; exact R.fh b u e'
  have key : ∀ (l : List (Str × D)) (g : List (Str × V)), RKV B.K F l g → (∀ z ∈ l, z ∈ fs) → RVs B.K F' (l.map fun z => frzD O z.2) (g.map (·.2)) ∧ g.map (·.1) = l.map (·.1) := by
    intro l g hr
    induction hr with
    | nil => exact fun _ => ⟨.nil, rfl⟩
    | cons hh t ih =>
      rename_i p q l' g'
      intro hm
      obtain ⟨i1, i2⟩ := ih fun z hz => hm z (List.mem_cons_of_mem _ hz)
      refine ⟨?_, by simp only [List.map_cons, i2, hh.1]⟩
      simp only [List.map_cons]
      refine .cons ?_ i1
      obtain ⟨pn, pdd⟩ := p
      obtain ⟨qn, qv⟩ := q
      have hr2 : RV B.K F pdd qv := hh.2
      show RV B.K F' (frzD O pdd) qv
      cases pdd <;> simp only [frzD] <;> try exact hr2.mono s1
      rename_i pp
      cases hr2 with
      | ref =>
        cases e : O pp with
        | none => exact RV.ref pp
        | some od =>
          cases od with
          | lst ds =>
            obtain ⟨_, ho, e2, vs, rfl, rr⟩ := R.ow pp _ e
            refine .lst (SqL.of ?_) (rr.mono s1)
            show (if pp = x ∨ frzP O fs pp = true then H pp else F pp) = some (.lst vs)
            rw [if_pos (.inr (frzP_mem e (hm _ List.mem_cons_self)))]
            exact e2
          | _ => exact RV.ref pp
  obtain ⟨k1, k2⟩ := key fs gs rk fun _ hz => hz
  refine ⟨F', .ins (dx := dx) (xs := gs.map (·.2)) ?_ (by simp) k1, ⟨s1, s2, fun _ _ e _ => .inl e, fun a ha ho h0 => ?_, fun q u e => ?_, fun q u e => ?_, fun _ _ t => t⟩⟩
  · show (if x = x ∨ frzP O fs x = true then H x else F x) = _
    rw [if_pos (.inl rfl), e1, ← k2]
    congr 2
    clear k1 k2 key rk e1
    induction gs with
    | nil => rfl
    | cons g gs ih => simp only [List.map_cons, List.zip_cons_cons]; rw [← ih]
  · show (if a = x ∨ frzP O fs a = true then H a else F a) = none
    by_cases hb : a = x ∨ frzP O fs a = true
    · exact absurd ho (hin a hb).1
    · rw [if_neg hb]; exact h0
  · unfold cutO at e
    by_cases hb : q = x ∨ frzP O fs q = true
    · rw [if_pos hb] at e; cases e
    · rw [if_neg hb] at e
      obtain ⟨h1, ho, h3, h4⟩ := R.ow q u e
      refine ⟨?_, ho, h3, h4.mono s1⟩
      show (if q = x ∨ frzP O fs q = true then H q else F q) = none
      rw [if_neg hb]; exact h1
  · unfold cutO at e
    by_cases hb : q = x ∨ frzP O fs q = true
    · rw [if_pos hb] at e; cases e
    · rw [if_neg hb] at e; exact .inl (by rw [e]; simp)
end
section
variable {X : Cx} {B : Bd} {pos p : Pos} {k j n : Nat} {wx : DW} {e : Expr} {es : List Expr} {x qn : Str} {st : Stmt} {kws : List (Str × V)} {ps : List Str} {fn : DF} {C f : Addr} {tA tB : DTA} {t : DTE} {env : Env} {O : Ow} {q : DQ}
/-- an own instance becomes data -/
def iceI (C : Addr) (q : DQ) : DQ := fun d O1 => match d with
  | .ref x => ∃ dx fs, O1 x = some (.ins C dx fs) ∧ ∃ o2, SubO o2 (cutO O1 x fs) ∧ q (.ins C (fs.map (·.1)) (fs.map fun z => frzD O1 z.2)) o2
  | _ => False
def dIceI (C : Addr) (t : DTE) : DTE := fun env O q => t env O (iceI C q)
theorem de_iceI {t : DTE} (h : PE X e (lift B t)) : PE X e (lift B (dIceI C t)) := PE.weak h fun σ H Q hh => by
  obtain ⟨env, O, F, q, R, hh, kk⟩ := hh
  refine ⟨env, O, F, _, R, hh, fun d v O1 H1 F1 a1 r1 h1 => ?_⟩
  cases d <;> try exact h1.elim
  rename_i p
  obtain ⟨dx, fs, e, o2, sb, h1⟩ := h1
  cases r1
  obtain ⟨F2, r2, a2⟩ := (R.call a1).iceIns e
  exact kk _ _ _ _ F2 (a1.trans (a2.weak sb)) r2 h1
theorem i_iceI (h : t env O (iceI C q)) : dIceI C t env O q := h
/-- C(..) -/
theorem so_makeF (S : Site X B k wx) (Cl : Fn X.prog X.w X.K X.mg X.base "__init__" qn st [] kws ps n j fn f) (hj : j + 1 ≤ k) (hm : X.mg x = some (.ref C)) (M : Mk X.K C f) (hb : Bd0 "__init__" qn st ps) (hg : Gl X x) (ha : PA X (e :: es) (liftA B tA))
    (hdb : (x == ("__debug__" : Str)) = false := by decide) (he : starEach (e :: es) X.env = (false, eval e X.env) :: starEach es X.env := by rfl) (hpl : (backTo pos (starEach es X.env)).any (·.1) = false := by rfl) :
    PE X (.Call (.Name x p) (e :: es) [] pos) (lift B (dMake C fn n wx [] tA)) := by
  obtain ⟨fd, G, F⟩ := Cl.ex
  exact de_make M (S.hK ▸ G) S.gd (S.rm.mono hj) hg hm (FunD.b0 F hb) .nil (fun _ => .nil) S.tk ha hdb he hpl
/-- a constant of a class -/
theorem so_cvalE {mc : Value} {f : Str} {v : V} {d : D} {e : Expr} (cr : ClX.CRead X.K C mc) (cv : ∃ u, ClX.CVal X.K C mc f v u) (he : PE X e (tC (.ref C))) (r : ∀ F, RV B.K F d v) (hb : attributeBase e f X.env (eval e X.env) = eval e X.env := by rfl) : PE X (.Attribute e f pos) (lift B (dC d)) := by
  obtain ⟨u, cv⟩ := cv
  exact so_cval cr cv he r hb
end
section
variable {P : Program} {w : World} {K : Frag} {mg : Str → Option Value} {base : Heap} {X : Cx} {B : Bd} {pos : Pos} {k : Nat} {wx : DW} {e : Expr} {C g : Addr} {x qn f f' : Str} {st : Stmt} {ta : DTE}
/-- a getter of the text -/
structure Get (P : Program) (w : World) (K : Frag) (mg : Str → Option Value) (base : Heap) (C : Addr) (f' : Str) (g : Addr) : Prop where
  ex : ∃ fd, FnOk P w K mg base CX0 1 g fd ["self"] (getSp C f') ∧ Binds K fd ["self"] []
theorem get_E {p1 p2 p3 : Pos} (F : HasD K x qn st [] [] g) (S : FnScope ["self"] ["self"] (defScope st)) (hb : defBody st = [.Return (some (.Attribute (.Name "self" p1) f' p2)) p3]) (c : Cls K C) (n : NoAttr K C f') (b : Bd0 x qn st ["self"]) : Get P w K mg base C f' g := by
  obtain ⟨fd, F⟩ := F
  exact ⟨fd, ok_getter F S hb c n, FunD.b0 F b⟩
/-- a getter with a remark of its own ahead -/
theorem so_propE {pa : Addr} (S : Site X B k wx) (hk : 2 ≤ k) (c : Cls X.K C) (hp : PropOf X.K C f pa g) (G : Get X.prog X.w X.K X.mg X.base C f' g) (he : PE X e (lift B ta)) (hab : attributeBase e f X.env (eval e X.env) = eval e X.env := by rfl) : PE X (.Attribute e f pos) (lift B (dFld C f' ta)) := by
  obtain ⟨fd, Fn, hb⟩ := G.ex
  obtain ⟨k2, rfl⟩ : ∃ k2, k = k2 + 2 := ⟨k - 2, by omega⟩
  exact de_prop S c hp Fn hb he hab
end
end DL
set_option Elab.async false
set_option linter.all false
set_option maxRecDepth 100000
set_option maxHeartbeats 4000000
namespace DL
open PySem PySem.Spec PyProof.Rows L2
def intX (x : Str) (i : Int) : Fac := fun K => (He.Fa.int x i).ok K
def methB (x m : Str) : Fac := fun K => (He.Fa.meth x m).ok K
section
variable {X : Cx} {B : Bd} {pos : Pos} {env : Env} {O : Ow} {q : DQ}
/-- {} of one's own -/
def dDict0 : DTE := fun _ O q => ∀ p, O p = none → q (.ref p) (setO O p (.dK []))
theorem so_dict0 : PE X (.Dict [] [] pos) (lift B dDict0) := PE.weak pe_dnewK fun σ H Q h => by
  obtain ⟨env, O, F, q, R, h, k⟩ := h
  intro p hp
  exact k _ _ _ _ F (R.own hp (u := .dK []) ⟨[], rfl, .nil⟩) (.ref p) (h p (R.free hp).1)
theorem i_sz {ds : List D} {Pr : Prop} (h1 : ds.length ≤ 100000) (h : Pr) : ds.length ≤ sizeLine ∧ Pr := ⟨len_ok h1, h⟩
theorem i_strS {s : Str} (h : q (.str s) O) : dStr1 [.str s] O q := h
theorem i_dict0 (h : ∀ p, O p = none → q (.ref p) (setO O p (.dK []))) : dDict0 env O q := h
end
end DL
set_option Elab.async false
set_option linter.all false
set_option maxRecDepth 100000
set_option maxHeartbeats 4000000
namespace DL
open PySem PySem.Spec PyProof.Rows L2
theorem pys_map : ∀ ds : List D, pys ds = ds.map py
  | [] => rfl
  | d :: ds => by rw [pys, pys_map ds]; rfl
theorem seq_parts {m : Nat} : ∀ {ds : List D}, (∀ d ∈ ds, good d = true ∧ (py d).depth ≤ m) → pds ds = true ∧ PyData.canLayAll0 (pys ds) = true ∧ PyData.depthAll (pys ds) ≤ m
  | [], _ => ⟨rfl, rfl, Nat.zero_le _⟩
  | d :: ds, h => by
    obtain ⟨h1, h2, h3⟩ := seq_parts fun e he => h e (List.mem_cons_of_mem _ he)
    obtain ⟨g, gd⟩ := h d List.mem_cons_self
    simp only [good, SeqAt.shaped, Bool.and_eq_true, decide_eq_true_eq] at g
    refine ⟨by simp [pds, g.1, h1], by simp [pys, PyData.canLayAll0, g.2.1, h2], ?_⟩
    simp only [pys, PyData.depthAll]
    omega
theorem good_tupI {ds : List D} (h : ∀ d ∈ ds, good d = true ∧ (py d).depth ≤ 60) : good (.tup ds) = true := by
  obtain ⟨h1, h2, h3⟩ := seq_parts h
  simp only [good, SeqAt.shaped, pd, py, PyData.canLay0, PyData.depth, h1, h2, Bool.true_and, decide_eq_true_eq]
  omega
theorem good_lstI {ds : List D} (h : ∀ d ∈ ds, good d = true ∧ (py d).depth ≤ 60) : good (.lst ds) = true := by
  obtain ⟨h1, h2, h3⟩ := seq_parts h
  simp only [good, SeqAt.shaped, pd, py, PyData.canLay0, PyData.depth, h1, h2, Bool.true_and, decide_eq_true_eq]
  omega
mutual
theorem eqv_refl : ∀ {d : D}, pd d = true → PyData.eqv (py d) (py d) = true
  | .non, _ => by simp [py, PyData.eqv]
  | .bl b, _ => by simp [py, PyData.eqv]
  | .int i, _ => by simp [py, PyData.eqv]
  | .str x, _ => by simp [py, PyData.eqv]
  | .ref a, h => by simp [pd] at h
  | .ty n, h => by simp [pd] at h
  | .ins _ _ _, h => by simp [pd] at h
  | .lst ds, h => by rw [py, PyData.eqv]; exact eqvs_refl (by simpa [pd] using h)
  | .tup ds, h => by rw [py, PyData.eqv]; exact eqvs_refl (by simpa [pd] using h)
theorem eqvs_refl : ∀ {ds : List D}, pds ds = true → PyData.eqvAll (pys ds) (pys ds) = true
  | [], _ => by simp [pys, PyData.eqvAll]
  | d :: ds, h => by
    simp only [pds, Bool.and_eq_true] at h
    simp only [pys, PyData.eqvAll, Bool.and_eq_true]
    exact ⟨eqv_refl h.1, eqvs_refl h.2⟩
end
mutual
/-- data without truths -/
def nb : D → Bool
  | .non => true | .int _ => true | .str _ => true | .lst ds => nbs ds | .tup ds => nbs ds | _ => false
def nbs : List D → Bool
  | [] => true | d :: ds => nb d && nbs ds
end
mutual
theorem eqv_eq : ∀ {a b : D}, nb a = true → nb b = true → PyData.eqv (py a) (py b) = true → a = b
  | a, b, ha, hb, h => by
    cases a <;> simp only [nb, Bool.false_eq_true] at ha <;> cases b <;> simp only [nb, Bool.false_eq_true] at hb <;> simp only [py, PyData.eqv, Bool.false_eq_true] at h
    · rfl
    · rw [beq_iff_eq.mp h]
    · rw [beq_iff_eq.mp h]
    · rw [eqvs_eq ha hb h]
    · rw [eqvs_eq ha hb h]
theorem eqvs_eq : ∀ {as bs : List D}, nbs as = true → nbs bs = true → PyData.eqvAll (pys as) (pys bs) = true → as = bs
  | [], [], _, _, _ => rfl
  | [], _ :: _, _, _, h => by simp [pys, PyData.eqvAll] at h
  | _ :: _, [], _, _, h => by simp [pys, PyData.eqvAll] at h
  | a :: as, b :: bs, ha, hb, h => by
    simp only [nbs, Bool.and_eq_true] at ha hb
    simp only [pys, PyData.eqvAll, Bool.and_eq_true] at h
    rw [eqv_eq ha.1 hb.1 h.1, eqvs_eq ha.2 hb.2 h.2]
end
open TL (tl tl_append tl_join joinL tl_mk)
theorem tl_len (a : Str) : a.length = (tl a).length := by simp [Str.length, tl]
def sgn (d : D) : List Nat := tl (shw d)
theorem sgn_tup {ds : List D} (h : ds.length ≠ 1) : sgn (.tup ds) = 40 :: (joinL [44, 32] (ds.map sgn) ++ [41]) := by
  unfold sgn shw
  rw [py, PyData.shown]
  have e : ∀ l : List D, (PyData.shownAll (pys l)).map tl = l.map sgn := by
    intro l
    induction l with
    | nil => rfl
    | cons d l ih => simp only [pys, PyData.shownAll, List.map_cons, ih]; rfl
  have el : (PyData.shownAll (pys ds)).length = ds.length := by
    have := congrArg List.length (e ds)
    simpa using this
  unfold tupleText
  rw [tl_append, tl_append, tl_join, e]
  have h1 : ((PyData.shownAll (pys ds)).length == 1) = false := by rw [el]; simpa using h
  rw [h1]
  rfl
theorem sgn_tup1 {d : D} : sgn (.tup [d]) = 40 :: (sgn d ++ [44, 41]) := by
  unfold sgn shw
  rw [py, PyData.shown]
  simp only [pys, PyData.shownAll]
  unfold tupleText
  rw [tl_append, tl_append, tl_join]
  rfl
theorem joinL_mem {S : List Nat} {x : Nat} : ∀ {ps : List (List Nat)}, x ∈ joinL S ps → x ∈ S ∨ ∃ p ∈ ps, x ∈ p
  | [], h => by simp [joinL] at h
  | [p], h => .inr ⟨p, List.mem_cons_self, h⟩
  | p :: q :: r, h => by
    rcases List.mem_append.mp h with h | h
    · exact .inr ⟨p, List.mem_cons_self, h⟩
    · rcases List.mem_append.mp h with h | h
      · exact .inl h
      · rcases joinL_mem h with h | ⟨z, hz, h⟩
        · exact .inl h
        · exact .inr ⟨z, List.mem_cons_of_mem _ hz, h⟩
theorem joinL_len {S : List Nat} {m : Nat} : ∀ {ps : List (List Nat)}, (∀ p ∈ ps, p.length ≤ m) → (joinL S ps).length ≤ ps.length * (m + S.length)
  | [], _ => by simp [joinL]
  | [p], h => by
    have := h p List.mem_cons_self
    simp only [joinL, List.length_cons, List.length_nil]
    omega
  | p :: q :: r, h => by
    have h1 := h p List.mem_cons_self
    have h2 := joinL_len (S := S) (ps := q :: r) fun z hz => h z (List.mem_cons_of_mem _ hz)
    have e : (p :: q :: r).length * (m + S.length) = (q :: r).length * (m + S.length) + (m + S.length) := by
      rw [List.length_cons, Nat.add_mul, Nat.one_mul]
    rw [e]
    simp only [joinL, List.length_append]
    omega
/-- data that can be shown, with few and common signs -/
structure Shows (d : D) (m : Nat) : Prop where
  gd : good d = true
  sh : (py d).showable = true
  ln : (sgn d).length ≤ m
  sg : ∀ x ∈ sgn d, x < 128
theorem Shows.ok {d : D} {m : Nat} (h : Shows d m) (hm : m ≤ 1000000) : shwOk d = true := by
  have hd := good_sh h.gd
  simp only [SeqAt.shaped, Bool.and_eq_true, decide_eq_true_eq] at hd
  simp only [shwOk, Bool.and_eq_true, decide_eq_true_eq]
  have hl : (py d).shown.length = (sgn d).length := tl_len _
  have h1 := h.ln
  refine ⟨⟨⟨⟨good_pd h.gd, h.sh⟩, hd.2⟩, by omega⟩, ?_⟩
  simp only [PyData.canLay0, PyData.strOk, Array.all_eq_true_iff_forall_mem, decide_eq_true_eq]
  intro x hx
  have := h.sg x (by simpa [sgn, tl] using hx)
  omega
theorem shows_all {m : Nat} : ∀ {ds : List D}, (∀ d ∈ ds, Shows d m) → PyData.showableAll (pys ds) = true
  | [], _ => rfl
  | d :: ds, h => by
    simp only [pys, PyData.showableAll, Bool.and_eq_true]
    exact ⟨(h d List.mem_cons_self).sh, shows_all fun e he => h e (List.mem_cons_of_mem _ he)⟩
theorem Shows.tup {ds : List D} {m : Nat} (h : ∀ d ∈ ds, Shows d m ∧ (py d).depth ≤ 60) : Shows (.tup ds) ((m + 2) * ds.length + 4) := by
  have hl : ∀ p ∈ ds.map sgn, p.length ≤ m := fun p hp => by
    obtain ⟨d, hd, rfl⟩ := List.mem_map.mp hp
    exact (h d hd).1.ln
  have hs : ∀ p ∈ ds.map sgn, ∀ x ∈ p, x < 128 := fun p hp => by
    obtain ⟨d, hd, rfl⟩ := List.mem_map.mp hp
    exact (h d hd).1.sg
  refine ⟨good_tupI fun d hd => ⟨(h d hd).1.gd, (h d hd).2⟩, by rw [py, PyData.showable]; exact shows_all fun d hd => (h d hd).1, ?_, fun x hx => ?_⟩
  · by_cases h1 : ds.length = 1
    · match ds, h1 with
      | [d], _ =>
        rw [sgn_tup1]
        have := (h d List.mem_cons_self).1.ln
        simp only [List.length_cons, List.length_append, List.length_nil]
        omega
    · rw [sgn_tup h1]
      have := joinL_len (S := [44, 32]) hl
      rw [List.length_map] at this
      simp only [List.length_cons, List.length_append, List.length_nil, Nat.zero_add] at this ⊢
      rw [Nat.mul_comm]
      have e2 : m + (1 + 1) = m + 2 := rfl
      rw [e2] at this
      omega
  · by_cases h1 : ds.length = 1
    · match ds, h1 with
      | [d], _ =>
        rw [sgn_tup1] at hx
        simp only [List.mem_cons, List.mem_append, List.mem_nil_iff, or_false] at hx
        rcases hx with rfl | hx | rfl | rfl
        · decide
        · exact (h d List.mem_cons_self).1.sg x hx
        · decide
        · decide
    · rw [sgn_tup h1] at hx
      simp only [List.mem_cons, List.mem_append, List.mem_nil_iff, or_false] at hx
      rcases hx with rfl | hx | rfl
      · decide
      · rcases joinL_mem hx with h2 | ⟨p, hp, h2⟩
        · simp only [List.mem_cons, List.mem_nil_iff, or_false] at h2
          rcases h2 with rfl | rfl <;> decide
        · exact hs p hp x h2
      · decide
end DL
set_option Elab.async false
set_option linter.all false
set_option maxRecDepth 100000
set_option maxHeartbeats 4000000
namespace DL
open PySem PySem.Spec PyProof.Rows L2 ItX
section
variable {X : Cx} {B : Bd} {k : Nat} {wx : DW} {tg e : Expr} {C fa : Addr} {f : Str} {te : DTE} {pos : Pos}
/-- the walk over an end's table -/
def diOwn (C : Addr) (f : Str) (te : DTE) : DTI := fun env O q => te env O fun d O1 => ∃ fs z ds, InsAt C O1 d fs ∧ fs.lookup f = some z ∧ asL O1 z = some ds ∧ q ds (gdL O1 z) O1
theorem i_own {env : Env} {O : Ow} {q : List D → (Ow → Prop) → Ow → Prop} (h : te env O fun d O1 => ∃ fs z ds, InsAt C O1 d fs ∧ fs.lookup f = some z ∧ asL O1 z = some ds ∧ q ds (gdL O1 z) O1) : diOwn C f te env O q := h
end
section
variable {X : Cx} {B : Bd} {k : Nat} {wx : DW} {e : Expr} {te : DTE} {pos : Pos}
def fmtK (q : DQ) : DQ := fun x O1 => match x with
  | .str y => y.length ≤ sizeLine ∧ q (.str y) O1
  | .int i => i.natAbs.log2 < 1920 ∧ q (.str (toString i)) O1
  | _ => False
def dFmt (te : DTE) : DTE := fun env O q => te env O (fmtK q)
def jsK (rest : Str → Env → Ow → DQ → Prop) (acc : Str) (env : Env) (q : DQ) : DQ := fun x O1 => match x with
  | .str y => (acc ++ y).length ≤ sizeLine ∧ rest (acc ++ y) env O1 q
  | _ => False
def dJs : List DTE → Str → Env → Ow → DQ → Prop
  | [], acc, _, O, q => q (.str acc) O
  | t :: ts, acc, env, O, q => t env O (jsK (dJs ts) acc env q)
end
section
variable {env : Env} {O : Ow} {q : DQ} {te : DTE} {ts : List DTE} {acc : Str}
theorem i_fmt (h : te env O (fmtK q)) : dFmt te env O q := h
theorem i_js {t : DTE} (h : t env O (jsK (dJs ts) acc env q)) : dJs (t :: ts) acc env O q := h
theorem i_js0 (h : q (.str acc) O) : dJs [] acc env O q := h
end
section
variable {X : Cx} {B : Bd} {pos p : Pos} {k j n : Nat} {wx : DW} {x qn : Str} {st : Stmt} {kws : List (Str × V)} {ps : List Str} {fn : DF} {C f : Addr} {tB : DTA}
def dMakeK0 (C : Addr) (fn : DF) (n l : Nat) (w : DW) (ix : List Nat) (tb : DTA) : DTE := fun env O q => tb env O fun es O1 => es.length = l ∧ (∀ x, (pick ix (x :: es)).length = n) ∧ ∀ x dx, O1 x = none → O1 dx = none → dx ≠ x →
  fn (pick ix (.ref x :: es)) (setO O1 x (.ins C dx [])) (fun d O2 => d = .non ∧ q (.ref x) O2) fun c fs O' => w c fs env O'
theorem i_makeK0 {w : DW} {ix : List Nat} {l : Nat} {env : Env} {O : Ow} {q : DQ} (h : tB env O fun es O1 => es.length = l ∧ (∀ x, (pick ix (x :: es)).length = n) ∧ ∀ x dx, O1 x = none → O1 dx = none → dx ≠ x →
  fn (pick ix (.ref x :: es)) (setO O1 x (.ins C dx [])) (fun d O2 => d = .non ∧ q (.ref x) O2) fun c fs O' => w c fs env O') : dMakeK0 C fn n l w ix tB env O q := h
end
section
variable {X : Cx} {B : Bd} {k j : Nat} {wx : DW} {C f : Addr} {fd : FuncData} {ps : List Str} {sp : Sp} {a b : Expr} {ta tb : DTE} {pos : Pos} {x qn : Str} {st : Stmt} {kws : List (Str × V)} {fn : DF}
variable {e : Expr} {apos : Pos} {to : DTE}
def clearK (q : DQ) : DQ := fun x O1 => match x with
  | .ref p => ∃ es, O1 p = some (.lst es) ∧ q .non (setO O1 p (.lst []))
  | _ => False
def dClear (to : DTE) : DTE := fun env O q => to env O (clearK q)
theorem i_clear {env : Env} {O : Ow} {q : DQ} (h : to env O (clearK q)) : dClear to env O q := h
theorem i_clearK {O : Ow} {q : DQ} {p : Addr} {es : List D} (e1 : O p = some (.lst es)) (h : q .non (setO O p (.lst []))) : clearK q (.ref p) O := ⟨es, e1, h⟩
end
end DL
set_option Elab.async false
set_option linter.all false
set_option maxRecDepth 100000
set_option maxHeartbeats 4000000
namespace DL
open PySem PySem.Spec PyProof.Rows L2
section
variable {X : Cx} {B : Bd} {k : Nat} {wx : DW} {x f g : Str} {C fI : Addr} {e1 e2 : Expr} {p p2 pos : Pos} {tA : DTA}
def dRaise (C : Addr) (fs : List Str) (wx : DW) (tA : DTA) : DTS := fun _ env O => tA env O fun ds O1 => ds.length = fs.length ∧ wx (.ref C) (fs.zip ds).reverse env O1
theorem i_raise {fs : List Str} {E : DEnds} {env : Env} {O : Ow} (h : tA env O fun ds O1 => ds.length = fs.length ∧ wx (.ref C) (fs.zip ds).reverse env O1) : dRaise C fs wx tA E env O := h
end
section
variable {X : Cx} {B : Bd} {k i : Nat} {wx : DW} {x n : Str} {c : Value} {body suite : List Stmt} {b₀ : Stmt} {np pos pos' : Pos} {tb : DW → DTS} {ts : Addr → Value → List (Str × D) → DTS}
def dTryAs (K : Frag) (c : Value) (i : Nat) (tb : DW → DTS) (ts : Addr → Value → List (Str × D) → DTS) (wx : DW) : DTS := fun E env O => tb (fun cls fs env' O' => ∃ b, PySem.W.exmOne K cls c = some b ∧
  (b = true → ∀ a, O' a = none → ts a cls fs { nx := fun e o => E.nx (e.set i none) o, rt := E.rt, bk := fun e o => E.bk (e.set i none) o, ct := fun e o => E.ct (e.set i none) o } (env'.set i (some (.ref a))) O') ∧ (b = false → wx cls fs env' O')) E env O
/-- e.f of the caught exception -/
def xfK (a : Addr) (cls : Value) (C : Addr) (fs : List (Str × D)) (f : Str) (q : DQ) : DQ := fun x O1 => x = .ref a ∧ cls = .ref C ∧ ∃ v, fs.lookup f = some v ∧ q v O1
def dXf (a : Addr) (cls : Value) (C : Addr) (fs : List (Str × D)) (f : Str) (te : DTE) : DTE := fun env O q => te env O (xfK a cls C fs f q)
theorem i_xf {a : Addr} {cls : Value} {C : Addr} {fs : List (Str × D)} {f : Str} {te : DTE} {env : Env} {O : Ow} {q : DQ} (h : te env O (xfK a cls C fs f q)) : dXf a cls C fs f te env O q := h
theorem i_xfK {a : Addr} {C : Addr} {fs : List (Str × D)} {f : Str} {v : D} {O : Ow} {q : DQ} (e : fs.lookup f = some v) (h : q v O) : xfK a (.ref C) C fs f q (.ref a) O := ⟨rfl, rfl, v, e, h⟩
theorem i_tryAs {K : Frag} {E : DEnds} {env : Env} {O : Ow} (h : tb (fun cls fs env' O' => ∃ b, PySem.W.exmOne K cls c = some b ∧
  (b = true → ∀ a, O' a = none → ts a cls fs { nx := fun e o => E.nx (e.set i none) o, rt := E.rt, bk := fun e o => E.bk (e.set i none) o, ct := fun e o => E.ct (e.set i none) o } (env'.set i (some (.ref a))) O') ∧ (b = false → wx cls fs env' O')) E env O) : dTryAs K c i tb ts wx E env O := h
end
end DL
set_option Elab.async false
set_option linter.all false
set_option maxRecDepth 100000
set_option maxHeartbeats 4000000
namespace DL
open PySem PySem.Spec PyProof.Rows L2
section
variable {X : Cx} {B : Bd} {pos p p2 pos2 apos : Pos} {k : Nat} {wx : DW} {a b e : Expr} {ta tb to : DTE} {tA : DTA} {env : Env} {O : Ow} {q : DQ}
def dRep : DR2 := fun x y O q => match x, y with
  | .ref p, .int k => ∃ es, O p = some (.lst es) ∧ (-(2 ^ 63) ≤ k ∧ k < 2 ^ 63) ∧ es.length * k.toNat ≤ sizeLine ∧ q (.lst (List.replicate k.toNat es).flatten) O
  | _, _ => False
theorem sim_rep : Sim2 B rRep dRep := by
  intro env O σ H F x y dx dy q Q R rx ry h kk
  cases dx <;> cases dy <;> try exact h.elim
  cases rx; cases ry
  obtain ⟨es, e, ⟨h1, h2⟩, h3, h⟩ := h
  obtain ⟨_, ho, e2, vs, rfl, rr⟩ := R.ow _ _ e
  exact ⟨_, _, vs, rfl, rfl, e2, h1, h2, by rw [← rr.length]; exact h3, fresh_lst R (rr.rep _) h kk⟩
theorem so_rep (S : Site X B k wx) (ha : PE X a (lift B ta)) (hb : PE X b (lift B tb)) : PE X (.BinOp a .Mult b pos) (lift B (dOp dRep ta tb)) := de_op op_rep sim_rep ha hb
theorem i_rep {pp : Addr} {k : Int} {es : List D} (e : O pp = some (.lst es)) (h0 : 0 ≤ k ∧ k ≤ 100000) (hl : es.length ≤ 100) (h : q (.lst (List.replicate k.toNat es).flatten) O) : dRep (.ref pp) (.int k) O q :=
  ⟨es, e, ⟨by omega, by omega⟩, Nat.le_trans (Nat.mul_le_mul hl (show k.toNat ≤ 100000 by omega)) (by decide), h⟩
def popK2 (p : Addr) (es : List D) (q : DQ) : List D → Ow → Prop := fun ds O2 => match ds with
  | [.int i] => O2 p = some (.lst es) ∧ 0 ≤ i ∧ i < es.length ∧ es.length < 2 ^ 62 ∧ ∃ d, es[i.toNat]? = some d ∧ q d (setO O2 p (.lst (es.eraseIdx i.toNat)))
  | _ => False
def popK (tA : DTA) (env : Env) (q : DQ) : DQ := fun x O1 => match x with
  | .ref p => ∃ es, O1 p = some (.lst es) ∧ tA env O1 (popK2 p es q)
  | _ => False
def dPop (to : DTE) (tA : DTA) : DTE := fun env O q => to env O (popK tA env q)
theorem RVs.eraseIdx {K : Frag} {F : Hp} : ∀ {ds : List D} {vs : List V} (i : Nat), RVs K F ds vs → RVs K F (ds.eraseIdx i) (vs.eraseIdx i)
  | _, _, _, .nil => .nil
  | _, _, 0, .cons _ t => t
  | _, _, i + 1, .cons h t => .cons h (RVs.eraseIdx i t)
theorem i_pop (h : to env O (popK tA env q)) : dPop to tA env O q := h
theorem i_popK {pp : Addr} {es : List D} (hp : O pp = some (.lst es)) (h : tA env O (popK2 pp es q)) : popK tA env q (.ref pp) O := ⟨es, hp, h⟩
def dListRg2 (ta tb : DTE) : DTE := fun env O q => ta env O fun d O1 => tb env O1 fun e O2 => match d, e with | .int i, .int j => RgOk i j ∧ q (.lst (rgD i j)) O2 | _, _ => False
def dListRg2O (ta tb : DTE) : DTE := fun env O q => ta env O fun d O1 => tb env O1 fun e O2 => match d, e with | .int i, .int j => RgOk i j ∧ ∀ p, O2 p = none → q (.ref p) (setO O2 p (.lst (rgD i j))) | _, _ => False
theorem i_listRg2 (h : ta env O fun d O1 => tb env O1 fun e O2 => match d, e with | .int i, .int j => RgOk i j ∧ q (.lst (rgD i j)) O2 | _, _ => False) : dListRg2 ta tb env O q := h
theorem i_listRg2O (h : ta env O fun d O1 => tb env O1 fun e O2 => match d, e with | .int i, .int j => RgOk i j ∧ ∀ p, O2 p = none → q (.ref p) (setO O2 p (.lst (rgD i j))) | _, _ => False) : dListRg2O ta tb env O q := h
end
def SeqD (O : Ow) (d : D) (rs : List D) : Prop := d = .lst rs ∨ d = .tup rs ∨ ∃ p, d = .ref p ∧ O p = some (.lst rs)
theorem SeqD.set {O : Ow} {d : D} {rs : List D} {x : Addr} {o : OD} (h : SeqD O d rs) (hx : ∀ ds, O x ≠ some (.lst ds)) : SeqD (setO O x o) d rs := by
  rcases h with h | h | ⟨p, h, e⟩
  · exact .inl h
  · exact .inr (.inl h)
  · refine .inr (.inr ⟨p, h, ?_⟩)
    have hne : p ≠ x := fun z => hx rs (by rw [← z]; exact e)
    rw [setO_ne hne]
    exact e
def enumK (qi : List D → (Ow → Prop) → Ow → Prop) : DQ := fun d O1 => match d with
  | .tup ds => qi (enumD ds) (fun _ => True) O1
  | d => ∃ ds, asL O1 d = some ds ∧ qi (enumD ds) (gdL O1 d) O1
section
variable {env : Env} {O : Ow} {qi : List D → (Ow → Prop) → Ow → Prop} {te : DTE} {rs : List D} {d : D} {q : DQ}
theorem i_enum2 (h : te env O (enumK qi)) : diEnum te env O qi := h
theorem i_enumL (h : qi (enumD rs) (fun _ => True) O) : enumK qi (.lst rs) O := ⟨rs, rfl, h⟩
theorem i_enumT (h : qi (enumD rs) (fun _ => True) O) : enumK qi (.tup rs) O := h
theorem SeqD.ty (hs : SeqD O d rs) : ∃ a, tyN O d = some a ∧ ["list", "tuple"].any (kitT a) = true := by
  rcases hs with rfl | rfl | ⟨p, rfl, hp⟩
  · exact ⟨"list", rfl, by decide⟩
  · exact ⟨"tuple", rfl, by decide⟩
  · exact ⟨"list", by simp [tyN, hp], by decide⟩
end
end DL
set_option Elab.async false
set_option linter.all false
set_option maxRecDepth 100000
set_option maxHeartbeats 4000000
namespace DL
open PySem PySem.Spec PyProof.Rows L2
section
variable {X : Cx} {B : Bd} {pos p p2 apos : Pos} {k i j : Nat} {wx : DW} {a b e o : Expr} {es : List Expr} {ta tb te to : DTE} {tA tB : DTA} {env : Env} {O : Ow} {q : DQ}
def splK (a : Str) (q : DQ) : DQ := fun y O2 => match y with
  | .str b => (b.length == 0) = false ∧ a.length + 2 ≤ sizeLine ∧ q (.lst ((Txt.split a b).map D.str)) O2
  | _ => False
def dSplit (to te : DTE) : DTE := fun env O q => to env O fun x O1 => match x with
  | .str a => te env O1 (splK a q)
  | _ => False
theorem i_split (h : to env O fun x O1 => match x with | .str a => te env O1 (splK a q) | _ => False) : dSplit to te env O q := h
/-- x.m() of a text: a bool -/
def m0K (g : Str → Bool) (q : DQ) : DQ := fun x O1 => match x with
  | .str a => q (.bl (g a)) O1
  | _ => False
def dM0 (g : Str → Bool) (to : DTE) : DTE := fun env O q => to env O (m0K g q)
theorem i_m0 {g : Str → Bool} (h : to env O (m0K g q)) : dM0 g to env O q := h
theorem i_m0K {g : Str → Bool} {a : Str} (h : q (.bl (g a)) O) : m0K g q (.str a) O := h
def dInt2 : List D → Ow → DQ → Prop := fun ds O q => match ds with
  | [.str a] => ∃ n, PySem.intText? a = some n ∧ a.length ≤ 640 ∧ q (.int n) O
  | ds => dInt1 ds O q
theorem i_int2I {i : Int} (h : q (.int i) O) : dInt2 [.int i] O q := h
theorem i_int2B {b : Bool} (h : q (.int (if b then 1 else 0)) O) : dInt2 [.bl b] O q := h
def dStarA (te : DTE) (tA : DTA) : DTA := fun env O q => te env O fun x O1 => ∃ xs, asS O1 x = some xs ∧ tA env O1 fun ys O2 => q (xs ++ ys) O2
theorem da_star (S : Site X B k wx) (he : PE X e (lift B te)) (hr : PA X es (liftA B tA)) (hs : starEach (.Starred e p :: es) X.env = (true, eval e X.env) :: starEach es X.env := by rfl) : PA X (.Starred e p :: es) (liftA B (dStarA te tA)) :=
  PA.weak (StX.pa_star he hr hs) fun σ H Q h => by
    obtain ⟨env, O, F, q, R, h, kk⟩ := h
    refine ⟨env, O, F, _, R, h, fun x v O1 H1 F1 a1 r1 h1 => ?_⟩
    obtain ⟨xs, e1, h1⟩ := h1
    obtain ⟨pp, vs, rfl, hsq, hr⟩ := asS_sq a1.fh a1.ow r1 e1
    refine ⟨pp, vs, rfl, by rw [S.hK]; exact hsq.symm, env, O1, F1, _, R.call a1, h1, fun ys us O2 H2 F2 a2 r2 h2 => ?_⟩
    exact kk _ _ O2 H2 F2 (a1.trans a2) ((hr.mono a2.ff).append r2) h2
theorem i_starA {qa : List D → Ow → Prop} (h : te env O fun x O1 => ∃ xs, asS O1 x = some xs ∧ tA env O1 fun ys O2 => qa (xs ++ ys) O2) : dStarA te tA env O qa := h
end
end DL
set_option Elab.async false
set_option linter.all false
set_option maxRecDepth 100000
set_option maxHeartbeats 4000000
namespace DL
open PySem PySem.Spec PyProof.Rows L2
section
variable {X : Cx} {B : Bd} {pos p p2 apos : Pos} {k i j : Nat} {wx : DW}
variable {e o : Expr} {es : List Expr} {tA tB : DTA}
variable {C g pa : Addr} {mc : Value} {m x qn : Str} {st : Stmt} {kws : List (Str × V)} {ps : List Str} {n : Nat} {fn : DF} {pl : Sem Bool}
def dCm (C : Addr) (fn : DF) (n : Nat) (w : DW) (tA : DTA) : DTE := fun env O q => tA env O fun ds O1 => ds.length + 1 = n ∧ fn (.ref C :: ds) O1 q fun c fs O' => w c fs env O'
def dCmK (C : Addr) (fn : DF) (n l : Nat) (w : DW) (ix : List Nat) (tB : DTA) : DTE := fun env O q => tB env O fun es O1 => es.length = l ∧ (pick ix (.ref C :: es)).length = n ∧ fn (pick ix (.ref C :: es)) O1 q fun c fs O' => w c fs env O'
theorem i_cm {env : Env} {O : Ow} {q : DQ} {w : DW} (h : tA env O fun ds O1 => ds.length + 1 = n ∧ fn (.ref C :: ds) O1 q fun c fs O' => w c fs env O') : dCm C fn n w tA env O q := h
theorem i_cmK {env : Env} {O : Ow} {q : DQ} {w : DW} {l : Nat} {ix : List Nat} (h : tB env O fun es O1 => es.length = l ∧ (pick ix (.ref C :: es)).length = n ∧ fn (pick ix (.ref C :: es)) O1 q fun c fs O' => w c fs env O') : dCmK C fn n l w ix tB env O q := h
variable {f : Addr}
def dMakeL (i : Nat) (C : Addr) (fn : DF) (n : Nat) (w : DW) (tA : DTA) : DTE := fun env O q => env[i]? = some (some (.ref C)) ∧ dMake C fn n w [] tA env O q
theorem i_makeL {env : Env} {O : Ow} {q : DQ} {w : DW} (h0 : env[i]? = some (some (.ref C))) (h : tA env O fun ds O1 => (ds ++ []).length + 1 = n ∧ ∀ x dx, O1 x = none → O1 dx = none → dx ≠ x →
  fn (.ref x :: (ds ++ [])) (setO O1 x (.ins C dx [])) (fun d O2 => d = .non ∧ q (.ref x) O2) fun c fs O' => w c fs env O') : dMakeL i C fn n w tA env O q := ⟨h0, h⟩
end
section
variable {O : Ow} {q : DQ}
theorem i_neS {i j : Str} (hi : strGood i = true) (hj : strGood j = true) (h : q (.bl (!decide (i = j))) O) : dNe (.str i) (.str j) O q := i_neG (good_str hi) (good_str hj) (by rw [eqv_str]; exact h)
end
end DL
set_option Elab.async false
set_option linter.all false
set_option maxRecDepth 100000
set_option maxHeartbeats 4000000
namespace DL
open PySem PySem.Spec PyProof.Rows L2
end DL
namespace DL
open PySem PySem.Spec PyProof.Rows L2
end DL
namespace DL
open PySem PySem.Spec PyProof.Rows L2
end DL
set_option Elab.async false
set_option linter.all false
set_option maxRecDepth 100000
set_option maxHeartbeats 4000000
namespace PySem.W
open PySem PySem.Spec PySem.Calls PyProof.Rows
end PySem.W
namespace DL
open PySem PySem.Spec PyProof.Rows L2
section
variable {X : Cx} {B : Bd} {pos p np : Pos} {f : Str}
/-- isinstance(e, T) of the caught exception, T a builtin class -/
def dXi (a : Addr) (cls : Value) (C : Addr) (b : Bool) (te : DTE) : DTE := fun env O q => te env O fun x O1 => x = .ref a ∧ cls = .ref C ∧ q (.bl b) O1
theorem i_xi {a C : Addr} {cls : Value} {b : Bool} {te : DTE} {env : Env} {O : Ow} {q : DQ} (h : te env O fun x O1 => x = .ref a ∧ cls = .ref C ∧ q (.bl b) O1) : dXi a cls C b te env O q := h
end
end DL
namespace DL
open PySem PySem.Spec PyProof.Rows L2
/-- at sysModules stands no list -/
def SmOk (K : Frag) : Prop := ∃ o, K.lookup sysModules = some o ∧ o.cls ≠ .type "list"
def smB : Fac := fun K => match K.lookup sysModules with
  | some ⟨.type n, _, _, _⟩ => decide (n = "dict")
  | _ => false
mutual
inductive DpE (K : Frag) (H : Hp) : V → PyData → Prop
  | non : DpE K H .non .none
  | bl (b : Bool) : DpE K H (.bl b) (.bool b)
  | int (i : Int) : DpE K H (.int i) (.int i)
  | str (x : Str) : DpE K H (.str x) (.str x)
  | lst {a : Addr} {xs : List V} {ds : List PyData} : SqL K H a xs → DpEs K H xs ds → DpE K H (.ref a) (.list ds)
  | tup {a : Addr} {xs : List V} {ds : List PyData} : SqT K H a xs → DpEs K H xs ds → DpE K H (.ref a) (.tuple ds)
  | emp {a : Addr} : H a = some (.dK []) → DpE K H (.ref a) (.dict [])
inductive DpEs (K : Frag) (H : Hp) : List V → List PyData → Prop
  | nil : DpEs K H [] []
  | cons {v : V} {vs : List V} {d : PyData} {ds : List PyData} : DpE K H v d → DpEs K H vs ds → DpEs K H (v :: vs) (d :: ds)
end
section
variable {X : Cx} {pins : List (Addr × Obj)} {σ : St} {H : Hp} {s : Shared}
mutual
theorem DpE.reads (I : Inv X pins σ H s) (hS : SmOk X.K) : ∀ (d : PyData) (v : V) (u : Value), DpE X.K H v d → RelV v u → ∃ as, Reads s.heap u d as ∧ sysModules ∉ as
  | .none, _, _, h, r => by
    cases h
    cases r
    exact ⟨_, Reads.none, by simp⟩
  | .bool b, _, _, h, r => by
    cases h
    cases r
    exact ⟨_, Reads.bool b, by simp⟩
  | .int i, _, _, h, r => by
    cases h
    obtain ⟨t, rfl⟩ := r
    exact ⟨_, Reads.int i t, by simp⟩
  | .str x, _, _, h, r => by
    cases h
    obtain ⟨t, rfl⟩ := r
    exact ⟨_, Reads.str x t, by simp⟩
  | .list ds, _, _, h, r => by
    cases h with
    | @lst a xs _ hs ha =>
      cases r
      obtain ⟨its, rv, ⟨o, n, ho, hc, _, hd⟩, _⟩ := I.list hs
      obtain ⟨as, hr, hm⟩ := DpE.readsAll I hS ds _ its ha rv
      refine ⟨_, Reads.list ho hc hd hr, fun z => ?_⟩
      rcases List.mem_cons.mp z with z | z
      · obtain ⟨o', e1, e2⟩ := hS
        have e3 := I.kIn _ _ e1
        rw [z, ho] at e3
        cases e3
        exact e2 hc
      · exact hm z
  | .tuple ds, _, _, h, r => by
    cases h with
    | tup hs ha =>
      cases r
      obtain ⟨its, rv, ⟨o, ho, hc, n, hd⟩, _⟩ := I.tuple hs
      obtain ⟨as, hr, hm⟩ := DpE.readsAll I hS ds _ its ha rv
      exact ⟨_, Reads.tuple ho hc hd hr, hm⟩
  | .dict _, _, _, h, r => by
    cases h with
    | @emp a e =>
      cases r
      obtain ⟨_, hsm, vs, kv, o, es, ep, ho, hx, hd, _, pr, _⟩ := dk_of I.hok e
      have ev : vs = [] := by cases kv; rfl
      subst ev
      have ee : es.toList = [] := by
        have := pr.length
        exact List.length_eq_zero_iff.mp this
      refine ⟨_, Reads.dict (kvs := []) ho hx.1 hd (as := []) (bs := []) (by rw [ee]; exact .nil) (by rw [ee]; exact .nil), fun z => ?_⟩
      simp only [List.append_nil, List.mem_singleton] at z
      rw [← z] at hsm
      simp at hsm
theorem DpE.readsAll (I : Inv X pins σ H s) (hS : SmOk X.K) : ∀ (ds : List PyData) (vs : List V) (us : List Value), DpEs X.K H vs ds → Vals vs us → ∃ as, ReadsAll s.heap us ds as ∧ sysModules ∉ as
  | [], _, _, h, r => by
    cases h
    cases r
    exact ⟨_, ReadsAll.nil, by simp⟩
  | d :: ds, _, _, h, r => by
    cases h with
    | cons h1 h2 =>
      cases r with
      | cons r1 r2 =>
        obtain ⟨as, q1, m1⟩ := DpE.reads I hS d _ _ h1 r1
        obtain ⟨bs, q2, m2⟩ := DpE.readsAll I hS ds _ _ h2 r2
        exact ⟨_, ReadsAll.cons q1 q2, fun z => (List.mem_append.mp z).elim m1 m2⟩
end
end
section
variable {X : Cx} {B : Bd} {pos p : Pos} {k : Nat} {wx : DW} {e : Expr} {tA : DTA}
mutual
def asE (O : Ow) : D → Option PyData
  | .non => some .none
  | .bl b => some (.bool b)
  | .int i => some (.int i)
  | .str s => some (.str s)
  | .lst ds => (asEs O ds).map .list
  | .tup ds => (asEs O ds).map .tuple
  | .ref p => match O p with
    | some (.lst ds) => if pds ds = true then some (.list (pys ds)) else none
    | some (.dK []) => some (.dict [])
    | _ => none
  | .ty _ => none
  | .ins _ _ _ => none
def asEs (O : Ow) : List D → Option (List PyData)
  | [] => some []
  | d :: ds => match asE O d, asEs O ds with
    | some a, some b => some (a :: b)
    | _, _ => none
end
mutual
theorem asE_pd {O : Ow} : ∀ {d : D}, pd d = true → asE O d = some (py d)
  | .non, _ => by simp [asE, py]
  | .bl b, _ => by simp [asE, py]
  | .int i, _ => by simp [asE, py]
  | .str s, _ => by simp [asE, py]
  | .lst ds, h => by
    have h : pds ds = true := by simpa [pd] using h
    simp [asE, py, asEs_pd h]
  | .tup ds, h => by
    have h : pds ds = true := by simpa [pd] using h
    simp [asE, py, asEs_pd h]
  | .ref _, h => by simp [pd] at h
  | .ty _, h => by simp [pd] at h
  | .ins _ _ _, h => by simp [pd] at h
theorem asEs_pd {O : Ow} : ∀ {ds : List D}, pds ds = true → asEs O ds = some (pys ds)
  | [], _ => by simp [asEs, pys]
  | d :: ds, h => by
    simp only [pds, Bool.and_eq_true] at h
    simp [asEs, pys, asE_pd h.1, asEs_pd h.2]
end
end
end DL
set_option Elab.async false
set_option linter.all false
set_option maxRecDepth 100000
set_option maxHeartbeats 4000000
namespace L2
open PySem PySem.Spec PyProof.Rows
end L2
namespace DL
open PySem PySem.Spec PyProof.Rows L2
structure DHd where
  c : Value
  i : Option Nat
  ts : Addr → Value → List (Str × D) → DTS
def dEndsM (i : Option Nat) (E : DEnds) : DEnds := match i with
  | none => E
  | some i => { nx := fun e o => E.nx (e.set i none) o, rt := E.rt, bk := fun e o => E.bk (e.set i none) o, ct := fun e o => E.ct (e.set i none) o }
def dSlotM (i : Option Nat) (a : Addr) (env : Env) : Env := match i with
  | none => env
  | some i => env.set i (some (.ref a))
def dwM (K : Frag) (wx : DW) (E : DEnds) : List DHd → DW
  | [] => wx
  | z :: r => fun cls fs env' O' => ∃ b, PySem.W.exmOne K cls z.c = some b ∧ (b = true → ∀ a, O' a = none → z.ts a cls fs (dEndsM z.i E) (dSlotM z.i a env') O') ∧ (b = false → dwM K wx E r cls fs env' O')
def dTryM (K : Frag) (tb : DW → DTS) (l : List DHd) (wx : DW) : DTS := fun E env O => tb (dwM K wx E l) E env O
section
variable {X : Cx} {B : Bd} {k : Nat} {wx : DW} {body : List Stmt} {h₀ : ExceptHandler} {hds : List ExceptHandler} {l : List DHd} {pos : Pos} {tb : DW → DTS}
theorem i_tryM {K : Frag} {E : DEnds} {env : Env} {O : Ow} (h : tb (dwM K wx E l) E env O) : dTryM K tb l wx E env O := h
end
end DL
namespace DL
open PySem PySem.Spec PyProof.Rows L2
end DL
set_option Elab.async false
set_option linter.all false
set_option maxRecDepth 100000
set_option maxHeartbeats 4000000
namespace DL
open PySem PySem.Spec PyProof.Rows L2
mutual
theorem asE_mono {O O' : Ow} (s : SubO O O') : ∀ {d : D} {a : PyData}, asE O d = some a → asE O' d = some a
  | .non, _, h => by simpa [asE] using h
  | .bl _, _, h => by simpa [asE] using h
  | .int _, _, h => by simpa [asE] using h
  | .str _, _, h => by simpa [asE] using h
  | .lst ds, _, h => by
    simp only [asE] at h ⊢
    obtain ⟨as, e, rfl⟩ := Option.map_eq_some_iff.mp h
    rw [asEs_mono s e]; rfl
  | .tup ds, _, h => by
    simp only [asE] at h ⊢
    obtain ⟨as, e, rfl⟩ := Option.map_eq_some_iff.mp h
    rw [asEs_mono s e]; rfl
  | .ref p, _, h => by
    simp only [asE] at h ⊢
    cases e : O p with
    | none => rw [e] at h; cases h
    | some o => rw [e] at h; rw [s p o e]; exact h
  | .ty _, _, h => by simp [asE] at h
  | .ins _ _ _, _, h => by simp [asE] at h
theorem asEs_mono {O O' : Ow} (s : SubO O O') : ∀ {ds : List D} {as : List PyData}, asEs O ds = some as → asEs O' ds = some as
  | [], _, h => by simpa [asEs] using h
  | d :: ds, as, h => by
    simp only [asEs] at h ⊢
    cases e1 : asE O d with
    | none => rw [e1] at h; cases h
    | some a =>
      cases e2 : asEs O ds with
      | none => rw [e1, e2] at h; cases h
      | some b =>
        rw [e1, e2] at h
        rw [asE_mono s e1, asEs_mono s e2]
        exact h
end
end DL
set_option Elab.async false
set_option linter.all false
set_option maxRecDepth 100000
set_option maxHeartbeats 4000000
namespace DL
open PySem PySem.Spec PyProof.Rows L2
open TL (tl tl_append tl_join joinL tl_mk)
/-- what can be shown with few and common signs -/
structure ShP (a : PyData) (m k : Nat) : Prop where
  sh : a.showable = true
  dp : a.depth ≤ k
  ln : (tl a.shown).length ≤ m
  sg : ∀ x ∈ tl a.shown, x < 128
def shP (a : PyData) (m k : Nat) : Bool := a.showable && decide (a.depth ≤ k) && decide ((tl a.shown).length ≤ m) && (tl a.shown).all fun x => decide (x < 128)
theorem shP_ok {a : PyData} {m k : Nat} (h : shP a m k = true) : ShP a m k := by
  simp only [shP, Bool.and_eq_true, decide_eq_true_eq, List.all_eq_true] at h
  exact ⟨h.1.1.1, h.1.1.2, h.1.2, h.2⟩
theorem ShP.mono {a : PyData} {m k m' k' : Nat} (h : ShP a m k) (hm : m ≤ m') (hk : k ≤ k') : ShP a m' k' := ⟨h.sh, Nat.le_trans h.dp hk, Nat.le_trans h.ln hm, h.sg⟩
theorem depthAll_le {k : Nat} : ∀ {as : List PyData}, (∀ a ∈ as, a.depth ≤ k) → PyData.depthAll as ≤ k
  | [], _ => by simp [PyData.depthAll]
  | a :: as, h => by
    simp only [PyData.depthAll]
    have h1 := h a List.mem_cons_self
    have h2 := depthAll_le (as := as) fun b hb => h b (List.mem_cons_of_mem _ hb)
    omega
theorem shownAll_map : ∀ as : List PyData, PyData.shownAll as = as.map PyData.shown
  | [] => by simp only [PyData.shownAll, List.map_nil]
  | a :: as => by simp only [PyData.shownAll, List.map_cons, shownAll_map as]
section
variable {as : List PyData} {m k : Nat}
theorem seq_ln (h : ∀ a ∈ as, ShP a m k) : (joinL [44, 32] (as.map fun a => tl a.shown)).length ≤ as.length * (m + 2) := by
  have := joinL_len (S := [44, 32]) (ps := as.map fun a => tl a.shown) (m := m) fun p hp => by
    obtain ⟨a, ha, rfl⟩ := List.mem_map.mp hp
    exact (h a ha).ln
  rw [List.length_map] at this
  exact this
theorem seq_sg (h : ∀ a ∈ as, ShP a m k) : ∀ x ∈ joinL [44, 32] (as.map fun a => tl a.shown), x < 128 := fun x hx => by
  rcases joinL_mem hx with h2 | ⟨p, hp, h2⟩
  · simp only [List.mem_cons, List.mem_nil_iff, or_false] at h2
    rcases h2 with rfl | rfl <;> decide
  · obtain ⟨a, ha, rfl⟩ := List.mem_map.mp hp
    exact (h a ha).sg x h2
theorem tl_shownAll : (PyData.shownAll as).map tl = as.map fun a => tl a.shown := by rw [shownAll_map, List.map_map]; rfl
theorem ShP.list (h : ∀ a ∈ as, ShP a m k) : ShP (.list as) (as.length * (m + 2) + 2) (k + 1) := by
  have e : tl (PyData.list as).shown = 91 :: (joinL [44, 32] (as.map fun a => tl a.shown) ++ [93]) := by
    rw [PyData.shown_list, tl_append, tl_append, tl_join, tl_shownAll]
    rfl
  refine ⟨by rw [PyData.showable]; exact showableAll_of fun a ha => (h a ha).sh, by simp only [PyData.depth]; have := depthAll_le fun a ha => (h a ha).dp; omega, ?_, fun x hx => ?_⟩
  · rw [e]
    have := seq_ln h
    simp only [List.length_cons, List.length_append, List.length_nil]
    omega
  · rw [e] at hx
    simp only [List.mem_cons, List.mem_append, List.mem_nil_iff, or_false] at hx
    rcases hx with rfl | hx | rfl
    · decide
    · exact seq_sg h x hx
    · decide
theorem ShP.tuple (h : ∀ a ∈ as, ShP a m k) : ShP (.tuple as) (as.length * (m + 2) + 3) (k + 1) := by
  have e : tl (PyData.tuple as).shown = 40 :: (joinL [44, 32] (as.map fun a => tl a.shown) ++ if as.length == 1 then [44, 41] else [41]) := by
    rw [PyData.shown_tuple, tl_append, tl_append, tl_join, tl_shownAll]
    cases as.length == 1 <;> rfl
  refine ⟨by rw [PyData.showable]; exact showableAll_of fun a ha => (h a ha).sh, by simp only [PyData.depth]; have := depthAll_le fun a ha => (h a ha).dp; omega, ?_, fun x hx => ?_⟩
  · rw [e]
    have := seq_ln h
    simp only [List.length_cons, List.length_append]
    have h2 : (if (as.length == 1) = true then ([44, 41] : List Nat) else [41]).length ≤ 2 := by split <;> simp
    omega
  · rw [e] at hx
    simp only [List.mem_cons, List.mem_append] at hx
    rcases hx with rfl | hx | hx
    · decide
    · exact seq_sg h x hx
    · split at hx <;> simp only [List.mem_cons, List.mem_nil_iff, or_false] at hx
      · rcases hx with rfl | rfl <;> decide
      · subst hx; decide
end
/-- data of any kind that can be shown -/
def OkE (O : Ow) (d : D) (m k : Nat) : Prop := ∃ a, asE O d = some a ∧ ShP a m k
theorem OkE.sub {O O' : Ow} {d : D} {m k : Nat} (h : OkE O d m k) (s : SubO O O') : OkE O' d m k := let ⟨a, e, r⟩ := h; ⟨a, asE_mono s e, r⟩
theorem OkE.mono {O : Ow} {d : D} {m k m' k' : Nat} (h : OkE O d m k) (hm : m ≤ m') (hk : k ≤ k') : OkE O d m' k' := let ⟨a, e, r⟩ := h; ⟨a, e, r.mono hm hk⟩
theorem OkE.ofPd {O : Ow} {d : D} {m k : Nat} (hd : pd d = true) (h : shP (py d) m k = true) : OkE O d m k := ⟨_, asE_pd hd, shP_ok h⟩
theorem OkE.all {O : Ow} {m k : Nat} : ∀ {ds : List D}, (∀ d ∈ ds, OkE O d m k) → ∃ as, asEs O ds = some as ∧ as.length = ds.length ∧ ∀ a ∈ as, ShP a m k
  | [], _ => ⟨[], by simp [asEs], rfl, by simp⟩
  | d :: ds, h => by
    obtain ⟨a, e1, r1⟩ := h d List.mem_cons_self
    obtain ⟨as, e2, l2, r2⟩ := OkE.all (ds := ds) fun x hx => h x (List.mem_cons_of_mem _ hx)
    refine ⟨a :: as, by simp [asEs, e1, e2], by simp [l2], fun x hx => ?_⟩
    rcases List.mem_cons.mp hx with rfl | hx
    · exact r1
    · exact r2 x hx
theorem OkE.lst {O : Ow} {ds : List D} {m k : Nat} (h : ∀ d ∈ ds, OkE O d m k) : OkE O (.lst ds) (ds.length * (m + 2) + 2) (k + 1) := by
  obtain ⟨as, e, l, r⟩ := OkE.all h
  exact ⟨.list as, by simp [asE, e], by rw [← l]; exact ShP.list r⟩
theorem OkE.tup {O : Ow} {ds : List D} {m k : Nat} (h : ∀ d ∈ ds, OkE O d m k) : OkE O (.tup ds) (ds.length * (m + 2) + 3) (k + 1) := by
  obtain ⟨as, e, l, r⟩ := OkE.all h
  exact ⟨.tuple as, by simp [asE, e], by rw [← l]; exact ShP.tuple r⟩
end DL
namespace DL
open PySem PySem.Spec PyProof.Rows L2
end DL
set_option Elab.async false
set_option linter.all false
set_option maxRecDepth 100000
set_option maxHeartbeats 4000000
namespace DL
open PySem PySem.Spec PyProof.Rows L2
section
variable {X : Cx} {B : Bd} {pos p apos : Pos} {k j n : Nat} {wx : DW} {o e : Expr} {es : List Expr} {x qn m : Str} {st : Stmt} {kws : List (Str × V)} {ps : List Str} {fn : DF} {f C : Addr} {ta : DTE} {tA tB : DTA} {pl : Sem Bool}
theorem lookup_none {K : Frag} {F : Hp} {f : Str} : ∀ {fs : List (Str × D)} {gs : List (Str × V)}, RKV K F fs gs → fs.lookup f = none → gs.lookup f = none
  | _, _, .nil, _ => rfl
  | _, _, .cons (a := a) (b := b) h t, e => by
    obtain ⟨a1, a2⟩ := a
    obtain ⟨b1, b2⟩ := b
    obtain ⟨h1, _⟩ := h
    simp only at h1
    subst h1
    rw [List.lookup_cons] at e ⊢
    split at e
    · cases e
    · exact lookup_none t e
def methK (C : Addr) (m : Str) (fn : DF) (n : Nat) (w : DW) (tA : DTA) (env : Env) (q : DQ) : DQ := fun d O1 => ∃ fs, InsAt C O1 d fs ∧ fs.lookup m = none ∧ tA env O1 fun ds O2 => ds.length + 1 = n ∧ fn (d :: ds) O2 q fun c fs O' => w c fs env O'
def dMeth (C : Addr) (m : Str) (fn : DF) (n : Nat) (w : DW) (ta : DTE) (tA : DTA) : DTE := fun env O q => ta env O (methK C m fn n w tA env q)
theorem so_meth (S : Site X B k wx) (c : Cls X.K C) (hm : Meth X.K C m f) (Cl : Fn X.prog X.w X.K X.mg X.base x qn st [] kws ps n j fn f) (hj : j ≤ k) (hb : Bd0 x qn st ps) (he : PE X o (lift B ta)) (ha : PA X (e :: es) (liftA B tA))
    (hst : starEach (e :: es) X.env = (false, eval e X.env) :: starEach es X.env := by rfl) (hpl : (backTo pos (starEach es X.env)).any (·.1) = false := by rfl)
    (ht : eval (.Call (.Attribute o m apos) (e :: es) [] pos) X.env = (do
      let ov ← eval o X.env
      standAt apos.atName
      let (f, first) ← holding [ov] (getMethod ov m pl)
      callWith pos f first (backTo pos (starEach (e :: es) X.env)) (backToKw pos (keywordEach [] X.env))) := by rfl) :
    PE X (.Call (.Attribute o m apos) (e :: es) [] pos) (lift B (dMeth C m fn n wx ta tA)) := by
  obtain ⟨fd, G, F⟩ := Cl.ex
  refine ⟨fun pins s σ H Q I h => ?_⟩
  obtain ⟨env, O, F0, q, R, h, kk⟩ := h
  refine PySem.W.methodCall_KW (pl := pl) (thn (he.run pins s σ H (fun v H1 => ∃ a dx gs, v = .ref a ∧ H1 a = some (.ins C dx gs) ∧ gs.lookup m = none ∧ liftA B tA σ H1 (fun vs H2 => spD B.K n fn (.ref a :: vs) H2 Q (fun c d H' => liftX B wx c d σ H'))) I ⟨env, O, F0, _, R, h, ?_⟩) fun u s1 ⟨x, H1, I1, rx, a, dx, gs, ex, ea, l, q1⟩ => ?_) ht
  · intro d v O1 H1 F1 a1 r1 ⟨fs, h1, h2, h3⟩
    obtain ⟨a, dx, gs, rfl, e3, rk⟩ := h1.ok a1.fh a1.ow r1
    refine ⟨a, dx, gs, rfl, e3, lookup_none rk h2, env, O1, F1, _, R.call a1, h3, fun ds vs O2 H2 F2 a2 r2 h4 => ?_⟩
    exact sp_of ((R.call a1).call a2) (.cons (r1.mono a2.ff) r2) h4.1 h4.2 fun d v O' H' F' a' r' hq => kk d v O' H' F' (a1.trans (a2.trans a')) r' hq
  subst ex
  obtain rfl : u = Value.ref a := rx
  refine getmeth_ok I1 ea c hm l ?_
  refine PySem.W.callWith_K (first := [.ref a]) (h₀ := X.base) I.ok.mod.kin hm.kp (thn (ha.run pos pins s1 σ H1 _ I1 q1) fun us s2 ⟨vs, H2, I2, r, q2⟩ => ⟨I2.kIn, ?_⟩) hst hpl
  exact run_G (us := .ref a :: us) (vs := .ref a :: vs) (dvs := []) (ds := []) G S.gd (S.rm.mono hj) (FunD.b0 F hb) .nil S.tk I2 (.cons rfl r) (by rw [List.append_nil]; exact S.hK ▸ q2)
theorem i_meth {w : DW} {env : Env} {O : Ow} {q : DQ} (h : ta env O (methK C m fn n w tA env q)) : dMeth C m fn n w ta tA env O q := h
theorem i_methO {w : DW} {env : Env} {O : Ow} {q : DQ} {p dx : Addr} {fs : List (Str × D)} (h1 : O p = some (.ins C dx fs)) (h2 : fs.lookup m = none) (h : tA env O fun ds O2 => ds.length + 1 = n ∧ fn (.ref p :: ds) O2 q fun c fs O' => w c fs env O') : methK C m fn n w tA env q (.ref p) O := ⟨fs, ⟨dx, h1⟩, h2, h⟩
theorem i_methI {w : DW} {env : Env} {O : Ow} {q : DQ} {ns : List Str} {zs : List D} (h2 : (ns.zip zs).lookup m = none) (h : tA env O fun ds O2 => ds.length + 1 = n ∧ fn (.ins C ns zs :: ds) O2 q fun c fs O' => w c fs env O') : methK C m fn n w tA env q (.ins C ns zs) O := ⟨_, ⟨rfl, rfl⟩, h2, h⟩
end
def keyD : D → Option Key
  | .int i => some (.inl i)
  | .str x => some (.inr x)
  | _ => none
def valD {κ : Type} [DecidableEq κ] (kvs : List (κ × D)) (k : κ) : Option D := (kvs.find? fun kv => decide (kv.1 = k)).map (·.2)
def putKD {κ : Type} [DecidableEq κ] (kvs : List (κ × D)) (k : κ) (v : D) : List (κ × D) := if kvs.any (fun kv => decide (kv.1 = k)) then kvs.map fun kv => if kv.1 = k then (kv.1, v) else kv else kvs ++ [(k, v)]
theorem keyD_v {K : Frag} {F : Hp} {d : D} {v : V} {k : Key} (r : RV K F d v) (h : keyD d = some k) : v = kV k := by
  cases d <;> simp only [keyD] at h <;> try cases h
  · cases r; rfl
  · cases r; rfl
section
variable {K : Frag} {F : Hp} {κ : Type} [DecidableEq κ]
theorem RKV.val : ∀ {kvs : List (κ × D)} {ks : List (κ × V)}, RKV K F kvs ks → ∀ (k : κ) {d : D}, valD kvs k = some d → ∃ v, valV ks k = some v ∧ RV K F d v
  | _, _, .nil, k, d, h => by simp [valD] at h
  | _, _, .cons (a := a) (b := b) h t, k, d, e => by
    by_cases hk : a.1 = k
    · rw [valV_pos (h.1 ▸ hk)]
      simp only [valD, List.find?_cons, decide_eq_true hk, Option.map_some, Option.some.injEq] at e
      subst e
      exact ⟨_, rfl, h.2⟩
    · rw [valV_neg (fun z => hk (h.1.trans z))]
      exact RKV.val t k (by simpa only [valD, List.find?_cons, decide_eq_false hk] using e)
theorem RKV.valN : ∀ {kvs : List (κ × D)} {ks : List (κ × V)}, RKV K F kvs ks → ∀ (k : κ), valD kvs k = none → valV ks k = none
  | _, _, .nil, k, _ => rfl
  | _, _, .cons (a := a) (b := b) h t, k, e => by
    by_cases hk : a.1 = k
    · simp only [valD, List.find?_cons, decide_eq_true hk] at e
      cases e
    · rw [valV_neg (fun z => hk (h.1.trans z))]
      exact RKV.valN t k (by simpa only [valD, List.find?_cons, decide_eq_false hk] using e)
theorem RKV.klen {kvs : List (κ × D)} {ks : List (κ × V)} (r : RKV K F kvs ks) : kvs.length = ks.length := Paired.length r
theorem RKV.anyk (k : κ) : ∀ {kvs : List (κ × D)} {ks : List (κ × V)}, RKV K F kvs ks → (kvs.any fun kv => decide (kv.1 = k)) = ks.any fun kv => decide (kv.1 = k)
  | _, _, .nil => rfl
  | _, _, .cons h t => by simp only [List.any_cons, h.1, RKV.anyk k t]
theorem RKV.repl (k : κ) {d : D} {v : V} (r : RV K F d v) : ∀ {kvs : List (κ × D)} {ks : List (κ × V)}, RKV K F kvs ks → RKV K F (kvs.map fun kv => if kv.1 = k then (kv.1, d) else kv) (ks.map fun kv => if kv.1 = k then (kv.1, v) else kv)
  | _, _, .nil => .nil
  | _, _, .cons (a := a) (b := b) h t => by
    refine .cons ?_ (RKV.repl k r t)
    have h1 := h.1
    by_cases hk : a.1 = k
    · simp only [if_pos hk, if_pos (h1 ▸ hk)]
      exact ⟨h1, r⟩
    · simp only [if_neg hk, if_neg (h1 ▸ hk)]
      exact h
theorem RKV.snoc {k : κ} {d : D} {v : V} (r : RV K F d v) : ∀ {kvs : List (κ × D)} {ks : List (κ × V)}, RKV K F kvs ks → RKV K F (kvs ++ [(k, d)]) (ks ++ [(k, v)])
  | _, _, .nil => .cons ⟨rfl, r⟩ .nil
  | _, _, .cons h t => .cons h (RKV.snoc r t)
theorem RKV.kput {kvs : List (κ × D)} {ks : List (κ × V)} (h : RKV K F kvs ks) (k : κ) {d : D} {v : V} (r : RV K F d v) : RKV K F (putKD kvs k d) (putK ks k v) := by
  unfold putKD putK
  rw [h.anyk k]
  split
  · exact h.repl k r
  · exact h.snoc r
end
section
variable {κ : Type} [DecidableEq κ]
theorem valD_nil (k : κ) : valD ([] : List (κ × D)) k = none := rfl
theorem valD_cons (p : κ × D) (l : List (κ × D)) (k : κ) : valD (p :: l) k = if p.1 = k then some p.2 else valD l k := by
  simp only [valD, List.find?_cons]
  by_cases h : p.1 = k
  · simp [h]
  · simp [h]
theorem valD_any (k : κ) : ∀ kvs : List (κ × D), (kvs.any fun kv => decide (kv.1 = k)) = (valD kvs k).isSome
  | [] => rfl
  | p :: l => by
    rw [List.any_cons, valD_cons, valD_any k l]
    by_cases h : p.1 = k <;> simp [h]
theorem valD_map (k j : κ) (y : D) : ∀ kvs : List (κ × D), valD (kvs.map fun kv => if kv.1 = k then (kv.1, y) else kv) j = (valD kvs j).map fun x => if j = k then y else x
  | [] => rfl
  | p :: l => by
    rw [List.map_cons, valD_cons, valD_cons, valD_map k j y l]
    by_cases h : p.1 = k
    · by_cases h2 : p.1 = j
      · subst h; subst h2; simp
      · simp [h, h2, show ¬ k = j from fun z => h2 (h.trans z)]
    · by_cases h2 : p.1 = j
      · subst h2; simp [h]
      · simp [h, h2]
theorem valD_snoc (k j : κ) (y : D) : ∀ kvs : List (κ × D), valD kvs k = none → valD (kvs ++ [(k, y)]) j = if j = k then some y else valD kvs j
  | [], _ => by
    rw [List.nil_append, valD_cons, valD_nil]
    by_cases h : k = j
    · subst h; simp
    · simp [h, show ¬ j = k from fun z => h z.symm]
  | p :: l, e => by
    rw [valD_cons] at e
    split at e
    · cases e
    · rename_i hp
      rw [List.cons_append, valD_cons, valD_cons, valD_snoc k j y l e]
      by_cases h2 : p.1 = j
      · subst h2; simp [hp]
      · simp [h2]
theorem valD_put (kvs : List (κ × D)) (k j : κ) (y : D) : valD (putKD kvs k y) j = if j = k then some y else valD kvs j := by
  unfold putKD
  rw [valD_any]
  cases e : valD kvs k with
  | none => exact valD_snoc k j y kvs e
  | some x =>
    simp only [Option.isSome_some, if_true]
    rw [valD_map]
    by_cases h : j = k
    · subst h; rw [e]; simp
    · simp [h]
theorem putKD_new {kvs : List (κ × D)} {k : κ} (v : D) (h : valD kvs k = none) : putKD kvs k v = kvs ++ [(k, v)] := by
  unfold putKD
  rw [valD_any, h]
  rfl
theorem putKD_keys {kvs : List (κ × D)} {k : κ} {v : D} (h : (valD kvs k).isSome = true) : (putKD kvs k v).map (·.1) = kvs.map (·.1) := by
  unfold putKD
  rw [valD_any, if_pos h, List.map_map]
  apply List.map_congr_left
  intro a _
  simp only [Function.comp_apply]
  split <;> rfl
end
end DL
set_option Elab.async false
set_option linter.all false
set_option maxRecDepth 100000
set_option maxHeartbeats 4000000
namespace DL
open PySem PySem.Spec PyProof.Rows L2
mutual
def keyP : PyData → Option NestedKey
  | .none => some .none
  | .bool b => some (.num (if b = true then 1 else 0))
  | .int i => some (.num i)
  | .str x => some (.text x)
  | .tuple ds => (keyPs ds).map .tup
  | _ => none
def keyPs : List PyData → Option (List NestedKey)
  | [] => some []
  | d :: ds => match keyP d, keyPs ds with
    | some k, some ks => some (k :: ks)
    | _, _ => none
end
mutual
theorem nkey_pd : ∀ {d : D} {k : NestedKey}, nkey d = some k → pd d = true ∧ keyP (py d) = some k
  | .non, k, h => by simp only [nkey] at h; cases h; exact ⟨rfl, by simp [py, keyP]⟩
  | .bl b, k, h => by simp only [nkey] at h; cases h; exact ⟨rfl, by simp [py, keyP]⟩
  | .int b, k, h => by simp only [nkey] at h; cases h; exact ⟨rfl, by simp [py, keyP]⟩
  | .str b, k, h => by simp only [nkey] at h; cases h; exact ⟨rfl, by simp [py, keyP]⟩
  | .tup ds, k, h => by
    simp only [nkey] at h
    obtain ⟨ks, e, rfl⟩ := Option.map_eq_some_iff.mp h
    obtain ⟨h1, h2⟩ := nkeys_pd e
    exact ⟨by simpa [pd] using h1, by simp [py, keyP, h2]⟩
  | .ref _, k, h => by simp [nkey] at h
  | .ty _, k, h => by simp [nkey] at h
  | .lst _, k, h => by simp [nkey] at h
  | .ins _ _ _, k, h => by simp [nkey] at h
theorem nkeys_pd : ∀ {ds : List D} {ks : List NestedKey}, nkey.nkeys ds = some ks → pds ds = true ∧ keyPs (pys ds) = some ks
  | [], ks, h => by simp only [nkey.nkeys] at h; cases h; exact ⟨rfl, by simp [pys, keyPs]⟩
  | d :: ds, ks, h => by
    simp only [nkey.nkeys] at h
    split at h
    · rename_i k ks' e1 e2
      cases h
      obtain ⟨a1, a2⟩ := nkey_pd e1
      obtain ⟨b1, b2⟩ := nkeys_pd e2
      exact ⟨by simp [pds, a1, b1], by simp [pys, keyPs, a2, b2]⟩
    · cases h
end
mutual
theorem nested_of {h : Heap} : ∀ {d : PyData} {u : Value} {as : List Addr} {k : NestedKey}, Reads h u d as → keyP d = some k → NestedIs h k u
  | .none, _, _, _, r, e => by cases r; simp only [keyP] at e; cases e; exact .none
  | .bool b, _, _, _, r, e => by cases r; simp only [keyP] at e; cases e; exact .bool rfl
  | .int i, _, _, _, r, e => by cases r; simp only [keyP] at e; cases e; exact .int _ _
  | .str x, _, _, _, r, e => by cases r; simp only [keyP] at e; cases e; exact .text _ _
  | .tuple ds, _, _, _, r, e => by
    simp only [keyP] at e
    obtain ⟨ks, e1, rfl⟩ := Option.map_eq_some_iff.mp e
    cases r with
    | tuple h1 h2 h3 h4 => exact .tup h1 h2 h3 (nesteds_of h4 e1)
  | .list _, _, _, _, _, e => by simp [keyP] at e
  | .dict _, _, _, _, _, e => by simp [keyP] at e
theorem nesteds_of {h : Heap} : ∀ {ds : List PyData} {us : List Value} {as : List Addr} {ks : List NestedKey}, ReadsAll h us ds as → keyPs ds = some ks → NestedAll h ks us
  | [], _, _, _, r, e => by cases r; simp only [keyPs] at e; cases e; exact .nil
  | d :: ds, _, _, _, r, e => by
    simp only [keyPs] at e
    split at e
    · rename_i k ks' e1 e2
      cases e
      cases r with
      | cons r1 r2 => exact .cons (nested_of r1 e1) (nesteds_of r2 e2)
    · cases e
end
/-- the value at v is the key k -/
def KeyAt (K : Frag) (H : Hp) (k : NestedKey) (v : V) : Prop := k.depth ≤ 8 ∧ ∃ d, Dp K H v d ∧ keyP d = some k
theorem KeyAt.is {X : Cx} {pins : List (Addr × Obj)} {σ : St} {H : Hp} {s : Shared} {k : NestedKey} {a : Addr} (I : Inv X pins σ H s) (h : KeyAt X.K H k (.ref a)) : (nestedKind X.prog X.w).is s.heap k a := by
  obtain ⟨h1, d, h2, h3⟩ := h
  obtain ⟨as, r⟩ := Dp.reads I d (.ref a) (.ref a) h2 rfl
  exact ⟨nested_of r h3, h1⟩
theorem keyAt_rv {K : Frag} {F H : Hp} {d : D} {v : V} {k : NestedKey} (s : Same F H) (r : RV K F d v) (h : nkey d = some k) (h8 : k.depth ≤ 8) : KeyAt K H k v := ⟨h8, py d, r.dp s (nkey_pd h).1, (nkey_pd h).2⟩
abbrev XN := NestedKey × Addr × V
abbrev YN := NestedKey × Addr × Value
def XY (x : XN) (y : YN) : Prop := x.1 = y.1 ∧ x.2.1 = y.2.1 ∧ RelV x.2.2 y.2.2
def atN (xs : List XN) (k : NestedKey) : Option (Addr × V) := (xs.find? fun x => decide (x.1 = k)).map (·.2)
def putN (xs : List XN) (k : NestedKey) (b : Addr) (v : V) : List XN := if (atN xs k).isSome then xs.map (fun x => if x.1 = k then (x.1, x.2.1, v) else x) else xs ++ [(k, b, v)]
theorem xy_at {k : NestedKey} : ∀ {xs : List XN} {ys : List YN}, Paired XY xs ys → (∀ p, atN xs k = some p → ∃ q, atKey ys k = some q ∧ RelV p.2 q.2) ∧ (atN xs k = none → atKey ys k = none)
  | _, _, .nil => ⟨fun p h => by simp [atN] at h, fun _ => rfl⟩
  | _, _, .cons (a := x) (b := y) h t => by
    obtain ⟨h1, h2, h3⟩ := h
    by_cases hk : x.1 = k
    · have hk' : y.1 = k := h1 ▸ hk
      refine ⟨fun p e => ?_, fun e => ?_⟩
      · simp only [atN, List.find?_cons, decide_eq_true hk, Option.map_some, Option.some.injEq] at e
        subst e
        exact ⟨y.2, by simp [atKey, List.find?_cons, hk'], h3⟩
      · simp [atN, List.find?_cons, hk] at e
    · have hk' : ¬ y.1 = k := h1 ▸ hk
      obtain ⟨i1, i2⟩ := xy_at (k := k) t
      refine ⟨fun p e => ?_, fun e => ?_⟩
      · obtain ⟨q, e1, e2⟩ := i1 p (by simpa [atN, List.find?_cons, hk] using e)
        exact ⟨q, by simpa [atKey, List.find?_cons, hk'] using e1, e2⟩
      · have := i2 (by simpa [atN, List.find?_cons, hk] using e)
        simpa [atKey, List.find?_cons, hk'] using this
theorem xy_repl {k : NestedKey} {v : V} {u : Value} (r : RelV v u) : ∀ {xs : List XN} {ys : List YN}, Paired XY xs ys → Paired XY (xs.map fun x => if x.1 = k then (x.1, x.2.1, v) else x) (ys.map (putAt k u))
  | _, _, .nil => .nil
  | _, _, .cons (a := x) (b := y) h t => by
    refine .cons ?_ (xy_repl r t)
    obtain ⟨h1, h2, h3⟩ := h
    by_cases hk : x.1 = k
    · simp only [if_pos hk, putAt, if_pos (h1 ▸ hk)]
      exact ⟨h1, h2, r⟩
    · simp only [if_neg hk, putAt, if_neg (h1 ▸ hk)]
      exact ⟨h1, h2, h3⟩
theorem xy_snoc {z : XN} {q : YN} (r : XY z q) : ∀ {xs : List XN} {ys : List YN}, Paired XY xs ys → Paired XY (xs ++ [z]) (ys ++ [q])
  | _, _, .nil => .cons r .nil
  | _, _, .cons h t => .cons h (xy_snoc r t)
theorem xy_put {k : NestedKey} {b : Addr} {v : V} {u : Value} (r : RelV v u) {xs : List XN} {ys : List YN} (h : Paired XY xs ys) : Paired XY (putN xs k b v) (storedH ys k b u) := by
  unfold putN storedH
  obtain ⟨i1, i2⟩ := xy_at (k := k) h
  cases e : atN xs k with
  | none =>
    rw [i2 e]
    exact xy_snoc ⟨rfl, rfl, r⟩ h
  | some p =>
    obtain ⟨q, e1, _⟩ := i1 p e
    rw [e1]
    exact xy_repl r h
theorem putN_len (xs : List XN) (k : NestedKey) (b : Addr) (v : V) : (putN xs k b v).length ≤ xs.length + 1 := by
  unfold putN
  split <;> simp
section
variable {X : Cx} {pins : List (Addr × Obj)} {σ : St} {H : Hp} {s : Shared} {a b : Addr} {xs : List XN} {k : NestedKey} {A : Around} {E : Value → Shared → Prop}
theorem n_dict (I : Inv X pins σ H s) (hx : H a = some (RawN X.w a xs)) (hk : ∀ x ∈ xs, KeyAt X.K H x.1 (.ref x.2.1)) : xs.length ≤ sizeLine ∧ (a == sysModules) = false ∧ ∃ ys, Paired XY xs ys ∧ s.heap.DictOfH (nestedKind X.prog X.w) a ys := by
  obtain ⟨⟨h1, h2, ys, h3, o, es, ep, h4, h5, h6, h7, h8⟩, _, _⟩ := I.hok a _ hx
  refine ⟨h1, h2, ys, h3, o, es, ep, h4, h5, h6, h7, fun y hy => ?_, h8⟩
  obtain ⟨j, hj⟩ := List.mem_iff_getElem?.mp hy
  have key : ∀ {xs : List XN} {ys : List YN}, Paired XY xs ys → ∀ {j : Nat} {y : YN}, ys[j]? = some y → ∃ x, xs[j]? = some x ∧ XY x y := by
    intro xs ys h
    induction h with
    | nil => intro j y e; simp at e
    | cons h t ih =>
      intro j y e
      cases j with
      | zero => simp at e; subst e; exact ⟨_, rfl, h⟩
      | succ j => simpa using ih (by simpa using e)
  obtain ⟨x, ex, e1, e2, _⟩ := key h3 hj
  have := (hk x (List.mem_of_getElem? ex)).is I
  rw [← e1, ← e2]
  exact this
theorem n_write {h' : Heap} {t' : Nat} {xs' : List XN} {ys' : List YN} (I : Inv X pins σ H s) (hx : H a = some (RawN X.w a xs)) (hs : Heap.SameBut a s.heap h') (hl : xs'.length ≤ sizeLine) (hd : (a == sysModules) = false) (rel : Paired XY xs' ys') (dd : h'.DictOfH (nestedKind X.prog X.w) a ys') :
    Inv X pins σ (upd H a (RawN X.w a xs')) { s with heap := h', toks := t' } := by
  obtain ⟨o, es, ep, h4, h5, h6, h7, h8, h9⟩ := dd
  refine d_write I (by rw [hx]; exact True.intro) hs ⟨o, h4⟩ ?_
  refine ⟨⟨hl, hd, ys', rel, o, es, ep, h4, h5, h6, h7, h9⟩, ⟨o, h4⟩, fun h1 h2 ⟨a1, a2, y, a3, o, es, ep, a4, a5⟩ hh => ⟨a1, a2, y, a3, o, es, ep, hh o a4, a5⟩⟩
theorem n_new (h : Heap) (hb : sysModules < h.objs.size) (w : World) (P : Program) : ObjOk P w H (h.push { cls := .type "dict", data := .dict #[] }) h.objs.size (RawN w h.objs.size []) := by
  have e := Heap.get?_push_size h (o := { cls := .type "dict", data := .dict #[] }) rfl
  refine ⟨⟨Nat.zero_le _, beq_eq_false_iff_ne.mpr (Ne.symm (Nat.ne_of_lt hb)), [], .nil, _, #[], _, e, ⟨rfl, rfl, rfl⟩, rfl, rfl, List.nodup_nil⟩, ⟨_, e⟩, fun h1 h2 ⟨a1, a2, y, a3, o, es, ep, a4, a5⟩ hh => ⟨a1, a2, y, a3, o, es, ep, hh o a4, a5⟩⟩
end
def NGet (K : Frag) (w : World) (H : Hp) (a : Addr) (y : V) (r : Option V) : Prop := ∃ xs k b, H a = some (RawN w a xs) ∧ y = .ref b ∧ KeyAt K H k y ∧ (∀ x ∈ xs, KeyAt K H x.1 (.ref x.2.1)) ∧ r = (atN xs k).map (·.2)
def GGet (K : Frag) (w : World) (H : Hp) (a : Addr) (y : V) (r : Option V) : Prop := DGet H a y r ∨ NGet K w H a y r
def NPut (K : Frag) (w : World) (H : Hp) (a : Addr) (y v : V) (H' : Hp) : Prop := ∃ xs k b, H a = some (RawN w a xs) ∧ y = .ref b ∧ KeyAt K H k y ∧ (∀ x ∈ xs, KeyAt K H x.1 (.ref x.2.1)) ∧ xs.length < sizeLine ∧ H' = upd H a (RawN w a (putN xs k b v))
def GPut (K : Frag) (w : World) (H : Hp) (a : Addr) (y v : V) (H' : Hp) : Prop := DPut H a y v H' ∨ NPut K w H a y v H'
section
variable {X : Cx} {pins : List (Addr × Obj)} {σ : St} {H : Hp} {s : Shared} {a : Addr} {y v d : V} {u r : Value} {o : Option V} {A : Around} {E : Value → Shared → Prop}
theorem nroom (hu : A.units + 10 < cLine) : (nestedKind X.prog X.w).room A.in1 := by
  show A.units + 1 + 8 < cLine
  omega
theorem g_in {Q : Value → Shared → Prop} (hu : A.units + 10 < cLine) (I : Inv X pins σ H s) (g : GGet X.K X.w H a y o) (ry : RelV y u) (h : ∀ s', Inv X pins σ H s' → Q (.bool o.isSome) s') :
    wpAny (model X.prog X.w) A (compareOp .In u (.ref a)) Q E s := by
  rcases g with g | ⟨xs, k, b, hx, ey, hk, hks, l⟩
  · exact d_in (by omega) I g ry h
  · subst ey
    cases (show u = Value.ref b from ry)
    obtain ⟨_, hd, ys, rel, dd⟩ := n_dict I hx hks
    refine wpAny_in_heap (nroom hu) (hk.is I) hd dd ?_
    have e : (atKey ys k).isSome = o.isSome := by
      subst l
      cases e : atN xs k with
      | none => rw [(xy_at rel).2 e]; rfl
      | some p => obtain ⟨q, e1, _⟩ := (xy_at rel).1 p e; rw [e1]; rfl
    rw [e]
    exact h _ (I.tok _)
theorem g_setItem {H' : Hp} {Q : Unit → Shared → Prop} (hu : A.units + 10 < cLine) (I : Inv X pins σ H s) (g : GPut X.K X.w H a y v H') (ry : RelV y u) (rv : RelV v r) (h : ∀ s', Inv X pins σ H' s' → Q () s') :
    wpAny (model X.prog X.w) A (setItem (.ref a) u r) Q E s := by
  rcases g with g | ⟨xs, k, b, hx, ey, hk, hks, l, eH⟩
  · exact d_setItem (by omega) I g ry rv h
  · subst ey eH
    cases (show u = Value.ref b from ry)
    obtain ⟨hz, hd, ys, rel, dd⟩ := n_dict I hx hks
    refine wpAny_setItem_heap (hsz := by rw [← Paired.length rel]; exact hz) (nroom hu) (hk.is I) dd fun h' dd' hs => h _ ?_
    exact n_write I hx hs (by have := putN_len xs k b v; omega) hd (xy_put rv rel) dd'
end
end DL
set_option Elab.async false
set_option linter.all false
set_option maxRecDepth 100000
set_option maxHeartbeats 4000000
namespace DL
open PySem PySem.Spec PyProof.Rows L2
def isK (k : NestedKey) (d : D) : Bool := decide (nkey d = some k)
def valNk (kvs : List (D × D)) (k : NestedKey) : Option D := (kvs.find? fun kv => isK k kv.1).map (·.2)
def putNk (kvs : List (D × D)) (y : D) (k : NestedKey) (v : D) : List (D × D) := if (valNk kvs k).isSome then kvs.map fun kv => if isK k kv.1 then (kv.1, v) else kv else kvs ++ [(y, v)]
theorem isK_of {d : D} {j k : NestedKey} (h : nkey d = some j) : isK k d = decide (j = k) := by
  unfold isK
  rw [h]
  simp
section
variable {K : Frag} {F : Hp}
theorem RN.at {k : NestedKey} : ∀ {kvs : List (D × D)} {xs : List XN}, RN K F kvs xs → (∀ d, valNk kvs k = some d → ∃ p, atN xs k = some p ∧ RV K F d p.2) ∧ (valNk kvs k = none → atN xs k = none)
  | _, _, .nil => ⟨fun d h => by simp [valNk] at h, fun _ => rfl⟩
  | _, _, .cons (a := a) (b := b) h t => by
    obtain ⟨h1, h2, h3, h4⟩ := h
    obtain ⟨i1, i2⟩ := RN.at (k := k) t
    by_cases hk : b.1 = k
    · have hk' : isK k a.1 = true := by rw [isK_of h1]; exact decide_eq_true hk
      refine ⟨fun d e => ?_, fun e => ?_⟩
      · simp only [valNk, List.find?_cons, hk', Option.map_some, Option.some.injEq] at e
        subst e
        exact ⟨b.2, by simp [atN, List.find?_cons, hk], h4⟩
      · simp [valNk, List.find?_cons, hk'] at e
    · have hk' : isK k a.1 = false := by rw [isK_of h1]; exact decide_eq_false hk
      refine ⟨fun d e => ?_, fun e => ?_⟩
      · obtain ⟨p, e1, e2⟩ := i1 d (by simpa [valNk, List.find?_cons, hk'] using e)
        exact ⟨p, by simpa [atN, List.find?_cons, hk] using e1, e2⟩
      · have := i2 (by simpa [valNk, List.find?_cons, hk'] using e)
        simpa [atN, List.find?_cons, hk] using this
theorem RN.repl {k : NestedKey} {d : D} {v : V} (r : RV K F d v) : ∀ {kvs : List (D × D)} {xs : List XN}, RN K F kvs xs → RN K F (kvs.map fun kv => if isK k kv.1 then (kv.1, d) else kv) (xs.map fun x => if x.1 = k then (x.1, x.2.1, v) else x)
  | _, _, .nil => .nil
  | _, _, .cons (a := a) (b := b) h t => by
    refine .cons ?_ (RN.repl r t)
    obtain ⟨h1, h2, h3, h4⟩ := h
    by_cases hk : b.1 = k
    · have hk' : isK k a.1 = true := by rw [isK_of h1]; exact decide_eq_true hk
      simp only [hk', if_true, if_pos hk]
      exact ⟨h1, h2, h3, r⟩
    · have hk' : isK k a.1 = false := by rw [isK_of h1]; exact decide_eq_false hk
      simp only [hk', if_neg hk]
      exact ⟨h1, h2, h3, h4⟩
theorem RN.snoc {y d : D} {z : XN} (r : nkey y = some z.1 ∧ z.1.depth ≤ 8 ∧ RV K F y (.ref z.2.1) ∧ RV K F d z.2.2) : ∀ {kvs : List (D × D)} {xs : List XN}, RN K F kvs xs → RN K F (kvs ++ [(y, d)]) (xs ++ [z])
  | _, _, .nil => .cons r .nil
  | _, _, .cons h t => .cons h (RN.snoc r t)
theorem RN.put {y d : D} {k : NestedKey} {b : Addr} {v : V} {kvs : List (D × D)} {xs : List XN} (h : RN K F kvs xs) (hk : nkey y = some k) (h8 : k.depth ≤ 8) (ry : RV K F y (.ref b)) (r : RV K F d v) : RN K F (putNk kvs y k d) (putN xs k b v) := by
  unfold putNk putN
  obtain ⟨i1, i2⟩ := h.at (k := k)
  cases e : valNk kvs k with
  | none => rw [i2 e]; exact h.snoc ⟨hk, h8, ry, r⟩
  | some x =>
    obtain ⟨p, e1, _⟩ := i1 x e
    rw [e1]
    exact h.repl r
theorem RN.keys {H : Hp} (s : Same F H) : ∀ {kvs : List (D × D)} {xs : List XN}, RN K F kvs xs → ∀ x ∈ xs, KeyAt K H x.1 (.ref x.2.1)
  | _, _, .nil, x, h => by cases h
  | _, _, .cons h t, x, hx => by
    rcases List.mem_cons.mp hx with rfl | hx
    · exact keyAt_rv s h.2.2.1 h.1 h.2.1
    · exact RN.keys s t x hx
end
theorem valNk_cons (p : D × D) (l : List (D × D)) (k : NestedKey) : valNk (p :: l) k = if isK k p.1 then some p.2 else valNk l k := by
  simp only [valNk, List.find?_cons]
  cases isK k p.1 <;> simp
def Look (w : World) (O : Ow) (p : Addr) (y : D) (r : Option D) : Prop :=
  (∃ kvs k, (O p = some (.dK kvs) ∨ ∃ u, O p = some (.fK u kvs)) ∧ keyD y = some k ∧ r = valD kvs k) ∨ ∃ kvs k ds, O p = some (.dN w kvs) ∧ y = .tup ds ∧ nkey y = some k ∧ k.depth ≤ 8 ∧ r = valNk kvs k
def Stor (w : World) (O : Ow) (p : Addr) (y v : D) (o : OD) : Prop :=
  (∃ kvs k, O p = some (.dK kvs) ∧ keyD y = some k ∧ kvs.length < sizeLine ∧ o = .dK (putKD kvs k v)) ∨ ∃ kvs k ds, O p = some (.dN w kvs) ∧ y = .tup ds ∧ nkey y = some k ∧ k.depth ≤ 8 ∧ kvs.length < sizeLine ∧ o = .dN w (putNk kvs y k v)
section
variable {K : Frag} {w : World} {O : Ow} {H F : Hp} {p : Addr} {y v : D} {yv vv : V} {r : Option D} {o : OD}
theorem look_ok (fh : Same F H) (ow : OwOk K O H F) (ry : RV K F y yv) (l : Look w O p y r) : ∃ z, GGet K w H p yv z ∧ (∀ d, r = some d → ∃ zv, z = some zv ∧ RV K F d zv) ∧ (r = none → z = none) := by
  rcases l with ⟨kvs, k, e, ek, rfl⟩ | ⟨kvs, k, ds, e, ey, ek, h8, rfl⟩
  · have key : ∀ ks, Rd H p (.dK ks) → RKV K F kvs ks → ∃ z, GGet K w H p yv z ∧ (∀ d, valD kvs k = some d → ∃ zv, z = some zv ∧ RV K F d zv) ∧ (valD kvs k = none → z = none) := fun ks hr rk =>
      ⟨valV ks k, .inl (.inl ⟨ks, k, hr, keyD_v ry ek, rfl⟩), fun d e => rk.val k e, fun e => rk.valN k e⟩
    rcases e with e | ⟨u, e⟩
    · obtain ⟨_, ho, e1, ks, rfl, rk⟩ := ow _ _ e
      exact key ks (.inl e1) rk
    · obtain ⟨_, ho, e1, x, e2, e3, rk⟩ := ow _ _ e
      rw [e2] at e1
      exact key x.2 (.inr ⟨_, e1⟩) rk
  · obtain ⟨_, ho, e1, xs, rfl, rn⟩ := ow _ _ e
    subst ey
    cases ry with
    | tup h1 h2 =>
      rename_i b zs
      obtain ⟨i1, i2⟩ := rn.at (k := k)
      refine ⟨_, .inr ⟨xs, k, b, e1, rfl, keyAt_rv fh (.tup h1 h2) ek h8, rn.keys fh, rfl⟩, fun d e => ?_, fun e => by rw [i2 e]; rfl⟩
      obtain ⟨q, e2, e3⟩ := i1 d e
      exact ⟨q.2, by rw [e2]; rfl, e3⟩
theorem stor_ok {B : Bd} {env : Env} {σ : St} (R : Rel B env O σ H F) (ry : RV B.K F y yv) (rv : RV B.K F v vv) (l : Stor w O p y v o) : ∃ ho, GPut B.K w H p yv vv (upd H p ho) ∧ After B.K O H F (setO O p o) (upd H p ho) F := by
  rcases l with ⟨kvs, k, e, ek, hl, rfl⟩ | ⟨kvs, k, ds, e, ey, ek, h8, hl, rfl⟩
  · obtain ⟨_, ho, e1, ks, rfl, rk⟩ := R.ow _ _ e
    refine ⟨.dK (putK ks k vv), .inl (.inl ⟨ks, k, e1, keyD_v ry ek, by rw [← rk.klen]; exact hl, rfl⟩), R.put e ⟨_, rfl, rk.kput k rv⟩⟩
  · obtain ⟨_, ho, e1, xs, rfl, rn⟩ := R.ow _ _ e
    subst ey
    cases ry with
    | tup h1 h2 =>
      rename_i b zs
      have ln : kvs.length = xs.length := Paired.length rn
      exact ⟨RawN w p (putN xs k b vv), .inr ⟨xs, k, b, e1, rfl, keyAt_rv R.fh (.tup h1 h2) ek h8, rn.keys R.fh, by omega, rfl⟩, R.put e ⟨_, rfl, rn.put ek h8 (.tup h1 h2) rv⟩⟩
end
section
variable {X : Cx} {B : Bd} {pos pos' p apos cpos : Pos} {k : Nat} {wx : DW} {o i e f value : Expr} {td ty tv tx : DTE}
theorem Site.u10 (S : Site X B k wx) : X.A.units + 10 < cLine := by have := S.u66; omega
def rGIn (K : Frag) (w : World) (neg : Bool) : R2 := fun y x H Q => ∃ a z, x = .ref a ∧ GGet K w H a y z ∧ Q (.bl (if neg then !z.isSome else z.isSome)) H
theorem op_gin (hu : X.A.units + 10 < cLine) : OpR X (compareOp .In) (rGIn X.K X.w false) := by
  intro pins s σ H y x v u Q I ry rx h
  obtain ⟨a, z, rfl, g, q⟩ := h
  cases (show u = Value.ref a from rx)
  exact g_in hu I g ry fun s' I' => ⟨.bl z.isSome, H, I', rfl, q⟩
def dDIn (w : World) (neg : Bool) : DR2 := fun y x O q => ∃ p r, x = .ref p ∧ Look w O p y r ∧ q (.bl (if neg then !r.isSome else r.isSome)) O
theorem sim_din {w : World} {neg : Bool} : Sim2 B (rGIn B.K w neg) (dDIn w neg) := by
  intro env O σ H F y x dy dx q Q R ry rx h kk
  obtain ⟨p, r, rfl, l, hq⟩ := h
  cases rx
  obtain ⟨z, g, g1, g2⟩ := look_ok R.fh R.ow ry l
  have e : z.isSome = r.isSome := by
    cases r with
    | none => rw [g2 rfl]; rfl
    | some d => obtain ⟨zv, rfl, _⟩ := g1 d rfl; rfl
  refine ⟨p, z, rfl, g, ?_⟩
  rw [e]
  exact kk _ _ O H F (.refl R) (.bl _) hq
theorem st_din (S : Site X B k wx) (ha : PE X i (lift B ty)) (hb : PE X o (lift B td)) (hm : behindInMarks .In o = false := by rfl) : PT X (.Compare i [.In] [o] pos) (liftT B (dTest (dOp (dDIn X.w false) ty td))) := dt_cmp (op_gin S.u10) (by rw [S.hK]; exact sim_din) ha hb hm
def sGPut (K : Frag) (w : World) (td ty tv : TE) : TS := fun D σ H => tv σ H fun v H1 => td σ H1 fun x H2 => ty σ H2 fun y H3 => ∃ a H4, x = .ref a ∧ GPut K w H3 a y v H4 ∧ D.nx σ H4
theorem ps_gput {td ty tv : TE} (hu : X.A.units + 10 < cLine) (ho : PE X o td) (hi : PE X i ty) (hv : PE X value tv) (hs : swapsWith value (some (.Subscript o i pos')) pos.line X.env = pure false) :
    PS X (.Assign [.Subscript o i pos'] value pos) (sGPut X.K X.w td ty tv) := by
  refine ⟨fun pins s σ H D I h => ?_⟩
  refine wpAny_Assign_Subscript (thn (hv.run pins s σ H _ I h) fun r s1 ⟨v, H1, I1, rv, q1⟩ => thn (ho.run pins s1 σ H1 _ I1 q1) fun u s2 ⟨x, H2, I2, rx, q2⟩ => thn (hi.run pins s2 σ H2 _ I2 q2) fun iv s3 ⟨y, H3, I3, ry, a, H4, ex, g, q3⟩ => ?_) hs
  subst ex
  obtain rfl : u = Value.ref a := rx
  exact g_setItem hu I3 g ry rv fun s4 I4 => ⟨σ, H4, I4, q3⟩
def dputK (w : World) (v x : D) (env : Env) (E : DEnds) : DQ := fun y O3 => ∃ p o, x = .ref p ∧ Stor w O3 p y v o ∧ E.nx env (setO O3 p o)
def dDPut (w : World) (td ty tv : DTE) : DTS := fun E env O => tv env O fun v O1 => td env O1 fun x O2 => ty env O2 (dputK w v x env E)
theorem ds_dput (S : Site X B k wx) (ho : PE X o (lift B td)) (hi : PE X i (lift B ty)) (hv : PE X value (lift B tv)) (hs : swapsWith value (some (.Subscript o i pos')) pos.line X.env = pure false := by rfl) :
    PS X (.Assign [.Subscript o i pos'] value pos) (liftS B (dDPut X.w td ty tv)) := PS.weak (ps_gput S.u10 ho hi hv hs) fun E σ H h => by
  obtain ⟨env, O, F, d, R, h, m⟩ := h
  refine ⟨env, O, F, _, R, h, fun dv v O1 H1 F1 a1 r1 h1 => ?_⟩
  have R1 := R.call a1
  refine ⟨env, O1, F1, _, R1, h1, fun dx x O2 H2 F2 a2 r2 h2 => ?_⟩
  have R2 := R1.call a2
  refine ⟨env, O2, F2, _, R2, h2, fun dy y O3 H3 F3 a3 r3 h3 => ?_⟩
  have R3 := R2.call a3
  obtain ⟨p, o, rfl, l, h3⟩ := h3
  cases r2
  obtain ⟨ho, g, af⟩ := stor_ok R3 r3 ((r1.mono a2.ff).mono a3.ff) l
  exact ⟨p, _, rfl, by rw [S.hK]; exact g, m.nx env _ σ _ F3 (((a1.trans a2).trans a3).trans af) R3.sl h3⟩
def dDict0N (w : World) : DTE := fun _ O q => ∀ p, O p = none → q (.ref p) (setO O p (.dN w []))
def tDNewN (w : World) : TE := fun _ H Q => ∀ p, H p = none → Q (.ref p) (upd H p (RawN w p []))
theorem pe_dnewN : PE X (.Dict [] [] pos) (tDNewN X.w) := ⟨fun pins s σ H Q I h =>
  wpAny_Dict_empty ⟨.ref s.heap.objs.size, _, I.laid (a := s.heap.objs.size) (o := RawN X.w s.heap.objs.size []) (t' := s.toks) (fun _ _ q => Heap.get?_push_of_some _ q) (Nat.le_refl _) (n_new s.heap I.big X.w X.prog), rfl, h _ (I.hok.fresh (Nat.le_refl _))⟩⟩
theorem so_dict0N : PE X (.Dict [] [] pos) (lift B (dDict0N X.w)) := PE.weak pe_dnewN fun σ H Q h => by
  obtain ⟨env, O, F, q, R, h, kk⟩ := h
  intro p hp
  exact kk _ _ _ _ F (R.own hp (u := .dN X.w []) ⟨[], rfl, .nil⟩) (.ref p) (h p (R.free hp).1)
def IsDct (w : World) (O : Ow) (p : Addr) : Prop := (∃ kvs, O p = some (.dK kvs) ∨ ∃ u, O p = some (.fK u kvs)) ∨ ∃ kvs, O p = some (.dN w kvs)
def get2K2 (w : World) (p : Addr) (y : D) (q : DQ) : DQ := fun z O3 => ∃ r, Look w O3 p y r ∧ q (r.getD z) O3
def get2K (w : World) (ty tx : DTE) (env : Env) (q : DQ) : DQ := fun x O1 => ∃ p, x = .ref p ∧ IsDct w O1 p ∧ ty env O1 fun y O2 => tx env O2 (get2K2 w p y q)
def dGet2 (w : World) (td ty tx : DTE) : DTE := fun env O q => td env O (get2K w ty tx env q)
end
section
variable {w : World} {O : Ow} {q : DQ} {p : Addr} {y v : D} {kvs : List (Key × D)} {kvn : List (D × D)} {k : Key} {n : NestedKey} {env : Env} {E : DEnds} {td ty tv tx : DTE} {ds : List D}
theorem look_n (e : O p = some (.dN w kvn)) (hk : nkey (.tup ds) = some n) (h8 : n.depth ≤ 8) : Look w O p (.tup ds) (valNk kvn n) := .inr ⟨kvn, n, ds, e, rfl, hk, h8, rfl⟩
theorem i_dinN {neg : Bool} (e : O p = some (.dN w kvn)) (hk : nkey (.tup ds) = some n) (h8 : n.depth ≤ 8) (h : q (.bl (if neg then !(valNk kvn n).isSome else (valNk kvn n).isSome)) O) : dDIn w neg (.tup ds) (.ref p) O q := ⟨p, _, rfl, look_n e hk h8, h⟩
theorem i_dput (h : tv env O fun v O1 => td env O1 fun x O2 => ty env O2 (dputK w v x env E)) : dDPut w td ty tv E env O := h
theorem i_dputKN (e : O p = some (.dN w kvn)) (hk : nkey (.tup ds) = some n) (h8 : n.depth ≤ 8) (hl : kvn.length ≤ 1000000) (h : E.nx env (setO O p (.dN w (putNk kvn (.tup ds) n v)))) : dputK w v (.ref p) env E (.tup ds) O := ⟨p, _, rfl, .inr ⟨kvn, n, ds, e, rfl, hk, h8, by rw [sizeLine_eq]; omega, rfl⟩, h⟩
theorem i_dict0N (h : ∀ p, O p = none → q (.ref p) (setO O p (.dN w []))) : dDict0N w env O q := h
theorem i_get2 (h : td env O (get2K w ty tx env q)) : dGet2 w td ty tx env O q := h
end
end DL
set_option Elab.async false
set_option linter.all false
set_option maxRecDepth 100000
set_option maxHeartbeats 4000000
namespace DL
open PySem PySem.Spec PyProof.Rows L2
def dcGo (g : DTG) (tt : DTT) (tk tv : DTE) (Gd : Ow → Prop) : List D → Env → List (Key × D) → Ow → (List (Key × D) → Ow → Prop) → Prop
  | [], _, acc, O, q => Gd O ∧ q acc O
  | x :: xs, env, acc, O, q => Gd O ∧ g x env O fun env2 _ => tt env2 O fun b O3 => if b = true then tk env2 O3 fun y O4 => tv env2 O4 fun z O5 => ∃ k o2, keyD y = some k ∧ acc.length < sizeLine ∧ SubO o2 O5 ∧ dcGo g tt tk tv Gd xs env (putKD acc k z) o2 q else ∃ o2, SubO o2 O3 ∧ dcGo g tt tk tv Gd xs env acc o2 q
def dDc (wi : DTI) (g : DTG) (tt : DTT) (tk tv : DTE) (vs : List Nat) : DTE := fun env O q => wi env O fun xs Gd O1 => dcGo g tt tk tv Gd xs (wipeD env vs) [] O1 fun kvs O2 => ∀ p, O2 p = none → q (.ref p) (setO O2 p (.dK kvs))
section
variable {X : Cx} {B : Bd} {pos : Pos} {tg : Expr}
theorem i_dc {wi : DTI} {g : DTG} {tt : DTT} {tk tv : DTE} {vs : List Nat} {env : Env} {O : Ow} {q : DQ} (h : wi env O fun xs Gd O1 => dcGo g tt tk tv Gd xs (wipeD env vs) [] O1 fun kvs O2 => ∀ p, O2 p = none → q (.ref p) (setO O2 p (.dK kvs))) : dDc wi g tt tk tv vs env O q := h
end
/-- what is walked: the i-th of f kvs -/
def dwK (f : List (Key × D) → List D) (q : List D → (Ow → Prop) → Ow → Prop) : DQ := fun d O1 => ∃ p kvs, d = .ref p ∧ ((O1 p = some (.dK kvs) ∧ ∀ u, q (f kvs) (fun O' => O' p = some (.fK u kvs)) (setO O1 p (.fK u kvs))) ∨ ∃ u, O1 p = some (.fK u kvs) ∧ q (f kvs) (fun O' => O' p = some (.fK u kvs)) O1)
def diDct (f : List (Key × D) → List D) (te : DTE) : DTI := fun env O q => te env O (dwK f q)
section
variable {X : Cx} {B : Bd} {pos apos cpos tpos : Pos} {k : Nat} {wx : DW} {tg e : Expr} {te : DTE}
theorem i_dct {f : List (Key × D) → List D} {env : Env} {O : Ow} {q : List D → (Ow → Prop) → Ow → Prop} (h : te env O (dwK f q)) : diDct f te env O q := h
end
section
variable {X : Cx} {B : Bd} {pos p : Pos} {k : Nat} {wx : DW} {e : Expr} {kws : List Keyword} {tA tB : DTA}
theorem dpAll_ints {K : Frag} {H : Hp} : ∀ ns : List Int, DpAll K H (ns.map V.int) (ns.map PyData.int)
  | [] => .nil
  | n :: ns => .cons (.int n) (dpAll_ints ns)
theorem depthAll_ints : ∀ ns : List Int, PyData.depthAll (ns.map PyData.int) = 0
  | [] => rfl
  | n :: ns => by simp [PyData.depthAll, PyData.depth, depthAll_ints ns]
theorem rvs_ints {K : Frag} {F : Hp} : ∀ {ns : List Int} {vs : List V}, RVs K F (ns.map D.int) vs → vs = ns.map V.int
  | [], _, h => by cases h; rfl
  | n :: ns, _, h => by
    cases h with
    | cons h1 h2 => cases h1; rw [rvs_ints h2]; rfl
def dCKw (r : List D → List D → Ow → DQ → Prop) (ta tb : DTA) : DTE := fun env O q => ta env O fun ds O1 => tb env O1 fun es O2 => r ds es O2 q
theorem i_ckw {r : List D → List D → Ow → DQ → Prop} {env : Env} {O : Ow} {q : DQ} (h : tA env O fun ds O1 => tB env O1 fun es O2 => r ds es O2 q) : dCKw r tA tB env O q := h
end
end DL
set_option Elab.async false
set_option linter.all false
set_option maxRecDepth 100000
set_option maxHeartbeats 4000000
namespace DL
open PySem PySem.Spec PyProof.Rows L2
end DL
set_option Elab.async false
set_option linter.all false
set_option maxRecDepth 100000
set_option maxHeartbeats 4000000
namespace DL
open PySem PySem.Spec PyProof.Rows L2
/-- the own lists at the addresses of A as data, n levels deep -/
def dv (A : Addr → Bool) (O : Ow) : Nat → D → D
  | 0, d => d
  | n + 1, .ref p => if A p then (match O p with | some (.lst ds) => .lst (ds.map (dv A O n)) | _ => .ref p) else .ref p
  | n + 1, .tup ds => .tup (ds.map (dv A O n))
  | n + 1, .lst ds => .lst (ds.map (dv A O n))
  | _ + 1, d => d
def cutA (A : Addr → Bool) (O : Ow) : Ow := fun a => if A a then none else O a
def icedF (A : Addr → Bool) (H F : Hp) : Hp := fun a => if A a then H a else F a
section
variable {K : Frag} {O : Ow} {H F : Hp} {A : Addr → Bool}
theorem iced_same (ow : OwOk K O H F) (hA : ∀ a, A a = true → ∃ ds, O a = some (.lst ds)) : Same F (icedF A H F) := fun b u e => by
  unfold icedF
  by_cases h : A b = true
  · obtain ⟨ds, hd⟩ := hA b h
    obtain ⟨h1, _⟩ := ow b _ hd
    rw [h1] at e; cases e
  · rw [if_neg h]; exact e
theorem rvs_map {F' : Hp} {f : D → D} (hf : ∀ d v, RV K F d v → RV K F' (f d) v) : ∀ {ds : List D} {vs : List V}, RVs K F ds vs → RVs K F' (ds.map f) vs
  | _, _, .nil => .nil
  | _, _, .cons h t => .cons (hf _ _ h) (rvs_map hf t)
theorem dv_rv (fh : Same F H) (ow : OwOk K O H F) (hA : ∀ a, A a = true → ∃ ds, O a = some (.lst ds)) : ∀ (n : Nat) (d : D) (v : V), RV K F d v → RV K (icedF A H F) (dv A O n d) v
  | 0, d, v, r => by simp only [dv]; exact r.mono (iced_same ow hA)
  | n + 1, d, v, r => by
    have s := iced_same ow hA
    have ih := dv_rv fh ow hA n
    cases d with
    | ref p =>
      cases r
      simp only [dv]
      by_cases h : A p = true
      · rw [if_pos h]
        obtain ⟨ds, hd⟩ := hA p h
        rw [hd]
        obtain ⟨h1, ho, e1, vs, rfl, rr⟩ := ow p _ hd
        refine .lst (SqL.of ?_) (rvs_map ih rr)
        unfold icedF
        rw [if_pos h]
        exact e1
      · rw [if_neg h]; exact .ref p
    | tup ds =>
      simp only [dv]
      cases r with
      | tup h1 h2 => exact .tup (h1.mono s) (rvs_map ih h2)
    | lst ds =>
      simp only [dv]
      cases r with
      | lst h1 h2 => exact .lst (s.seq h1) (rvs_map ih h2)
    | non => exact r.mono s
    | bl b => exact r.mono s
    | int i => exact r.mono s
    | str x => exact r.mono s
    | ty x => exact r.mono s
    | ins C ns ds => exact r.mono s
theorem iced_after (fh : Same F H) (ow : OwOk K O H F) (hA : ∀ a, A a = true → ∃ ds, O a = some (.lst ds)) : After K O H F (cutA A O) H (icedF A H F) := by
  have s := iced_same ow hA
  refine ⟨s, fun b u e => ?_, fun _ _ e _ => .inl e, fun a _ ho h0 => ?_, fun q u e => ?_, fun q u e => ?_, fun _ _ t => t⟩
  · unfold icedF at e
    split at e
    · exact e
    · exact fh b u e
  · unfold icedF
    rw [if_neg fun h => by obtain ⟨ds, hd⟩ := hA a h; rw [hd] at ho; cases ho]
    exact h0
  · unfold cutA at e
    split at e
    · cases e
    · rename_i h
      obtain ⟨h1, ho, h3, h4⟩ := ow q u e
      exact ⟨by unfold icedF; rw [if_neg h]; exact h1, ho, h3, h4.mono s⟩
  · unfold cutA at e
    split at e
    · cases e
    · exact .inl (by rw [e]; simp)
end
def iceA (q : DQ) : DQ := fun d O1 => ∃ (A : Addr → Bool) (n : Nat), (∀ a, A a = true → ∃ ds, O1 a = some (.lst ds)) ∧ q (dv A O1 n d) (cutA A O1)
def dIceA (t : DTE) : DTE := fun env O q => t env O (iceA q)
theorem de_iceA {X : Cx} {B : Bd} {e : Expr} {t : DTE} (h : PE X e (lift B t)) : PE X e (lift B (dIceA t)) := PE.weak h fun σ H Q hh => by
  obtain ⟨env, O, F, q, R, h, kk⟩ := hh
  refine ⟨env, O, F, _, R, h, fun d v O1 H1 F1 a1 r1 h1 => ?_⟩
  obtain ⟨A, n, hA, h1⟩ := h1
  exact kk _ _ _ _ _ (a1.trans (iced_after a1.fh a1.ow hA)) (dv_rv a1.fh a1.ow hA n d v r1) h1
theorem i_iceA {t : DTE} {env : Env} {O : Ow} {q : DQ} (h : t env O (iceA q)) : dIceA t env O q := h
/-- the addresses of a list -/
def inA (ps : List Addr) (a : Addr) : Bool := ps.contains a
theorem i_iceB {O : Ow} {q : DQ} {d : D} (ps : List Addr) (n : Nat) (h : ∀ a ∈ ps, ∃ ds, O a = some (.lst ds)) (hq : q (dv (inA ps) O n d) (cutA (inA ps) O)) : iceA q d O :=
  ⟨inA ps, n, fun a ha => h a (by simpa [inA] using ha), hq⟩
theorem cutA_ne {ps : List Addr} {O : Ow} {a : Addr} (h : a ∉ ps) : cutA (inA ps) O a = O a := by
  unfold cutA inA
  rw [if_neg]
  simpa using h
end DL
set_option Elab.async false
set_option linter.all false
set_option maxRecDepth 100000
set_option maxHeartbeats 4000000
namespace DL
open PySem PySem.Spec PyProof.Rows L2
theorem del_set {O : Ow} {p : Addr} {o : OD} : delO (setO O p o) p = delO O p := by
  funext b; unfold delO setO; split <;> rfl
/-- what is owned beside p stays -/
def Ex (p : Addr) (O O' : Ow) : Prop := SubO (delO O p) (delO O' p)
section
variable {p r : Addr} {O O' O2 : Ow} {o : OD} {m m' : Int}
theorem Ex.refl : Ex p O O := SubO.refl _
theorem Ex.trans (h : Ex p O O') (h' : Ex p O' O2) : Ex p O O2 := SubO.trans h h'
theorem Ex.at (h : Ex p O O') (hr : r ≠ p) (e : O r = some o) : O' r = some o := by
  have := h r o (by rw [delO_ne hr]; exact e)
  rw [delO_ne hr] at this
  exact this
theorem Ex.set (h : Ex p O O') : Ex p O (setO O' p o) := by
  unfold Ex
  rw [del_set]
  exact h
/-- a thing that the first moment did not know -/
theorem Ex.mine (h : Ex p O O') (h0 : O r = none) : Ex p O (setO O' r o) := fun a x e => by
  have h1 : a ≠ p := fun z => by unfold delO at e; rw [if_pos z] at e; cases e
  have h2 : a ≠ r := fun z => by rw [delO_ne h1, z, h0] at e; cases e
  have := h a x e
  rw [delO_ne h1] at this ⊢
  rw [setO_ne h2]
  exact this
theorem Ex.fresh (h : Ex p O O') (hr : r ≠ p) (h0 : O' r = none) : Ex p O (setO O' r o) := by
  refine h.mine ?_
  cases e : O r with
  | none => rfl
  | some x => rw [h.at hr e] at h0; cases h0
theorem Ex.gone (h : Ex p O O') (hr : r ≠ p) (h0 : O' r = none) : O r = none := by
  cases e : O r with
  | none => rfl
  | some x => rw [h.at hr e] at h0; cases h0
theorem Ex.sub (h : Ex p O O') (s : SubO (delO O p) (delO O2 p)) (hs : SubO O2 O') : Ex p O O2 := s
theorem Ex.del (h : Ex p O O') (h0 : O r = none) : Ex p O (delO O' r) := fun a x e => by
  have h1 : a ≠ p := fun z => by unfold delO at e; rw [if_pos z] at e; cases e
  have h2 : a ≠ r := fun z => by rw [delO_ne h1, z, h0] at e; cases e
  have := h a x e
  rw [delO_ne h1] at this ⊢
  rw [delO_ne h2]
  exact this
theorem Ex.cut {A : Addr → Bool} (h : Ex p O O') (h0 : ∀ a, A a = true → O a = Option.none) : Ex p O (cutA A O') := fun a x e => by
  have h1 : a ≠ p := fun z => by unfold delO at e; rw [if_pos z] at e; cases e
  have := h a x e
  rw [delO_ne h1] at this e ⊢
  unfold cutA
  rw [if_neg]
  · exact this
  · intro z
    rw [h0 a z] at e
    cases e
theorem Ex.weak (h : Ex p O O') (h2 : SubO O2 O) : Ex p O2 O' := fun a x e => by
  have h1 : a ≠ p := fun z => by unfold delO at e; rw [if_pos z] at e; cases e
  refine h a x ?_
  rw [delO_ne h1] at e ⊢
  exact h2 a x e
theorem Bag.off (hb : Bag O p m) (hr : O r = Option.none) : r ≠ p := fun z => by
  obtain ⟨_, _, _, e, _⟩ := hb
  rw [z, e] at hr; cases hr
theorem Bag.put (hb : Bag O p m) (hr : r ≠ p) : Bag (setO O r o) p m := by
  obtain ⟨a, b, c, e, h⟩ := hb
  exact ⟨a, b, c, by rw [setO_ne (Ne.symm hr)]; exact e, h⟩
theorem Bag.del (hb : Bag O p m) (hr : r ≠ p) : Bag (delO O r) p m := by
  obtain ⟨a, b, c, e, h⟩ := hb
  exact ⟨a, b, c, by rw [delO_ne (Ne.symm hr)]; exact e, h⟩
theorem Bag.cut {A : Addr → Bool} (hb : Bag O p m) (hr : A p = false) : Bag (cutA A O) p m := by
  obtain ⟨a, b, c, e, h⟩ := hb
  exact ⟨a, b, c, by unfold cutA; rw [if_neg (by rw [hr]; simp)]; exact e, h⟩
end
theorem joinO {te : DTE} {env : Env} {O : Ow} {q : DQ} (V : D → Ow → Prop) (hk : ∀ d o, V d o → q d o) (h : ∀ q' : DQ, (∀ d o, V d o → q' d o) → te env O q') : te env O q := h q hk
section
variable {X : Cx} {B : Bd} {pos : Pos} {k j n : Nat} {wx : DW} {e : Expr} {C g pa : Addr} {f x qn : Str} {ta : DTE} {st : Stmt} {kws : List (Str × V)} {ps : List Str} {fn : DF}
def propK (C : Addr) (fn : DF) (q : DQ) : DQ := fun d O1 => ∃ fs, InsAt C O1 d fs ∧ fn [d] O1 q fun _ _ _ => False
def dProp (C : Addr) (fn : DF) (ta : DTE) : DTE := fun env O q => ta env O (propK C fn q)
theorem i_prop {env : Env} {O : Ow} {q : DQ} (h : ta env O (propK C fn q)) : dProp C fn ta env O q := h
theorem i_propI {O : Ow} {q : DQ} {ns : List Str} {zs : List D} (h : fn [.ins C ns zs] O q fun _ _ _ => False) : propK C fn q (.ins C ns zs) O := ⟨_, ⟨rfl, rfl⟩, h⟩
end
end DL
set_option Elab.async false
set_option linter.all false
set_option maxRecDepth 100000
set_option maxHeartbeats 4000000
namespace DL
open PySem PySem.Spec PyProof.Rows L2
def isRw : D → Bool
  | .int _ => true
  | _ => false
def rowAt (ms : List D) : D → D
  | .int i => (ms[i.toNat]?).getD .non
  | _ => .non
def putOf : D → Int
  | .tup [.int b, _, _] => b
  | _ => 1
def nxtOf (e : Int) : D → D
  | .tup [_, p, q] => if e = 0 then p else q
  | _ => .non
/-- the machines of the hearers and of the sender -/
structure Mc where
  hs : List D
  ss : List D
def Mc.m (M : Mc) (k : Nat) : List D := if k = 0 then M.ss else M.hs
/-- the bits that the stations on their way put -/
def puts (M : Mc) (ps : List D) : List Int := (ps.zipIdx.filter fun x => isRw x.1).map fun x => putOf (rowAt (M.m x.2) x.1)
def bitL (M : Mc) (ps : List D) : Int := if (0 : Int) ∈ puts M ps then 0 else 1
def silL (S : Nat → Bool) (ps : List D) : List D := ps.mapIdx fun k d => if S k then D.non else d
def earK (W : Nat → Bool) (b : Int) (k : Nat) : Int := if W k then 1 - b else b
def nxtL (M : Mc) (W : Nat → Bool) (b : Int) (ps : List D) : List D := ps.mapIdx fun k d => if isRw d then nxtOf (earK W b k) (rowAt (M.m k) d) else d
def stepL (M : Mc) (W S : Nat → Bool) (ps : List D) : List D := nxtL M W (bitL M (silL S ps)) (silL S ps)
def hearL (M : Mc) (W S : Nat → Bool) (ps : List D) (es : List (List Int)) : List (List Int) := es.mapIdx fun k e => if isRw ((silL S ps).getD k .non) then e ++ [earK W (bitL M (silL S ps)) k] else e
/-- a sending's moment -/
structure Mo where
  ps : List D
  es : List (List Int)
  bits : List Int
def stepM (M : Mc) (W S : Nat → Bool) (x : Mo) : Mo := ⟨stepL M W S x.ps, hearL M W S x.ps x.es, x.bits ++ [bitL M (silL S x.ps)]⟩
section
variable {M : Mc} {W S : Nat → Bool} {ps : List D}
theorem isRw_iff {d : D} : isRw d = true ↔ ∃ i, d = .int i := by
  cases d <;> simp [isRw]
theorem silL_get {k : Nat} : (silL S ps)[k]? = (ps[k]?).map fun d => if S k then D.non else d := by simp [silL, List.getElem?_mapIdx]
theorem nxtL_get {b : Int} {k : Nat} : (nxtL M W b ps)[k]? = (ps[k]?).map fun d => if isRw d then nxtOf (earK W b k) (rowAt (M.m k) d) else d := by simp [nxtL, List.getElem?_mapIdx]
end
end DL
set_option Elab.async false
set_option linter.all false
set_option maxRecDepth 100000
set_option maxHeartbeats 4000000
namespace DL
open PySem PySem.Spec PyProof.Rows L2
section
variable {X : Cx} {B : Bd} {pos pos' p apos cpos : Pos} {k : Nat} {wx : DW} {o i e f value : Expr} {td ty tv tx : DTE} {w : World}
theorem st_dinW (hw : X.w = w) (S : Site X B k wx) (ha : PE X i (lift B ty)) (hb : PE X o (lift B td)) (hm : behindInMarks .In o = false := by rfl) : PT X (.Compare i [.In] [o] pos) (liftT B (dTest (dOp (dDIn w false) ty td))) := hw ▸ st_din S ha hb hm
theorem ds_dputW (hw : X.w = w) (S : Site X B k wx) (ho : PE X o (lift B td)) (hi : PE X i (lift B ty)) (hv : PE X value (lift B tv)) (hs : swapsWith value (some (.Subscript o i pos')) pos.line X.env = pure false := by rfl) :
    PS X (.Assign [.Subscript o i pos'] value pos) (liftS B (dDPut w td ty tv)) := hw ▸ ds_dput S ho hi hv hs
theorem so_dict0NW (hw : X.w = w) : PE X (.Dict [] [] pos) (lift B (dDict0N w)) := hw ▸ so_dict0N
end
/-- a place of any station -/
def plK : D → Bool
  | .int _ => true
  | .str _ => true
  | .non => true
  | _ => false
end DL
set_option Elab.async false
set_option linter.all false
set_option maxRecDepth 100000
set_option maxHeartbeats 4000000
namespace DL
open PySem PySem.Spec PyProof.Rows L2
section
variable {X : Cx} {B : Bd} {pos p : Pos} {k : Nat} {wx : DW} {e : Expr} {tA : DTA}
def dMin1 : List D → Ow → DQ → Prop := fun ds O q => ∃ (d : D) (ns : List Int), ds = [d] ∧ asL O d = some (ns.map D.int) ∧ 0 < ns.length ∧ ∀ m, m ∈ ns → (∀ y, y ∈ ns → m ≤ y) → q (.int m) O
theorem sim_min1 : SimC B (rMin B.K) dMin1 := by
  intro env O σ H F vs ds q Q R r h kk
  obtain ⟨d, ns, rfl, e1, hn, h1⟩ := h
  obtain ⟨v, rfl, rd⟩ := r.one
  obtain ⟨a, xs, rfl, hs, hr⟩ := asL_sq R.fh R.ow rd e1
  have := rvs_ints hr
  subst this
  exact ⟨a, ns, rfl, hs, hn, fun m h2 h3 => kk _ _ O H F (.refl R) (.int _) (h1 m h2 h3)⟩
theorem so_min1 (S : Site X B k wx) (hc : X.calm = true) (hg : Gl X "min") (hm : X.mg "min" = none) (ha : PA X [e] (liftA B tA)) (he : starEach [e] X.env = (false, eval e X.env) :: starEach [] X.env := by rfl) (hpl : (backTo pos (starEach [] X.env)).any (·.1) = false := by rfl) : PE X (.Call (.Name "min" p) [e] [] pos) (lift B (dCB dMin1 tA)) :=
  de_cb (by rw [S.hK]; exact sim_min1) (pe_callB (cr_min hc) hg hm bt_min ha (by decide) (by decide) he hpl)
theorem i_min1 {O : Ow} {q : DQ} {d : D} {ns : List Int} (e : asL O d = some (ns.map D.int)) (h0 : 0 < ns.length) (h1 : ∀ m, m ∈ ns → (∀ y, y ∈ ns → m ≤ y) → q (.int m) O) : dMin1 [d] O q := ⟨d, ns, rfl, e, h0, h1⟩
end
end DL
set_option Elab.async false
set_option linter.all false
set_option maxRecDepth 100000
set_option maxHeartbeats 4000000
namespace DL
open PySem PySem.Spec PyProof.Rows L2
theorem nkeys_pl : ∀ {ps : List D}, (∀ d ∈ ps, plK d = true) → ∃ ks, nkey.nkeys ps = some ks ∧ NestedKey.depth (.tup ks) ≤ 8
  | [], _ => ⟨[], rfl, by decide⟩
  | d :: ps, h => by
    obtain ⟨ks, h1, h2⟩ := nkeys_pl (ps := ps) fun x hx => h x (List.mem_cons_of_mem _ hx)
    have hd := h d List.mem_cons_self
    cases d <;> simp only [plK] at hd <;> first | cases hd | skip
    all_goals
      simp only [nkey.nkeys, nkey, h1]
      refine ⟨_, rfl, ?_⟩
      simp only [NestedKey.depth, NestedKey.depthAll] at h2 ⊢
      omega
theorem nkeys_inj : ∀ {ps rs : List D} {ks : List NestedKey}, (∀ d ∈ ps, plK d = true) → (∀ d ∈ rs, plK d = true) → nkey.nkeys ps = some ks → nkey.nkeys rs = some ks → ps = rs
  | [], [], _, _, _, _, _ => rfl
  | [], r :: rs, ks, _, h2, e1, e2 => by
    simp only [nkey.nkeys] at e1 e2
    cases e1
    split at e2 <;> cases e2
  | p :: ps, [], ks, _, h2, e1, e2 => by
    simp only [nkey.nkeys] at e1 e2
    cases e2
    split at e1 <;> cases e1
  | p :: ps, r :: rs, ks, h1, h2, e1, e2 => by
    have hp := h1 p List.mem_cons_self
    have hr := h2 r List.mem_cons_self
    simp only [nkey.nkeys] at e1 e2
    split at e1
    · rename_i k1 ks1 a1 b1
      split at e2
      · rename_i k2 ks2 a2 b2
        cases e1
        cases e2
        have := nkeys_inj (fun x hx => h1 x (List.mem_cons_of_mem _ hx)) (fun x hx => h2 x (List.mem_cons_of_mem _ hx)) b1 b2
        subst this
        congr 1
        cases p <;> simp only [plK] at hp <;> first | cases hp | skip
        all_goals
          cases r <;> simp only [plK] at hr <;> first | cases hr | skip
          all_goals
            simp only [nkey] at a1 a2
            cases a1
            first | (cases a2; rfl) | cases a2
      · cases e2
    · cases e1
end DL
set_option Elab.async false
set_option linter.all false
set_option maxRecDepth 100000
set_option maxHeartbeats 4000000
namespace DL
open PySem PySem.Spec PyProof.Rows L2
end DL
set_option Elab.async false
set_option linter.all false
set_option maxRecDepth 100000
set_option maxHeartbeats 4000000
namespace DL
open PySem PySem.Spec PyProof.Rows L2 PySem.W
end DL
set_option Elab.async false
set_option linter.all false
set_option maxRecDepth 100000
set_option maxHeartbeats 4000000
namespace DL
open PySem PySem.Spec PyProof.Rows L2 ItX
end DL
set_option Elab.async false
set_option linter.all false
set_option maxRecDepth 100000
set_option maxHeartbeats 4000000
namespace DL
open PySem PySem.Spec PyProof.Rows L2 ItX
section
variable {X : Cx} {B : Bd} {k j : Nat} {wx : DW} {tg e : Expr} {C fa fl : Addr} {f : Str} {te : DTE} {tA : DTA} {pos p : Pos} {A1 : Around} {pins : List (Addr × Obj)} {σ : L2.St} {fd : FuncData} {ps : List Str} {sp : Sp}
def diOwnT (C : Addr) (f : Str) (te : DTE) : DTI := fun env O q => te env O fun d O1 => ∃ fs ds, InsAt C O1 d fs ∧ fs.lookup f = some (.tup ds) ∧ q ds (fun _ => True) O1
theorem i_ownT {env : Env} {O : Ow} {q : List D → (Ow → Prop) → Ow → Prop} (h : te env O fun d O1 => ∃ fs ds, InsAt C O1 d fs ∧ fs.lookup f = some (.tup ds) ∧ q ds (fun _ => True) O1) : diOwnT C f te env O q := h
end
end DL
set_option Elab.async false
set_option linter.all false
set_option maxRecDepth 100000
set_option maxHeartbeats 4000000
namespace DL
open PySem PySem.Spec PyProof.Rows L2
/-- the set at a: the values of its entries are xs, in the table's order -/
def SetBase (w : World) (h : Heap) (a : Addr) (us : List Value) : Prop :=
  ∃ o es ep t, h.get? a = some o ∧ o.ExactSet ∧ o.data = .set es ep t ∧ es.toList.map (·.2) = us ∧ es.size < 512 ∧ t.fits es.size = true ∧ Ris t.place.toList ∧ (w.params.followText "set-order" = true ∨ t.led = true)
theorem SetBase.at {w : World} {h h' : Heap} {a : Addr} {us : List Value} (R : SetBase w h a us) (k : ∀ o, h.get? a = some o → h'.get? a = some o) : SetBase w h' a us := by
  obtain ⟨o, es, ep, t, ho, r⟩ := R
  exact ⟨o, es, ep, t, k o ho, r⟩
def keyM (v : Value) : Key := match v with | .int k _ => .inl k | .str x _ => .inr x | _ => .inl 0
def GoodM (w : World) (e : Int × Value) : Prop := ∃ k, keyIs k e.2 = true ∧ e.1 = keyH w k
theorem keyM_is {k : Key} {v : Value} (h : keyIs k v = true) : keyM v = k := by
  rcases keyIs_shape h with ⟨i, t, rfl, rfl⟩ | ⟨x, t, rfl, rfl⟩ <;> rfl
theorem goodM_key {w : World} {e : Int × Value} (g : GoodM w e) : keyIs (keyM e.2) e.2 = true := by
  obtain ⟨k, h, _⟩ := g
  rw [keyM_is h]; exact h
/-- the set of keys at a -/
def SetM (w : World) (h : Heap) (a : Addr) (ks : List Key) : Prop :=
  ∃ o es ep t, h.get? a = some o ∧ o.ExactSet ∧ o.data = .set es ep t ∧ (∀ e ∈ es.toList, GoodM w e) ∧ es.toList.map (fun e => keyM e.2) = ks ∧ ks.Nodup ∧ es.size < 512 ∧ t.fits es.size = true ∧ Ris t.place.toList ∧ (w.params.followText "set-order" = true ∨ t.led = true)
theorem SetM.at {w : World} {h h' : Heap} {a : Addr} {ks : List Key} (R : SetM w h a ks) (k : ∀ o, h.get? a = some o → h'.get? a = some o) : SetM w h' a ks := by
  obtain ⟨o, es, ep, t, ho, r⟩ := R
  exact ⟨o, es, ep, t, k o ho, r⟩
theorem key_rel {k : Key} {v : Value} (h : keyIs k v = true) : RelV (kV k) v := by
  rcases keyIs_shape h with ⟨i, t, rfl, rfl⟩ | ⟨x, t, rfl, rfl⟩
  · exact ⟨t, rfl⟩
  · exact ⟨t, rfl⟩
theorem SetM.base {w : World} {h : Heap} {a : Addr} {ks : List Key} (R : SetM w h a ks) : ∃ us, SetBase w h a us ∧ Vals (ks.map kV) us := by
  obtain ⟨o, es, ep, t, ho, hx, hd, g, hk, nd, hb, hf, hr, hl⟩ := R
  refine ⟨_, ⟨o, es, ep, t, ho, hx, hd, rfl, hb, hf, hr, hl⟩, ?_⟩
  rw [← hk]
  have : ∀ l : List (Int × Value), (∀ e ∈ l, GoodM w e) → Vals ((l.map fun e => keyM e.2).map kV) (l.map (·.2)) := by
    intro l
    induction l with
    | nil => intro _; exact .nil
    | cons e l ih => intro g; exact .cons (key_rel (goodM_key (g e List.mem_cons_self))) (ih fun e he => g e (List.mem_cons_of_mem _ he))
  exact this _ g
/-- k goes into ks -/
def Adds {ε : Type} (eqv : ε → ε → Prop) (ks : List ε) (k : ε) (ks' : List ε) : Prop := ((∃ e ∈ ks, eqv e k) ∧ ks' = ks) ∨ ((∀ e ∈ ks, ¬ eqv e k) ∧ ks'.Perm (k :: ks))
section
variable {P : Program} {w : World} {A : Around} {E : Value → Shared → Prop} {s : Shared} {a : Addr} {ks : List Key}
theorem SetM.typeIs (R : SetM w s.heap a ks) : s.TypeIs (.ref a) "set" := by
  obtain ⟨o, es, ep, t, ho, hex, _⟩ := R
  exact ⟨o, ho, hex.1⟩
end
end DL
set_option Elab.async false
set_option linter.all false
set_option maxRecDepth 100000
set_option maxHeartbeats 4000000
namespace DL
open PySem PySem.Spec PyProof.Rows L2
/-- at a stands a set with the members xs, each once -/
def IsZ (X : Cx) (H : Hp) (a : Addr) (xs : List V) : Prop := ∀ pins σ s, Inv X pins σ H s → ∃ us, SetBase X.w s.heap a us ∧ Vals xs us
section
variable {P : Program} {w : World} {A : Around} {E : Value → Shared → Prop} {s : Shared}
/-- what has come from the first items -/
def GotM (ns : List Key) (i : Nat) (ks : List Key) : Prop := (∀ k, k ∈ ks ↔ k ∈ ns.take i) ∧ ks.length ≤ i
theorem GotM.next {ns ks ks' : List Key} {i : Nat} {k : Key} (g : GotM ns i ks) (h : ns[i]? = some k) (ad : Adds Eq ks k ks') : GotM ns (i + 1) ks' := by
  have e : ns.take (i + 1) = ns.take i ++ [k] := by rw [List.take_add_one, h]; rfl
  rcases ad with ⟨⟨e2, he, rfl⟩, rfl⟩ | ⟨hn, pm⟩
  · refine ⟨fun j => ?_, Nat.le_succ_of_le g.2⟩
    rw [e, List.mem_append, g.1 j]
    refine ⟨.inl, fun z => z.elim id fun z => ?_⟩
    rw [List.mem_singleton.mp z]
    exact (g.1 _).1 he
  · refine ⟨fun j => ?_, by rw [pm.length_eq, List.length_cons]; exact Nat.succ_le_succ g.2⟩
    rw [e, List.mem_append, pm.mem_iff, List.mem_cons, g.1 j, List.mem_singleton]
    exact Or.comm
end
end DL
set_option Elab.async false
set_option linter.all false
set_option maxRecDepth 100000
set_option maxHeartbeats 4000000
namespace DL
open PySem PySem.Spec PyProof.Rows L2 PpSet
/-- a family of sets: how one stands in the heap, its members as values, what the heap says of a member, when two are one -/
structure Fam (ε : Type) where
  so : Addr → List ε → HO
  val : ε → V
  ok : Hp → ε → Prop
  eqv : ε → ε → Prop
end DL
set_option Elab.async false
set_option linter.all false
set_option maxRecDepth 100000
set_option maxHeartbeats 4000000
namespace DL
open PySem PySem.Spec PyProof.Rows L2
abbrev DTZ := Env → Ow → (List D → Ow → Prop) → Prop
/-- how the members of a family are data -/
structure DFam {ε : Type} (X : Cx) (K : Frag) (F : Fam ε) (isK : D → Prop) (dat : ε → D) : Prop where
  of : ∀ {Fz : Hp} {d : D} {v : V}, isK d → RV K Fz d v → ∃ e, dat e = d ∧ F.val e = v
  ok : ∀ {Fz Hz : Hp} {e : ε}, Same Fz Hz → RV K Fz (dat e) (F.val e) → F.ok Hz e
  eqv : ∀ {a b : ε}, F.eqv a b ↔ dat a = dat b
  nt : ∀ (p : Addr) (L : List ε), Nt p (F.so p L)
  isz : ∀ {H : Hp} {a : Addr} {L : List ε}, H a = some (F.so a L) → (∀ e ∈ L, F.ok H e) → IsZ X H a (L.map F.val)
def dKey (isK : D → Prop) (te : DTE) : DTE := fun env O q => te env O fun y O' => isK y ∧ q y O'
def dSc (isK : D → Prop) (wi : DTI) (g : DTG) (tt : DTT) (te : DTE) (vs : List Nat) : DTZ := fun env O q => wi env O fun xs Gd O1 => xs.length < 511 ∧ lcGo g tt (dKey isK te) Gd xs (wipeD env vs) O1 q
section
variable {X : Cx} {B : Bd} {ε : Type} {Fa : Fam ε} {isK : D → Prop} {dat : ε → D}
/-- the members so far -/
structure Mem (K : Frag) (F : Hp) (Fa : Fam ε) (dat : ε → D) (acc : List D) (L : List ε) : Prop where
  rv : ∀ e ∈ L, RV K F (dat e) (Fa.val e)
  nd : (L.map dat).Nodup
  mem : ∀ d, d ∈ L.map dat ↔ d ∈ acc
  len : L.length ≤ acc.length
theorem Mem.nil {K : Frag} {F : Hp} : Mem K F Fa dat [] [] := ⟨fun _ h => by simp at h, List.nodup_nil, fun d => by simp, Nat.le_refl _⟩
theorem Mem.mono {K : Frag} {F F' : Hp} {acc : List D} {L : List ε} (m : Mem K F Fa dat acc L) (s : Same F F') : Mem K F' Fa dat acc L := ⟨fun e he => (m.rv e he).mono s, m.nd, m.mem, m.len⟩
theorem Mem.add (DF : DFam X B.K Fa isK dat) {F : Hp} {acc : List D} {L L' : List ε} {e : ε} (m : Mem B.K F Fa dat acc L) (r : RV B.K F (dat e) (Fa.val e)) (ad : Adds Fa.eqv L e L') : Mem B.K F Fa dat (acc ++ [dat e]) L' := by
  rcases ad with ⟨⟨x, hx, ex⟩, rfl⟩ | ⟨hn, pm⟩
  · have ed := DF.eqv.mp ex
    refine ⟨m.rv, m.nd, fun d => ?_, by simp; have := m.len; omega⟩
    rw [List.mem_append, ← m.mem d, List.mem_singleton]
    exact ⟨.inl, fun z => z.elim id fun z => by rw [z, ← ed]; exact List.mem_map.mpr ⟨x, hx, rfl⟩⟩
  · have pm2 : (L'.map dat).Perm (dat e :: L.map dat) := pm.map dat
    have hne : dat e ∉ L.map dat := fun z => by
      obtain ⟨x, hx, ex⟩ := List.mem_map.mp z
      exact hn x hx (DF.eqv.mpr ex)
    refine ⟨fun x hx => ?_, pm2.nodup_iff.mpr (List.nodup_cons.mpr ⟨hne, m.nd⟩), fun d => ?_, by rw [pm.length_eq]; simp; exact m.len⟩
    · rcases List.mem_cons.mp (pm.mem_iff.mp hx) with rfl | h
      · exact r
      · exact m.rv x h
    · rw [pm2.mem_iff, List.mem_cons, m.mem d, List.mem_append, List.mem_singleton]
      exact Or.comm
variable {e : Expr} {t : DTZ} {p pos : Pos} {k : Nat} {wx : DW} {te : DTE}
def dLenZ (t : DTZ) : DTE := fun env O q => t env O fun ys O1 => ∀ zs : List D, zs.Nodup → (∀ d, d ∈ zs ↔ d ∈ ys) → q (.int (zs.length : Nat)) O1
def dSortZ (t : DTZ) : DTE := fun env O q => t env O fun ys O1 => ∀ zs : List D, zs.Nodup → (∀ d, d ∈ zs ↔ d ∈ ys) → pds zs = true ∧ PySem.W.AllAlike (zs.map py) ∧ PySem.W.Sortable (zs.map py) ∧ (∀ e ∈ zs, (py e).depth ≤ 64) ∧ q (.lst (srtD zs)) O1
/-- set(e), e a list of ints and texts -/
def dSetL (isK : D → Prop) (te : DTE) : DTZ := fun env O q => te env O fun d O1 => ∃ ds, asL O1 d = some ds ∧ (∀ x ∈ ds, isK x) ∧ ds.length < 511 ∧ q ds O1
def isKT : D → Prop
  | .tup ds => ∃ ns : List Int, ds = ns.map D.int
  | _ => False
/-- set(e), e a list of tuples of ints -/
def dSetLT (te : DTE) : DTZ := fun env O q => te env O fun d O1 => ∃ ds, asL O1 d = some ds ∧ (∀ x ∈ ds, isKT x) ∧ ds.length < 63 ∧ q ds O1
variable {env : Env} {O : Ow} {q : DQ}
theorem i_lenZ (h : t env O fun ys O1 => ∀ zs : List D, zs.Nodup → (∀ d, d ∈ zs ↔ d ∈ ys) → q (.int (zs.length : Nat)) O1) : dLenZ t env O q := h
theorem i_sortZ (h : t env O fun ys O1 => ∀ zs : List D, zs.Nodup → (∀ d, d ∈ zs ↔ d ∈ ys) → pds zs = true ∧ PySem.W.AllAlike (zs.map py) ∧ PySem.W.Sortable (zs.map py) ∧ (∀ e ∈ zs, (py e).depth ≤ 64) ∧ q (.lst (srtD zs)) O1) : dSortZ t env O q := h
theorem i_setL {isK : D → Prop} {qz : List D → Ow → Prop} (h : te env O fun d O1 => ∃ ds, asL O1 d = some ds ∧ (∀ x ∈ ds, isK x) ∧ ds.length < 511 ∧ qz ds O1) : dSetL isK te env O qz := h
theorem i_setLT {qz : List D → Ow → Prop} (h : te env O fun d O1 => ∃ ds, asL O1 d = some ds ∧ (∀ x ∈ ds, isKT x) ∧ ds.length < 63 ∧ qz ds O1) : dSetLT te env O qz := h
theorem i_sc {isK : D → Prop} {wi : DTI} {g : DTG} {tt : DTT} {vs : List Nat} {qz : List D → Ow → Prop} (h : wi env O fun xs Gd O1 => xs.length < 511 ∧ lcGo g tt (dKey isK te) Gd xs (wipeD env vs) O1 qz) : dSc isK wi g tt te vs env O qz := h
theorem i_key {isK : D → Prop} (h : te env O fun y O' => isK y ∧ q y O') : dKey isK te env O q := h
end
end DL
set_option Elab.async false
set_option linter.all false
set_option maxRecDepth 100000
set_option maxHeartbeats 4000000
namespace DL
open PySem PySem.Spec PyProof.Rows L2
section
variable {X : Cx} {B : Bd} {k : Nat} {wx : DW} {e : Expr} {te : DTE} {pos : Pos}
def dRevL (te : DTE) : DTE := fun env O q => te env O fun d O1 => ∃ ds, asL O1 d = some ds ∧ q (.lst ds.reverse) O1
theorem i_revL {env : Env} {O : Ow} {q : DQ} (h : te env O fun d O1 => ∃ ds, asL O1 d = some ds ∧ q (.lst ds.reverse) O1) : dRevL te env O q := h
end
end DL
set_option Elab.async false
set_option linter.all false
set_option maxRecDepth 100000
set_option maxHeartbeats 4000000
namespace DL
open PySem PySem.Spec PyProof.Rows L2 RZ
section
variable {X : Cx} {B : Bd} {k : Nat} {wx : DW} {e e2 : Expr} {ta tb : DTE} {tA : DTA} {pos p pos2 : Pos}
def zipD (as bs : List D) : List D := (as.zip bs).map fun p => .tup [p.1, p.2]
def diZip (tA : DTA) : DTI := fun env O q => tA env O fun ds O1 => match ds with
  | [x, y] => ∃ as bs, (x = .tup as ∧ y = .tup bs ∧ q (zipD as bs) (fun _ => True) O1) ∨ (asL O1 x = some as ∧ asL O1 y = some bs ∧ q (zipD as bs) (fun O' => gdL O1 x O' ∧ gdL O1 y O') O1)
  | _ => False
variable {env : Env} {O : Ow} {q : DQ}
theorem i_zip {qi : List D → (Ow → Prop) → Ow → Prop} (h : tA env O fun ds O1 => match ds with
  | [x, y] => ∃ as bs, (x = .tup as ∧ y = .tup bs ∧ qi (zipD as bs) (fun _ => True) O1) ∨ (asL O1 x = some as ∧ asL O1 y = some bs ∧ qi (zipD as bs) (fun O' => gdL O1 x O' ∧ gdL O1 y O') O1)
  | _ => False) : diZip tA env O qi := h
def dInRg1 (ta tb : DTE) : DTE := fun env O q => ta env O fun x O1 => tb env O1 fun y O2 => match x, y with
  | .int i, .int j => q (.bl (decide (0 ≤ i ∧ i < j))) O2
  | _, _ => False
def dInRg2 (ta : DTE) (tA : DTA) : DTE := fun env O q => ta env O fun x O1 => tA env O1 fun ds O2 => match x, ds with
  | .int i, [.int lo, .int hi] => q (.bl (decide (lo ≤ i ∧ i < hi))) O2
  | _, _ => False
theorem i_inRg1 (h : ta env O fun x O1 => tb env O1 fun y O2 => match x, y with
  | .int i, .int j => q (.bl (decide (0 ≤ i ∧ i < j))) O2
  | _, _ => False) : dInRg1 ta tb env O q := h
theorem i_inRg2 (h : ta env O fun x O1 => tA env O1 fun ds O2 => match x, ds with
  | .int i, [.int lo, .int hi] => q (.bl (decide (lo ≤ i ∧ i < hi))) O2
  | _, _ => False) : dInRg2 ta tA env O q := h
def dRevA (te : DTE) : DTE := fun env O q => te env O fun d O1 => match d with
  | .tup ds => q (.tup ds.reverse) O1
  | d => ∃ ds, asL O1 d = some ds ∧ q (.lst ds.reverse) O1
theorem i_revT (h : ta env O fun d O1 => match d with
  | .tup ds => q (.tup ds.reverse) O1
  | d => ∃ ds, asL O1 d = some ds ∧ q (.lst ds.reverse) O1) : dRevA ta env O q := h
def dListRg1O (ta : DTE) : DTE := fun env O q => ta env O fun d O1 => match d with | .int j => RgOk 0 j ∧ ∀ p, O1 p = none → q (.ref p) (setO O1 p (.lst (rgD 0 j))) | _ => False
theorem i_listRg1O (h : ta env O fun d O1 => match d with | .int j => RgOk 0 j ∧ ∀ p, O1 p = none → q (.ref p) (setO O1 p (.lst (rgD 0 j))) | _ => False) : dListRg1O ta env O q := h
def dLtA : DR2 := fun x y O q => match x, y with
  | .int i, .int j => q (.bl (decide (i < j))) O
  | .str i, .str j => q (.bl (decide (i.cps.toList < j.cps.toList))) O
  | _, _ => False
theorem i_ltAI {i j : Int} (h : q (.bl (decide (i < j))) O) : dLtA (.int i) (.int j) O q := h
theorem i_ltAS {i j : Str} (h : q (.bl (decide (i.cps.toList < j.cps.toList))) O) : dLtA (.str i) (.str j) O q := h
end
end DL
set_option Elab.async false
set_option linter.all false
set_option maxRecDepth 100000
set_option maxHeartbeats 4000000
namespace PySem.OEB
open PySem.W PySem.Calls PyProof.Rows PySem.HandSPX
/-- what is asked of a class behind its own entry in its mro -/
structure Tail (B : String) (bm : List Value) : Prop where
  b : bm.contains (.type B) = true
  a : bm.contains (.type "AttributeError") = false
  n : bm.contains (.type "NameError") = false
theorem Tail.cons {B : String} {bm : List Value} (h : Tail B bm) (C : Addr) : Tail B (.ref C :: bm) := by
  obtain ⟨b, a, n⟩ := h
  exact ⟨by rw [List.contains_cons, b, Bool.or_true], by rw [List.contains_cons, a]; rfl, by rw [List.contains_cons, n]; rfl⟩
end PySem.OEB
set_option Elab.async false
set_option linter.all false
set_option maxRecDepth 100000
set_option maxHeartbeats 4000000
namespace PySem
end PySem
namespace L2
open PySem PySem.Spec PyProof.Rows
end L2
namespace DL
open PySem PySem.Spec PyProof.Rows L2
end DL
set_option Elab.async false
set_option linter.all false
set_option maxRecDepth 100000
set_option maxHeartbeats 4000000
namespace DL
open PySem PySem.Spec PyProof.Rows L2
section
variable {X : Cx} {B : Bd} {pos p apos : Pos} {k : Nat} {wx : DW} {a e : Expr} {to : DTE} {tA : DTA} {env : Env} {O : Ow} {q : DQ}
def ixK2 (p : Addr) (q : DQ) : List D → Ow → Prop := fun ds O2 => match ds with
  | [y] => ∃ d zs, ∃ (j : Nat) (z : PyData), asP O2 (.ref p) = some (.list zs) ∧ asP O2 y = some d ∧ SeqAt.shaped (.list zs) = true ∧ SeqAt.shaped d = true ∧ zs[j]? = some z ∧ PyData.eqv z d = true ∧ (∀ (m : Nat) (z' : PyData), m < j → zs[m]? = some z' → PyData.eqv z' d = false) ∧ q (.int (j : Nat)) O2
  | _ => False
def ixK (tA : DTA) (env : Env) (q : DQ) : DQ := fun x O1 => match x with
  | .ref p => ∃ es, O1 p = some (.lst es) ∧ tA env O1 (ixK2 p q)
  | _ => False
def dIdxO (to : DTE) (tA : DTA) : DTE := fun env O q => to env O (ixK tA env q)
theorem so_idxO (S : Site X B k wx) (ho : PE X a (lift B to)) (ha : PA X [e] (liftA B tA)) (hbase : attributeBase a "index" X.env (eval a X.env) = eval a X.env := by rfl)
    (hfew : ((backTo pos (starEach [e] X.env)).all (fun x => !x.1) && (backToKw pos (keywordEach [] X.env)).all (fun x => x.1.isSome) && decide ([e].length + ([] : List Keyword).length + (if ([] : List Keyword).isEmpty then 0 else 1) < 30)) = true := by rfl)
    (hline : (apos.endLine == pos.line) = true := by rfl) (hs : starEach [e] X.env = (false, eval e X.env) :: starEach [] X.env := by rfl) (hplain : (backTo pos (starEach [] X.env)).any (·.1) = false := by rfl) : PE X (.Call (.Attribute a "index" apos) [e] [] pos) (lift B (dIdxO to tA)) :=
  PE.weak (pe_bm PySem.F.plainAttrs_list PySem.F.slot_list_index PySem.F.type_list_index (mt_indexD S.u65) ho ha hbase hfew hline hs hplain) fun σ H Q h => by
    obtain ⟨env, O, F, q, R, h, kk⟩ := h
    refine ⟨env, O, F, _, R, h, fun x v O1 H1 F1 a1 r1 h1 => ?_⟩
    cases x <;> try exact h1.elim
    rename_i p
    cases r1
    obtain ⟨es, e1, h1⟩ := h1
    obtain ⟨_, ho, e2, vs, rfl, rr⟩ := a1.ow p _ e1
    have R1 := R.call a1
    refine ⟨.inl ⟨rfl, vs, SqL.of e2⟩, env, O1, F1, _, R1, h1, fun ds us O2 H2 F2 a2 r2 h2 => ?_⟩
    match ds, r2, h2 with
    | [y], r2, ⟨d, zs, j, z, g1, g2, g3, g4, g5, g6, g7, g8⟩ =>
      obtain ⟨u, rfl, ru⟩ := r2.one
      exact ⟨p, u, d, zs, j, z, rfl, rfl, by rw [S.hK]; exact asP_dp a2.fh a2.ow (.ref p) g1, by rw [S.hK]; exact asP_dp a2.fh a2.ow ru g2, g3, g4, g5, g6, g7, kk _ _ _ _ F2 (a1.trans a2) (.int _) g8⟩
theorem i_idxO (h : to env O (ixK tA env q)) : dIdxO to tA env O q := h
theorem i_ixK {pp : Addr} {es : List D} (hp : O pp = some (.lst es)) (h : tA env O (ixK2 pp q)) : ixK tA env q (.ref pp) O := ⟨es, hp, h⟩
theorem asP_own {pp : Addr} {es : List D} (hp : O pp = some (.lst es)) (h : pds es = true) : asP O (.ref pp) = some (.list (pys es)) := by
  simp only [asP, hp, h, if_true]
end
end DL
set_option Elab.async false
set_option linter.all false
set_option maxRecDepth 100000
set_option maxHeartbeats 4000000
namespace DL
open PySem PySem.Spec PyProof.Rows L2
end DL
set_option Elab.async false
set_option linter.all false
set_option maxRecDepth 100000
set_option maxHeartbeats 4000000
namespace DL
open PySem PySem.Spec PyProof.Rows L2
end DL
namespace DL
open PySem PySem.Spec PyProof.Rows L2
section
variable {X : Cx} {B : Bd} {pos p : Pos} {k : Nat} {wx : DW} {e1 e2 : Expr} {ty tv : DTE}
def dDict1 (w : World) (ty tv : DTE) : DTE := fun env O q => ∀ p, O p = none → ty env (setO O p (.dN w [])) fun y O1 => tv env O1 fun v O2 => ∃ n ds, O2 p = some (.dN w []) ∧ y = .tup ds ∧ nkey y = some n ∧ n.depth ≤ 8 ∧ q (.ref p) (setO O2 p (.dN w [(y, v)]))
theorem i_dict1 {w : World} {env : Env} {O : Ow} {q : DQ} (h : ∀ p, O p = none → ty env (setO O p (.dN w [])) fun y O1 => tv env O1 fun v O2 => ∃ n ds, O2 p = some (.dN w []) ∧ y = .tup ds ∧ nkey y = some n ∧ n.depth ≤ 8 ∧ q (.ref p) (setO O2 p (.dN w [(y, v)]))) : dDict1 w ty tv env O q := h
end
end DL
set_option Elab.async false
set_option linter.all false
set_option maxRecDepth 100000
set_option maxHeartbeats 4000000
namespace DL
open PySem PySem.Spec PyProof.Rows L2
def bits (w : List Int) : Prop := ∀ b ∈ w, b = 0 ∨ b = 1
/-- the place of a word in the order: shorter ones first, then ascending -/
def code (w : List Int) : Int := w.foldl (fun c b => 2 * c + b) 1
theorem code_snoc (w : List Int) (b : Int) : code (w ++ [b]) = 2 * code w + b := by simp [code]
theorem bits_snoc {w : List Int} {b : Int} : bits (w ++ [b]) ↔ bits w ∧ (b = 0 ∨ b = 1) := by
  unfold bits
  constructor
  · intro h
    exact ⟨fun x hx => h x (by simp [hx]), h b (by simp)⟩
  · rintro ⟨h1, h2⟩ x hx
    rcases List.mem_append.mp hx with h | h
    · exact h1 x h
    · rw [List.mem_singleton.mp h]; exact h2
theorem bits_nil : bits [] := fun b h => by cases h
theorem rev_ind {P : List Int → Prop} (h0 : P []) (hs : ∀ w b, P w → P (w ++ [b])) : ∀ w, P w := by
  intro w
  have : ∀ n (w : List Int), w.length = n → P w := by
    intro n
    induction n with
    | zero => intro w hw; rw [List.length_eq_zero_iff.mp hw]; exact h0
    | succ n ih =>
      intro w hw
      have hne : w ≠ [] := fun z => by rw [z] at hw; cases hw
      rw [← List.dropLast_concat_getLast hne]
      exact hs _ _ (ih _ (by rw [List.length_dropLast]; omega))
  exact this _ w rfl
section
variable {σ κ : Type} (f : Nat → σ) (N : Nat) (W : σ → Prop) (st : σ → Int → σ) (obs : σ → List Int → κ)
def eqk (k : Nat) (x y : σ) : Prop := ∀ w, bits w → w.length ≤ k → obs x w = obs y w
variable {f N W st obs}
end
end DL
set_option Elab.async false
set_option linter.all false
set_option maxRecDepth 100000
set_option maxHeartbeats 4000000
namespace DL
open PySem PySem.Spec PyProof.Rows L2
def nxD (rs : List D) (pl : D) (b : Int) : D := match pl with
  | .int i => (match rs[i.toNat]? with
    | some (.tup [_, p, q]) => if b = 0 then p else q
    | _ => pl)
  | d => d
def runD (rs : List D) (pl : D) (w : List Int) : D := w.foldl (nxD rs) pl
def put0 (rs : List D) (i : Int) : D := match rs[i.toNat]? with
  | some (.tup (b :: _)) => b
  | _ => .non
/-- what is shown at a place: a bit or a word -/
def seeD (rs : List D) : D → D
  | .int i => put0 rs i
  | d => d
theorem runD_snoc (rs : List D) (pl : D) (w : List Int) (b : Int) : runD rs pl (w ++ [b]) = nxD rs (runD rs pl w) b := by simp [runD]
section
variable {ws : List Str} {rs : List D} {pl : D}
theorem row_at (hm : Mach ws rs) {i : Int} (h0 : 0 ≤ i) (h1 : i < rs.length) : ∃ b p q, rs[i.toNat]? = some (.tup [.int b, p, q]) ∧ (b = 0 ∨ b = 1) ∧ plB rs.length ws p = true ∧ plB rs.length ws q = true ∧ atI rs i = some (.tup [.int b, p, q]) := by
  obtain ⟨r, hr, e⟩ := atI_in (ds := rs) h0 h1
  obtain ⟨b, p, q, rfl, hb, h2, h3⟩ := rowB_cases (hm r (List.mem_of_getElem? hr))
  exact ⟨b, p, q, hr, hb, h2, h3, e⟩
theorem nx_pl (hm : Mach ws rs) (h : plB rs.length ws pl = true) (b : Int) : plB rs.length ws (nxD rs pl b) = true := by
  rcases plB_cases h with ⟨i, rfl, h0, h1⟩ | ⟨t, rfl, ht⟩
  · obtain ⟨c, p, q, e, _, h2, h3, _⟩ := row_at hm h0 h1
    simp only [nxD, e]
    split
    · exact h2
    · exact h3
  · exact h
theorem run_pl (hm : Mach ws rs) (h : plB rs.length ws pl = true) : ∀ w, plB rs.length ws (runD rs pl w) = true := by
  refine rev_ind h fun w b ih => ?_
  rw [runD_snoc]
  exact nx_pl hm ih b
theorem see_row (hm : Mach ws rs) {i : Int} (h0 : 0 ≤ i) (h1 : i < rs.length) : ∃ b, seeD rs (.int i) = .int b ∧ (b = 0 ∨ b = 1) := by
  obtain ⟨b, p, q, e, hb, _⟩ := row_at hm h0 h1
  exact ⟨b, by simp only [seeD, put0, e], hb⟩
end
theorem nd_len {α : Type} : ∀ {l L : List α}, l.Nodup → (∀ x ∈ l, x ∈ L) → l.length ≤ L.length
  | [], _, _, _ => Nat.zero_le _
  | a :: l, L, hn, h => by
    obtain ⟨h1, h2⟩ := List.nodup_cons.mp hn
    obtain ⟨s, t, e⟩ := List.append_of_mem (h a List.mem_cons_self)
    have := nd_len (l := l) (L := s ++ t) h2 fun x hx => by
      have := h x (List.mem_cons_of_mem _ hx)
      rw [e] at this
      rcases List.mem_append.mp this with z | z
      · exact List.mem_append_left _ z
      · rcases List.mem_cons.mp z with rfl | z
        · exact absurd hx h1
        · exact List.mem_append_right _ z
    simp only [e, List.length_append, List.length_cons] at this ⊢
    omega
def plAll (n : Nat) (ws : List Str) : List D := (List.range n).map (fun i => D.int (i : Nat)) ++ ws.map D.str
theorem plAll_mem {n : Nat} {ws : List Str} {d : D} (h : plB n ws d = true) : d ∈ plAll n ws := by
  rcases plB_cases h with ⟨i, rfl, h0, h1⟩ | ⟨s, rfl, hs⟩
  · refine List.mem_append_left _ (List.mem_map.mpr ⟨i.toNat, List.mem_range.mpr (by omega), ?_⟩)
    rw [show ((i.toNat : Nat) : Int) = i by omega]
  · exact List.mem_append_right _ (List.mem_map_of_mem hs)
theorem plAll_len (n : Nat) (ws : List Str) : (plAll n ws).length = n + ws.length := by simp [plAll]
abbrev Ent := D × D × List Int
structure Bf (A B : List D) (f g : D) (es : List Ent) (n : Nat) (i : Int) : Prop where
  run : ∀ e ∈ es, e.1 = runD A f e.2.2 ∧ e.2.1 = runD B g e.2.2 ∧ bits e.2.2
  nd : (es.map fun e => (e.1, e.2.1)).Nodup
  ln : ∀ e ∈ es, e.2.2.length ≤ es.length
  root : es[0]? = some (f, g, [])
  srt : es.Pairwise fun a b => code a.2.2 < code b.2.2
  bnd : ∀ c, es[n]? = some c → ∀ e ∈ es, code e.2.2 < 2 * code c.2.2 + i
  old : ∀ (k : Nat) (e : Ent), k < n → es[k]? = some e → seeD A e.1 = seeD B e.2.1 ∧ (isRw e.1 = true → ∀ b, (b = 0 ∨ b = 1) → ∃ e' ∈ es, e'.1 = nxD A e.1 b ∧ e'.2.1 = nxD B e.2.1 b ∧ code e'.2.2 ≤ 2 * code e.2.2 + b)
  now : ∀ c, es[n]? = some c → isRw c.1 = true → ∀ b, (b = 0 ∨ b = 1) → b < i → ∃ e' ∈ es, e'.1 = nxD A c.1 b ∧ e'.2.1 = nxD B c.2.1 b ∧ code e'.2.2 ≤ 2 * code c.2.2 + b
section
variable {ws : List Str} {A B : List D} {f g : D} {es : List Ent} {n : Nat} {i : Int}
theorem Bf.start : Bf A B f g [(f, g, [])] 0 0 := by
  refine ⟨fun e he => ?_, (by simp), fun e he => (by rw [List.mem_singleton.mp he]; simp), rfl, List.pairwise_singleton _ _, fun c hc e he => ?_, fun k e h => absurd h (Nat.not_lt_zero _), fun c hc hr b hb hi => ?_⟩
  · rw [List.mem_singleton.mp he]; exact ⟨rfl, rfl, bits_nil⟩
  · cases hc
    rw [List.mem_singleton.mp he]
    simp [code]
  · omega
theorem Bf.skip {c : Ent} (h : Bf A B f g es n i) (hc : es[n]? = some c) (hr : isRw c.1 = false) : Bf A B f g es n (i + 1) :=
  ⟨h.run, h.nd, h.ln, h.root, h.srt, fun c' hc' e he => by have := h.bnd c' hc' e he; omega, h.old, fun c' hc' hr' => by rw [hc] at hc'; cases hc'; rw [hr] at hr'; cases hr'⟩
theorem Bf.fresh {c : Ent} (h : Bf A B f g es n i) (hi : i = 0 ∨ i = 1) (hc : es[n]? = some c) (hno : ∀ e ∈ es, ¬ (e.1 = nxD A c.1 i ∧ e.2.1 = nxD B c.2.1 i)) : Bf A B f g (es ++ [(nxD A c.1 i, nxD B c.2.1 i, c.2.2 ++ [i])]) n (i + 1) := by
  have hn : n < es.length := (List.getElem?_eq_some_iff.mp hc).1
  obtain ⟨c1, c2, c3⟩ := h.run c (List.mem_of_getElem? hc)
  have ec : code (c.2.2 ++ [i]) = 2 * code c.2.2 + i := code_snoc _ _
  have at_ : ∀ {k : Nat} {e : Ent}, k ≤ n → (es ++ [(nxD A c.1 i, nxD B c.2.1 i, c.2.2 ++ [i])])[k]? = some e → es[k]? = some e := fun {k e} hk he => by
    rwa [List.getElem?_append_left (by omega)] at he
  refine ⟨fun e he => ?_, ?_, fun e he => ?_, ?_, ?_, fun c' hc' e he => ?_, fun k e hk he => ?_, fun c' hc' hr b hb hlt => ?_⟩
  · rcases List.mem_append.mp he with he | he
    · exact h.run e he
    · rw [List.mem_singleton.mp he]
      exact ⟨by rw [runD_snoc, ← c1], by rw [runD_snoc, ← c2], bits_snoc.mpr ⟨c3, hi⟩⟩
  · rw [List.map_append, List.nodup_append]
    refine ⟨h.nd, (by simp), fun x hx y hy => ?_⟩
    obtain ⟨e, he, rfl⟩ := List.mem_map.mp hx
    simp only [List.map_cons, List.map_nil, List.mem_singleton] at hy
    subst hy
    intro z
    injection z with z1 z2
    exact hno e he ⟨z1, z2⟩
  · rw [List.length_append, List.length_singleton]
    rcases List.mem_append.mp he with he | he
    · have := h.ln e he
      omega
    · have := h.ln c (List.mem_of_getElem? hc)
      rw [List.mem_singleton.mp he]
      simp only [List.length_append, List.length_singleton]
      omega
  · rw [List.getElem?_append_left (by omega)]; exact h.root
  · rw [List.pairwise_append]
    refine ⟨h.srt, List.pairwise_singleton _ _, fun x hx y hy => ?_⟩
    rw [List.mem_singleton.mp hy]
    show code x.2.2 < code (c.2.2 ++ [i])
    rw [ec]
    exact h.bnd c hc x hx
  · have hc2 := at_ (Nat.le_refl _) hc'
    rw [hc] at hc2
    cases hc2
    rcases List.mem_append.mp he with he | he
    · have := h.bnd c hc e he
      omega
    · rw [List.mem_singleton.mp he]
      show code (c.2.2 ++ [i]) < _
      omega
  · have he2 := at_ (by omega) he
    obtain ⟨o1, o2⟩ := h.old k e hk he2
    refine ⟨o1, fun hr b hb => ?_⟩
    obtain ⟨e', he', r⟩ := o2 hr b hb
    exact ⟨e', List.mem_append_left _ he', r⟩
  · have hc2 := at_ (Nat.le_refl _) hc'
    rw [hc] at hc2
    cases hc2
    by_cases hbi : b = i
    · subst hbi
      exact ⟨_, List.mem_append_right _ (List.mem_singleton_self _), rfl, rfl, Int.le_of_eq ec⟩
    · obtain ⟨e', he', r⟩ := h.now c hc hr b hb (by omega)
      exact ⟨e', List.mem_append_left _ he', r⟩
theorem Bf.step {c : Ent} (h : Bf A B f g es n 2) (hc : es[n]? = some c) (he : seeD A c.1 = seeD B c.2.1) : Bf A B f g es (n + 1) 0 := by
  refine ⟨h.run, h.nd, h.ln, h.root, h.srt, fun c' hc' e hm => ?_, fun k e hk hek => ?_, fun c' hc' hr b hb hlt => by omega⟩
  · have h1 := h.bnd c hc e hm
    obtain ⟨hn, e1⟩ := List.getElem?_eq_some_iff.mp hc
    obtain ⟨hn', e2⟩ := List.getElem?_eq_some_iff.mp hc'
    have := (List.pairwise_iff_getElem.mp h.srt) n (n + 1) hn hn' (by omega)
    rw [e1, e2] at this
    omega
  · rcases Nat.lt_succ_iff_lt_or_eq.mp hk with z | rfl
    · exact h.old k e z hek
    · rw [hc] at hek
      cases hek
      exact ⟨he, fun hr b hb => h.now c hc hr b hb (by omega)⟩
theorem Bf.few (hA : Mach ws A) (hB : Mach ws B) (hf : plB A.length ws f = true) (hg : plB B.length ws g = true) (h : Bf A B f g es n i) : es.length ≤ (A.length + ws.length) * (B.length + ws.length) := by
  have e : ∀ (l m : List D), (l.flatMap fun x => m.map fun y => (x, y)).length = l.length * m.length := by
    intro l m
    induction l with
    | nil => simp
    | cons a l ih => rw [List.flatMap_cons, List.length_append, ih, List.length_map, List.length_cons, Nat.add_mul]; omega
  have := nd_len (L := (plAll A.length ws).flatMap fun x => (plAll B.length ws).map fun y => (x, y)) h.nd fun x hx => by
    obtain ⟨c, hc, rfl⟩ := List.mem_map.mp hx
    obtain ⟨c1, c2, _⟩ := h.run c hc
    refine List.mem_flatMap.mpr ⟨c.1, plAll_mem (by rw [c1]; exact run_pl hA hf _), List.mem_map.mpr ⟨c.2.1, plAll_mem (by rw [c2]; exact run_pl hB hg _), rfl⟩⟩
  rw [List.length_map, e, plAll_len, plAll_len] at this
  exact this
end
end DL
set_option Elab.async false
set_option linter.all false
set_option maxRecDepth 100000
set_option maxHeartbeats 4000000
namespace DL
open PySem PySem.Spec PyProof.Rows L2
section
variable {X : Cx} {B : Bd} {pos : Pos} {k : Nat} {wx : DW} {a b c d : Expr} {ta tb tc td : DTE}
def disK (p : Addr) (x y x2 : D) (q : DQ) : DQ := fun y2 O4 => ∃ k1 k2, O4 p = some (.dK []) ∧ keyD x = some k1 ∧ keyD x2 = some k2 ∧ q (.ref p) (setO O4 p (.dK (putKD (putKD [] k1 y) k2 y2)))
def dDisp2 (ta tb tc td : DTE) : DTE := fun env O q => ∀ p, O p = none → ta env (setO O p (.dK [])) fun x O1 => tb env O1 fun y O2 => tc env O2 fun x2 O3 => td env O3 (disK p x y x2 q)
theorem i_disp2 {env : Env} {O : Ow} {q : DQ} (h : ∀ p, O p = none → ta env (setO O p (.dK [])) fun x O1 => tb env O1 fun y O2 => tc env O2 fun x2 O3 => td env O3 (disK p x y x2 q)) : dDisp2 ta tb tc td env O q := h
end
end DL
set_option Elab.async false
set_option linter.all false
set_option maxRecDepth 100000
set_option maxHeartbeats 4000000
namespace DL
open PySem PySem.Spec PyProof.Rows L2
end DL
set_option Elab.async false
set_option linter.all false
set_option maxRecDepth 100000
set_option maxHeartbeats 4000000
namespace DL
open PySem PySem.Spec PyProof.Rows L2
section
variable {X : Cx} {B : Bd} {pos p apos cpos : Pos} {k : Nat} {wx : DW} {o e f : Expr} {td ty tx : DTE} {tA : DTA}
def sdK2 (w : World) (p : Addr) (y : D) (q : DQ) : DQ := fun z O3 => ∃ r, Look w O3 p y r ∧ (∀ v, r = some v → (∃ o, Stor w O3 p y z o) ∧ q v O3) ∧ (r = none → ∃ o, Stor w O3 p y z o ∧ q z (setO O3 p o))
def sdK (w : World) (ty tx : DTE) (env : Env) (q : DQ) : DQ := fun x O1 => ∃ p, x = .ref p ∧ IsDct w O1 p ∧ ty env O1 fun y O2 => tx env O2 (sdK2 w p y q)
def dSetd (w : World) (td ty tx : DTE) : DTE := fun env O q => td env O (sdK w ty tx env q)
end
section
variable {w : World} {O : Ow} {q : DQ} {p : Addr} {y v : D} {kvs : List (Key × D)} {kvn : List (D × D)} {k : Key} {n : NestedKey} {env : Env} {td ty tx : DTE} {ds : List D}
theorem i_setd (h : td env O (sdK w ty tx env q)) : dSetd w td ty tx env O q := h
end
end DL
set_option Elab.async false
set_option linter.all false
set_option maxRecDepth 100000
set_option maxHeartbeats 4000000
namespace DL
open PySem PySem.Spec PyProof.Rows L2
section
variable {ws : List Str} {A : List D}
abbrev fR (i : Nat) : D := .int (i : Nat)
abbrev oR (A : List D) (x : D) (u : List Int) : D := seeD A (runD A x u)
theorem oR_cons (A : List D) (x : D) (b : Int) (u : List Int) : oR A x (b :: u) = oR A (nxD A x b) u := rfl
/-- whether two rows show the same behind all bits -/
def Same (A : List D) (i j : Nat) : Prop := ∀ u, bits u → oR A (fR i) u = oR A (fR j) u
structure KInv (A : List D) (t : Nat) (ks : List Int) : Prop where
  len : ks.length = A.length
  eq : ∀ i j, i < A.length → j < A.length → (ks[i]? = ks[j]? ↔ eqk (oR A) t (fR i) (fR j))
theorem KInv.start (hm : Mach ws A) {ks : List Int} (hl : ks.length = A.length) (h : ∀ i, i < A.length → ∃ b, ks[i]? = some b ∧ seeD A (fR i) = .int b) : KInv A 0 ks := by
  refine ⟨hl, fun i j hi hj => ?_⟩
  obtain ⟨b, e, es⟩ := h i hi
  obtain ⟨c, e', es'⟩ := h j hj
  rw [e, e']
  constructor
  · intro z
    cases z
    intro u hu hl
    rw [List.length_eq_zero_iff.mp (Nat.le_zero.mp hl)]
    show seeD A (fR i) = seeD A (fR j)
    rw [es, es']
  · intro z
    have : seeD A (fR i) = seeD A (fR j) := z [] bits_nil (Nat.le_refl _)
    rw [es, es'] at this
    cases this; rfl
end
end DL
set_option Elab.async false
set_option linter.all false
set_option maxRecDepth 100000
set_option maxHeartbeats 4000000
namespace DL
open PySem PySem.Spec PyProof.Rows L2
def addP (sm : Nat → Nat → Bool) (kept : List Nat) : D → List Nat
  | .int c => if kept.any (fun k => sm k c.toNat) = true then kept else kept ++ [c.toNat]
  | _ => kept
def rowP (A : List D) (sm : Nat → Nat → Bool) (kept : List Nat) (k : Nat) : List Nat := match A[k]? with
  | some (.tup [_, p, q]) => addP sm (addP sm kept p) q
  | _ => kept
/-- the rows that are kept, from the first ones on -/
def lkP (A : List D) (sm : Nat → Nat → Bool) : Nat → List Nat → Nat → List Nat
  | 0, kept, _ => kept
  | f + 1, kept, a => match kept[a]? with
    | some k => lkP A sm f (rowP A sm kept k) (a + 1)
    | none => kept
def keptP (A : List D) (sm : Nat → Nat → Bool) (n : Nat) : List Nat := lkP A sm (A.length + 1) (List.range n) 0
def SmOk' (A : List D) (sm : Nat → Nat → Bool) : Prop := ∀ i j, i < A.length → j < A.length → (sm i j = true ↔ Same A i j)
/-- a place that is covered -/
def Cov (sm : Nat → Nat → Bool) (kept : List Nat) (d : D) : Prop := ∀ c, d = .int c → kept.any (fun k => sm k c.toNat) = true
structure Kp (A : List D) (sm : Nat → Nat → Bool) (kept : List Nat) (a : Nat) : Prop where
  nd : kept.Nodup
  lt : ∀ k ∈ kept, k < A.length
  at_ : a ≤ kept.length
  cl : ∀ (i k : Nat), i < a → kept[i]? = some k → ∀ b p q, A[k]? = some (.tup [b, p, q]) → Cov sm kept p ∧ Cov sm kept q
section
variable {ws : List Str} {A : List D} {sm : Nat → Nat → Bool} {kept : List Nat}
theorem addP_pre (d : D) : ∃ t, addP sm kept d = kept ++ t := by
  unfold addP
  split
  · split
    · exact ⟨[], by simp⟩
    · exact ⟨_, rfl⟩
  · exact ⟨[], by simp⟩
theorem any_pre {t : List Nat} {f : Nat → Bool} (h : kept.any f = true) : (kept ++ t).any f = true := by rw [List.any_append, h]; rfl
theorem Cov.pre {t : List Nat} {d : D} (h : Cov sm kept d) : Cov sm (kept ++ t) d := fun c e => any_pre (h c e)
theorem same_refl (i : Nat) : Same A i i := fun _ _ => rfl
theorem addP_cov (hs : SmOk' A sm) {d : D} (hd : plB A.length ws d = true) : Cov sm (addP sm kept d) d := by
  rintro c rfl
  unfold addP
  dsimp only
  split
  · assumption
  · rw [List.any_append, List.any_cons]
    rcases plB_cases hd with ⟨i, e, h0, h1⟩ | ⟨s, e, _⟩
    · cases e
      rw [(hs c.toNat c.toNat (by omega) (by omega)).mpr (same_refl _)]
      simp
    · cases e
theorem addP_ok (hs : SmOk' A sm) {d : D} (hd : plB A.length ws d = true) (hn : kept.Nodup) (hl : ∀ k ∈ kept, k < A.length) : (addP sm kept d).Nodup ∧ ∀ k ∈ addP sm kept d, k < A.length := by
  rcases plB_cases hd with ⟨i, rfl, h0, h1⟩ | ⟨s, rfl, _⟩
  · unfold addP
    dsimp only
    split
    · exact ⟨hn, hl⟩
    · rename_i hno
      refine ⟨?_, fun k hk => ?_⟩
      · rw [List.nodup_append]
        refine ⟨hn, by simp, fun x hx y hy => ?_⟩
        rw [List.mem_singleton.mp hy]
        rintro rfl
        refine hno (List.any_eq_true.mpr ⟨_, hx, (hs _ _ (by omega) (by omega)).mpr (same_refl _)⟩)
      · rcases List.mem_append.mp hk with hk | hk
        · exact hl k hk
        · rw [List.mem_singleton.mp hk]; omega
  · exact ⟨hn, hl⟩
theorem Kp.few {a : Nat} (h : Kp A sm kept a) : kept.length ≤ A.length := by
  have := nd_len (L := List.range A.length) h.nd fun k hk => List.mem_range.mpr (h.lt k hk)
  rwa [List.length_range] at this
theorem rowP_eq (k : Nat) {b p q : D} (e : A[k]? = some (.tup [b, p, q])) : rowP A sm kept k = addP sm (addP sm kept p) q := by simp only [rowP, e]
theorem Kp.step (hm : Mach ws A) (hs : SmOk' A sm) {a k : Nat} (h : Kp A sm kept a) (hk : kept[a]? = some k) : Kp A sm (rowP A sm kept k) (a + 1) := by
  have hkl := h.lt k (List.mem_of_getElem? hk)
  obtain ⟨b, p, q, e, _, hp, hq, _⟩ := row_at hm (i := (k : Int)) (by omega) (by omega)
  rw [Int.toNat_natCast] at e
  rw [rowP_eq k e]
  obtain ⟨n1, l1⟩ := addP_ok hs hp h.nd h.lt
  obtain ⟨n2, l2⟩ := addP_ok hs hq n1 l1
  obtain ⟨t1, e1⟩ := addP_pre (sm := sm) (kept := kept) p
  obtain ⟨t2, e2⟩ := addP_pre (sm := sm) (kept := addP sm kept p) q
  have alen := (List.getElem?_eq_some_iff.mp hk).1
  have epre : addP sm (addP sm kept p) q = kept ++ (t1 ++ t2) := by rw [e2, e1, List.append_assoc]
  refine ⟨n2, l2, by rw [epre, List.length_append]; omega, fun i k' hi hk' b' p' q' e' => ?_⟩
  rw [epre, List.getElem?_append_left (by omega)] at hk'
  rcases Nat.lt_succ_iff_lt_or_eq.mp hi with z | rfl
  · obtain ⟨c1, c2⟩ := h.cl i k' z hk' b' p' q' e'
    rw [epre]
    exact ⟨c1.pre, c2.pre⟩
  · rw [hk] at hk'
    cases hk'
    rw [e] at e'
    cases e'
    refine ⟨?_, addP_cov hs hq⟩
    rw [e2]
    exact (addP_cov hs hp).pre
theorem lk_step {f a k : Nat} (hk : kept[a]? = some k) : lkP A sm (f + 1) kept a = lkP A sm f (rowP A sm kept k) (a + 1) := by simp only [lkP, hk]
theorem lk_end {f a : Nat} (h : kept.length ≤ a) : lkP A sm f kept a = kept := by
  cases f with
  | zero => rfl
  | succ f => simp only [lkP, List.getElem?_eq_none h]
theorem Kp.run (hm : Mach ws A) (hs : SmOk' A sm) : ∀ (f : Nat) {kept : List Nat} {a : Nat}, Kp A sm kept a → A.length + 1 ≤ f + a → Kp A sm (lkP A sm f kept a) (lkP A sm f kept a).length ∧ ∃ t, lkP A sm f kept a = kept ++ t
  | 0, kept, a, h, hf => by
    have h1 := h.few
    have h2 := h.at_
    exact absurd hf (by omega)
  | f + 1, kept, a, h, hf => by
    by_cases hlt : a < kept.length
    · have hk : kept[a]? = some kept[a] := List.getElem?_eq_getElem hlt
      rw [lk_step hk]
      obtain ⟨r1, t, r2⟩ := Kp.run hm hs f (h.step hm hs hk) (by omega)
      refine ⟨r1, ?_⟩
      have hkl := h.lt _ (List.mem_of_getElem? hk)
      obtain ⟨b, p, q, e, _, hp, hq, _⟩ := row_at hm (i := ((kept[a] : Nat) : Int)) (by omega) (by omega)
      rw [Int.toNat_natCast] at e
      rw [rowP_eq _ e] at r2 ⊢
      obtain ⟨t1, e1⟩ := addP_pre (sm := sm) (kept := kept) p
      obtain ⟨t2, e2⟩ := addP_pre (sm := sm) (kept := addP sm kept p) q
      exact ⟨t1 ++ t2 ++ t, by rw [r2, e2, e1]; simp⟩
    · have ea : a = kept.length := by have := h.at_; omega
      rw [lk_end (by omega)]
      subst ea
      exact ⟨h, [], by simp⟩
theorem Kp.start {n : Nat} (hn : n ≤ A.length) : Kp A sm (List.range n) 0 :=
  ⟨List.nodup_range, fun k hk => by have := List.mem_range.mp hk; omega, Nat.zero_le _, fun i k h => absurd h (Nat.not_lt_zero _)⟩
end
end DL
set_option Elab.async false
set_option linter.all false
set_option maxRecDepth 100000
set_option maxHeartbeats 4000000
namespace DL
open PySem PySem.Spec PyProof.Rows L2
section
variable {X : Cx} {B : Bd} {pos apos : Pos} {k : Nat} {wx : DW} {a e : Expr} {to : DTE} {tA : DTA} {env : Env} {O : Ow} {q : DQ}
def ixL2 (es : List D) (q : DQ) : List D → Ow → Prop := fun ds O2 => match ds with
  | [y] => ∃ d zs, ∃ (j : Nat) (z : PyData), asP O2 (.lst es) = some (.list zs) ∧ asP O2 y = some d ∧ SeqAt.shaped (.list zs) = true ∧ SeqAt.shaped d = true ∧ zs[j]? = some z ∧ PyData.eqv z d = true ∧ (∀ (m : Nat) (z' : PyData), m < j → zs[m]? = some z' → PyData.eqv z' d = false) ∧ q (.int (j : Nat)) O2
  | _ => False
def ixL (tA : DTA) (env : Env) (q : DQ) : DQ := fun x O1 => match x with
  | .lst es => tA env O1 (ixL2 es q)
  | _ => False
def dIdxL (to : DTE) (tA : DTA) : DTE := fun env O q => to env O (ixL tA env q)
theorem i_idxL (h : to env O (ixL tA env q)) : dIdxL to tA env O q := h
theorem i_ixLK {es : List D} (h : tA env O (ixL2 es q)) : ixL tA env q (.lst es) O := h
end
end DL
set_option Elab.async false
set_option linter.all false
set_option maxRecDepth 100000
set_option maxHeartbeats 4000000
namespace DL
open PySem PySem.Spec PyProof.Rows L2
/-- places of two machines that show the same -/
def PlX (A B : List D) (x y : D) : Prop := ∀ u, bits u → oR A x u = oR B y u
abbrev SameX (A B : List D) (i j : Nat) : Prop := PlX A B (fR i) (fR j)
theorem PlX.symm {A B : List D} {x y : D} (h : PlX A B x y) : PlX B A y x := fun u hu => (h u hu).symm
theorem PlX.trans {A B C : List D} {x y z : D} (h : PlX A B x y) (h' : PlX B C y z) : PlX A C x z := fun u hu => (h u hu).trans (h' u hu)
theorem PlX.next {A B : List D} {x y : D} (h : PlX A B x y) {b : Int} (hb : b = 0 ∨ b = 1) : PlX A B (nxD A x b) (nxD B y b) := fun u hu => by
  rw [← oR_cons, ← oR_cons]
  exact h (b :: u) fun d hd => by
    rcases List.mem_cons.mp hd with rfl | hd
    · exact hb
    · exact hu d hd
section
variable {ws : List Str} {A B : List D}
/-- two such places are rows, or one word -/
theorem PlX.cases (hA : Mach ws A) (hB : Mach ws B) {x y : D} (hx : plB A.length ws x = true) (hy : plB B.length ws y = true) (h : PlX A B x y) :
    (∃ c d : Nat, x = fR c ∧ y = fR d ∧ c < A.length ∧ d < B.length) ∨ ∃ s, x = .str s ∧ y = .str s := by
  have h0 := h [] bits_nil
  rcases plB_cases hx with ⟨c, rfl, c0, c1⟩ | ⟨s, rfl, _⟩ <;> rcases plB_cases hy with ⟨d, rfl, d0, d1⟩ | ⟨t, rfl, _⟩
  · refine .inl ⟨c.toNat, d.toNat, ?_, ?_, by omega, by omega⟩
    · show D.int c = .int (c.toNat : Nat); congr 1; omega
    · show D.int d = .int (d.toNat : Nat); congr 1; omega
  · obtain ⟨b, e, _⟩ := see_row hA c0 c1
    have z : seeD A (.int c) = .str t := h0
    rw [e] at z
    cases z
  · obtain ⟨b, e, _⟩ := see_row hB d0 d1
    have z : D.str s = seeD B (.int d) := h0
    rw [e] at z
    cases z
  · have z : D.str s = .str t := h0
    cases z
    exact .inr ⟨s, rfl, rfl⟩
/-- lists of rows that show the same one by one -/
def KX (A B : List D) : List Nat → List Nat → Prop
  | [], [] => True
  | a :: l, b :: m => SameX A B a b ∧ KX A B l m
  | _, _ => False
theorem KX.len : ∀ {l m : List Nat}, KX A B l m → l.length = m.length
  | [], [], _ => rfl
  | _ :: _, _ :: _, h => by rw [List.length_cons, List.length_cons, KX.len h.2]
  | [], _ :: _, h => h.elim
  | _ :: _, [], h => h.elim
theorem KX.snoc : ∀ {l m : List Nat} {a b : Nat}, KX A B l m → SameX A B a b → KX A B (l ++ [a]) (m ++ [b])
  | [], [], a, b, _, h => ⟨h, trivial⟩
  | _ :: _, _ :: _, a, b, h, h' => ⟨h.1, KX.snoc h.2 h'⟩
  | [], _ :: _, a, b, h, _ => h.elim
  | _ :: _, [], a, b, h, _ => h.elim
theorem KX.get : ∀ {l m : List Nat} {j a : Nat}, KX A B l m → l[j]? = some a → ∃ b, m[j]? = some b ∧ SameX A B a b
  | x :: l, y :: m, 0, a, h, e => by
    cases e
    exact ⟨y, rfl, h.1⟩
  | x :: l, y :: m, j + 1, a, h, e => KX.get (l := l) (m := m) (j := j) h.2 e
  | [], [], j, a, h, e => by cases e
  | [], _ :: _, j, a, h, _ => h.elim
  | _ :: _, [], j, a, h, _ => h.elim
theorem KX.rng : ∀ {n : Nat}, (∀ i, i < n → SameX A B i i) → KX A B (List.range n) (List.range n)
  | 0, _ => trivial
  | n + 1, h => by
    rw [List.range_succ]
    exact KX.snoc (KX.rng fun i hi => h i (by omega)) (h n (by omega))
variable {smA smB : Nat → Nat → Bool}
theorem sm_x (sA : SmOk' A smA) (sB : SmOk' B smB) {a b c d : Nat} (ha : a < A.length) (hb : b < B.length) (hc : c < A.length) (hd : d < B.length) (h1 : SameX A B a b) (h2 : SameX A B c d) : smA a c = smB b d := by
  rw [Bool.eq_iff_iff, sA a c ha hc, sB b d hb hd]
  exact ⟨fun h u hu => by rw [← h1 u hu, ← h2 u hu]; exact h u hu, fun h u hu => by rw [h1 u hu, h2 u hu]; exact h u hu⟩
theorem KX.any (sA : SmOk' A smA) (sB : SmOk' B smB) {c d : Nat} (hc : c < A.length) (hd : d < B.length) (h2 : SameX A B c d) : ∀ {l m : List Nat}, KX A B l m → (∀ k ∈ l, k < A.length) → (∀ k ∈ m, k < B.length) → l.any (fun k => smA k c) = m.any fun k => smB k d
  | [], [], _, _, _ => rfl
  | a :: l, b :: m, h, hl, hm => by
    rw [List.any_cons, List.any_cons, sm_x sA sB (hl a List.mem_cons_self) (hm b List.mem_cons_self) hc hd h.1 h2, KX.any sA sB hc hd h2 h.2 (fun k hk => hl k (List.mem_cons_of_mem _ hk)) fun k hk => hm k (List.mem_cons_of_mem _ hk)]
  | [], _ :: _, h, _, _ => h.elim
  | _ :: _, [], h, _, _ => h.elim
theorem KX.add (hA : Mach ws A) (hB : Mach ws B) (sA : SmOk' A smA) (sB : SmOk' B smB) {l m : List Nat} (h : KX A B l m) (hl : ∀ k ∈ l, k < A.length) (hm : ∀ k ∈ m, k < B.length) {x y : D} (hx : plB A.length ws x = true) (hy : plB B.length ws y = true) (hxy : PlX A B x y) : KX A B (addP smA l x) (addP smB m y) := by
  rcases hxy.cases hA hB hx hy with ⟨c, d, rfl, rfl, hc, hd⟩ | ⟨s, rfl, rfl⟩
  · have := KX.any sA sB hc hd hxy h hl hm
    show KX A B (if l.any (fun k => smA k ((c : Nat) : Int).toNat) = true then l else l ++ [((c : Nat) : Int).toNat]) (if m.any (fun k => smB k ((d : Nat) : Int).toNat) = true then m else m ++ [((d : Nat) : Int).toNat])
    rw [Int.toNat_natCast, Int.toNat_natCast, this]
    split
    · exact h
    · exact h.snoc hxy
  · exact h
/-- the parts of rows that show the same -/
theorem rows_x (hA : Mach ws A) (hB : Mach ws B) {a b : Nat} (ha : a < A.length) (hb : b < B.length) (h : SameX A B a b) : ∃ t p q p' q', A[a]? = some (.tup [.int t, p, q]) ∧ B[b]? = some (.tup [.int t, p', q']) ∧ plB A.length ws p = true ∧ plB A.length ws q = true ∧ plB B.length ws p' = true ∧ plB B.length ws q' = true ∧ PlX A B p p' ∧ PlX A B q q' := by
  obtain ⟨t, p, q, e, _, hp, hq, _⟩ := row_at hA (i := (a : Int)) (by omega) (by omega)
  obtain ⟨t', p', q', e', _, hp', hq', _⟩ := row_at hB (i := (b : Int)) (by omega) (by omega)
  rw [Int.toNat_natCast] at e e'
  have z : seeD A (fR a) = seeD B (fR b) := h [] bits_nil
  simp only [seeD, put0, fR, Int.toNat_natCast, e, e'] at z
  cases z
  have n0 := h.next (.inl rfl)
  have n1 := h.next (.inr rfl)
  simp only [nxD, fR, Int.toNat_natCast, e, e', if_true] at n0
  simp only [nxD, fR, Int.toNat_natCast, e, e', show ¬ ((1 : Int) = 0) by decide, if_false] at n1
  exact ⟨_, p, q, p', q', e, e', hp, hq, hp', hq', n0, n1⟩
theorem lk_more (hA : Mach ws A) (sA : SmOk' A smA) (g : Nat) : ∀ (f : Nat) {kept : List Nat} {a : Nat}, Kp A smA kept a → A.length + 1 ≤ f + a → lkP A smA (f + g) kept a = lkP A smA f kept a
  | 0, kept, a, h, hf => by
    have h1 := h.few
    have h2 := h.at_
    exact absurd hf (by omega)
  | f + 1, kept, a, h, hf => by
    by_cases hlt : a < kept.length
    · have hk : kept[a]? = some kept[a] := List.getElem?_eq_getElem hlt
      rw [show f + 1 + g = (f + g) + 1 by omega, lk_step hk, lk_step hk]
      exact lk_more hA sA g f (h.step hA sA hk) (by omega)
    · rw [lk_end (by omega), lk_end (by omega)]
theorem KX.lk (hA : Mach ws A) (hB : Mach ws B) (sA : SmOk' A smA) (sB : SmOk' B smB) : ∀ (f : Nat) {l m : List Nat} {a : Nat}, KX A B l m → Kp A smA l a → Kp B smB m a → KX A B (lkP A smA f l a) (lkP B smB f m a)
  | 0, l, m, a, h, _, _ => h
  | f + 1, l, m, a, h, hl, hm => by
    by_cases hlt : a < l.length
    · have hk : l[a]? = some l[a] := List.getElem?_eq_getElem hlt
      obtain ⟨b, hb, hab⟩ := h.get hk
      rw [lk_step hk, lk_step hb]
      have la := hl.lt _ (List.mem_of_getElem? hk)
      have lb := hm.lt _ (List.mem_of_getElem? hb)
      obtain ⟨t, p, q, p', q', e, e', hp, hq, hp', hq', n0, n1⟩ := rows_x hA hB la lb hab
      refine KX.lk hA hB sA sB f ?_ (hl.step hA sA hk) (hm.step hB sB hb)
      rw [rowP_eq _ e, rowP_eq _ e']
      have h1 := h.add hA hB sA sB hl.lt hm.lt hp hp' n0
      exact h1.add hA hB sA sB (addP_ok sA hp hl.nd hl.lt).2 (addP_ok sB hp' hm.nd hm.lt).2 hq hq' n1
    · have := h.len
      rw [lk_end (by omega), lk_end (by omega)]
      exact h
theorem KX.kept (hA : Mach ws A) (hB : Mach ws B) (sA : SmOk' A smA) (sB : SmOk' B smB) {n : Nat} (hnA : n ≤ A.length) (hnB : n ≤ B.length) (h : ∀ i, i < n → SameX A B i i) : KX A B (keptP A smA n) (keptP B smB n) := by
  have h1 := KX.lk hA hB sA sB (A.length + 1 + (B.length + 1)) (KX.rng h) (Kp.start hnA) (Kp.start hnB)
  rw [lk_more hA sA (B.length + 1) (A.length + 1) (Kp.start hnA) (by omega)] at h1
  rw [show A.length + 1 + (B.length + 1) = B.length + 1 + (A.length + 1) by omega, lk_more hB sB (A.length + 1) (B.length + 1) (Kp.start hnB) (by omega)] at h1
  exact h1
end
end DL
set_option Elab.async false
set_option linter.all false
set_option maxRecDepth 100000
set_option maxHeartbeats 4000000
namespace DL
open PySem PySem.Spec PyProof.Rows L2
/-- a place and its twin by the names -/
def Tw (names : List Nat) (x x' : D) : Prop := (∃ s, x = .str s ∧ x' = .str s) ∨ ∃ c t : Nat, x = fR c ∧ x' = fR t ∧ names[t]? = some c
section
variable {ws : List Str} {A G : List D} {names : List Nat}
theorem Tw.pl {n : Nat} {x x' : D} (h : Tw names x x') (hx : plB A.length ws x = true) (hn : names.length ≤ n) : plB n ws x' = true := by
  rcases h with ⟨s, rfl, rfl⟩ | ⟨c, t, rfl, rfl, ht⟩
  · exact hx
  · have := (List.getElem?_eq_some_iff.mp ht).1
    simp [plB, fR]
    omega
end
end DL
set_option Elab.async false
set_option linter.all false
set_option maxRecDepth 100000
set_option maxHeartbeats 4000000
namespace DL
open PySem PySem.Spec PyProof.Rows L2
section
variable {X : Cx} {B : Bd} {pos : Pos} {k : Nat} {wx : DW} {a b c d e f : Expr} {ta tb tc td te tf : DTE}
def disK3 (p : Addr) (x y x2 y2 x3 : D) (q : DQ) : DQ := fun y3 O4 => ∃ k1 k2 k3, O4 p = some (.dK []) ∧ keyD x = some k1 ∧ keyD x2 = some k2 ∧ keyD x3 = some k3 ∧ q (.ref p) (setO O4 p (.dK (putKD (putKD (putKD [] k1 y) k2 y2) k3 y3)))
def dDisp3 (ta tb tc td te tf : DTE) : DTE := fun env O q => ∀ p, O p = none → ta env (setO O p (.dK [])) fun x O1 => tb env O1 fun y O2 => tc env O2 fun x2 O3 => td env O3 fun y2 O4 => te env O4 fun x3 O5 => tf env O5 (disK3 p x y x2 y2 x3 q)
theorem i_disp3 {env : Env} {O : Ow} {q : DQ} (h : ∀ p, O p = none → ta env (setO O p (.dK [])) fun x O1 => tb env O1 fun y O2 => tc env O2 fun x2 O3 => td env O3 fun y2 O4 => te env O4 fun x3 O5 => tf env O5 (disK3 p x y x2 y2 x3 q)) : dDisp3 ta tb tc td te tf env O q := h
end
end DL
set_option Elab.async false
set_option linter.all false
set_option maxRecDepth 100000
set_option maxHeartbeats 4000000
namespace DL
open PySem PySem.Spec PyProof.Rows L2
def kS (s : Str) : Key := Sum.inr s
def namesV (kv : List (Key × D)) (fi : List Str) : List Str := fi ++ (kv.filterMap fun x => match x.1 with | .inr s => if fi.contains s then none else some s | _ => none)
def atV (ns : List Str) : List (Key × D) := (List.range ns.length).foldl (fun kv i => putKD kv (kS (ns.getD i "")) (.int (i : Nat))) []
def getV (kv : List (Key × D)) (d : D) : D := match d with
  | .str s => (valD kv (kS s)).getD d
  | _ => d
def numV (kv : List (Key × D)) (fi : List Str) : List D := (namesV kv fi).map fun s => match valD kv (kS s) with
  | some (.tup [p, a, b]) => .tup [p, getV (atV (namesV kv fi)) a, getV (atV (namesV kv fi)) b]
  | _ => .non
end DL
set_option Elab.async false
set_option linter.all false
set_option maxRecDepth 100000
set_option maxHeartbeats 4000000
namespace DL
open PySem PySem.Spec PyProof.Rows L2
abbrev DHF := DF → Ow → DQ → DX → Prop
section
variable {X : Cx} {pins : List (Addr × Obj)} {σ : L2.St} {H F : Hp} {s : Shared} {env : Env} {scope : Scope} {f c' : Addr} {params : Arguments} {body : Expr} {pm ctv : Value} {j : Nat} {tb : DW → DTE}
/-- what the lambda does where its maker's names hold env -/
abbrev lamOf (tb : DW → DTE) (env : Env) : DF := fun ds O q x => ds = [] ∧ tb (fun c fs _ O => x c fs O) env O q
end
/-- the table at P is right, and nobody holds it for frozen -/
def TabOk (K : Frag) (H F : Hp) (P : Addr) (q : Str) : Prop := TabQ K H P q ∧ F P = none
theorem TabOk.later {K : Frag} {O : Ow} {H F : Hp} {O' : Ow} {H' F' : Hp} {P : Addr} {q : Str} (t : TabOk K H F P q) (ow : OwOk K O H F) (a : After K O H F O' H' F') : TabOk K H' F' P q := by
  obtain ⟨t, n⟩ := t
  obtain ⟨ps, e, _⟩ := id t.2
  refine ⟨a.tb _ _ t, a.fr P (by rw [e]; simp) ?_ n⟩
  cases z : O P with
  | none => rfl
  | some u =>
    obtain ⟨_, ho, e2, r⟩ := ow P u z
    rw [e] at e2
    cases e2
    exact absurd rfl (r.nt.1 ps)
/-- how the heap changes as a lambda named q is made by the maker whose table is P -/
def Mk1 (H H1 : Hp) (P c' : Addr) (q : Str) : Prop := H1 = H ∨ ∃ ps more : Array Value, H P = some (.tbl ps) ∧ H c' = none ∧ H1 = upd (upd H P (.tbl (ps ++ more))) c' (LamX.CodeO c' q) ∧ LamX.TabS H1 P q
theorem Mk1.after {K : Frag} {O : Ow} {H F H1 : Hp} {P c' : Addr} {q : Str} (m : Mk1 H H1 P c' q) (fh : L2.Same F H) (ow : OwOk K O H F) (hq : q = qT K P) (hF : F P = none) : After K O H F O H1 F := by
  rcases m with rfl | ⟨ps, more, hP, hc, rfl, hT⟩
  · exact .rfl' fh ow
  have kept : ∀ b o, H b = some o → b ≠ P → upd (upd H P (.tbl (ps ++ more))) c' (LamX.CodeO c' q) b = some o := fun b o e n => by
    rw [upd_ne (ne_of_none e hc), upd_ne n]; exact e
  have nP : ∀ b o, H b = some o → (∀ ps, o ≠ HO.tbl ps) → b ≠ P := fun b o e n z => n ps (Option.some.inj (e.symm.trans (by rw [z]; exact hP)))
  refine ⟨L2.Same.refl _, fun b o e => kept b o (fh b o e) fun z => ?_, fun b o e _ => ?_, fun _ _ _ e => e, fun p o e => ?_, fun p o e => .inl (by rw [e]; simp), fun P' q' t => ?_⟩
  · rw [z, hF] at e; cases e
  · by_cases hb : b = P
    · subst hb
      rw [hP] at e; cases e
      exact .inr ⟨ps, ps ++ more, rfl, by rw [upd_ne (ne_of_none hP hc), upd_same]⟩
    · exact .inl (kept b o e hb)
  · obtain ⟨h1, ho, h2, h3⟩ := ow p o e
    exact ⟨h1, ho, kept p ho h2 (nP p ho h2 h3.nt.1), h3⟩
  · obtain ⟨t1, t2⟩ := t
    by_cases hb : P' = P
    · subst hb
      rw [t1, ← hq]
      exact ⟨hq, hT⟩
    · obtain ⟨ps', e1, e2, e3⟩ := t2
      refine ⟨t1, ps', kept _ _ e1 hb, e2, fun pos cv h => ?_⟩
      obtain ⟨c, ec, hcc⟩ := e3 pos cv h
      exact ⟨c, ec, kept _ _ hcc (nP _ _ hcc LamX.codeO_ne)⟩
def dLam (hd : DHF) (tb : DW → DTE) (wx : DW) : DTE := fun env O q => hd (lamOf tb env) O q fun c fs O' => wx c fs env O'
section
variable {X : Cx} {B : Bd} {k j m jl : Nat} {wx : DW} {x qn a : Str} {st : Stmt} {g c P : Addr} {hd : DHF} {tb : DW → DTE} {params : Arguments} {body : Expr} {scope : Scope} {p lpos pos : Pos}
theorem i_lam {env : Env} {O : Ow} {q : DQ} (h : hd (lamOf tb env) O q fun c fs O' => wx c fs env O') : dLam hd tb wx env O q := h
end
end DL
set_option Elab.async false
set_option linter.all false
set_option maxRecDepth 100000
set_option maxHeartbeats 4000000
namespace DL
open PySem PySem.Spec PyProof.Rows L2
def TabsOk (K : Frag) (T : List (Addr × Str)) (O : Ow) (H F : Hp) : Prop := OwOk K O H F ∧ ∀ p ∈ T, TabOk K H F p.1 p.2
theorem TabsOk.later {K : Frag} {T : List (Addr × Str)} {O : Ow} {H F : Hp} {O' : Ow} {H' F' : Hp} (t : TabsOk K T O H F) (a : After K O H F O' H' F') : TabsOk K T O' H' F' := ⟨a.ow, fun p hp => (t.2 p hp).later t.1 a⟩
theorem TabsOk.sub {K : Frag} {T T' : List (Addr × Str)} {O : Ow} {H F : Hp} (t : TabsOk K T O H F) (h : ∀ p ∈ T', p ∈ T) : TabsOk K T' O H F := ⟨t.1, fun p hp => t.2 p (h p hp)⟩
def isTab : Obj → Bool
  | ⟨.none, _, .fields _, _⟩ => true
  | _ => false
def frN (g : Addr → Option Obj) (as : List Addr) : Frag := He.frG (fun a => match g a with | some o => if isTab o then none else some o | none => none) as
theorem frN_at {g : Addr → Option Obj} {a : Addr} {o : Obj} {as : List Addr} (h : (frN g as).lookup a = some o) : g a = some o := by
  have z := He.frG_at as h
  revert z
  cases e : g a with
  | none => exact fun z => by cases z
  | some u =>
    show (if isTab u then none else some u) = some o → _
    split
    · exact fun z => by cases z
    · exact id
end DL
set_option Elab.async false
set_option linter.all false
set_option maxRecDepth 100000
set_option maxHeartbeats 4000000
namespace DL
open PySem PySem.Spec PyProof.Rows L2
end DL
set_option Elab.async false
set_option linter.all false
set_option maxRecDepth 100000
set_option maxHeartbeats 4000000
namespace DL
open PySem PySem.Spec PyProof.Rows L2
section
variable {X : Cx} {B : Bd} {pos apos : Pos} {k : Nat} {wx : DW} {e o : Expr} {to te : DTE} {env : Env} {O : Ow} {q : DQ}
def cntK (a : Str) (q : DQ) : DQ := fun y O2 => match y with
  | .str b => q (.int (Txt.count a b)) O2
  | _ => False
def dCount (to te : DTE) : DTE := fun env O q => to env O fun x O1 => match x with
  | .str a => te env O1 (cntK a q)
  | _ => False
theorem i_count (h : to env O fun x O1 => match x with | .str a => te env O1 (cntK a q) | _ => False) : dCount to te env O q := h
end
end DL
set_option Elab.async false
set_option linter.all false
set_option maxRecDepth 100000
set_option maxHeartbeats 4000000
namespace DL
open PySem PySem.Spec PyProof.Rows L2
def goN : List (DTE × DTE) → List (Key × D) → Env → Ow → (List (Key × D) → Ow → Prop) → Prop
  | [], acc, _, O, q => q acc O
  | (tk, tv) :: r, acc, env, O, q => tk env O fun x O1 => tv env O1 fun y O2 => ∃ k, keyD x = some k ∧ goN r (putKD acc k y) env O2 q
def dDispN (ts : List (DTE × DTE)) : DTE := fun env O q => ∀ p, O p = none → goN ts [] env (setO O p (.dK [])) fun kvs O' => O' p = some (.dK []) ∧ q (.ref p) (setO O' p (.dK kvs))
section
variable {B : Bd}
variable {X : Cx} {pos : Pos} {keys : List (Option Expr)} {values : List Expr}
theorem i_dispN {ts : List (DTE × DTE)} {env : Env} {O : Ow} {q : DQ} (h : ∀ p, O p = none → goN ts [] env (setO O p (.dK [])) fun kvs O' => O' p = some (.dK []) ∧ q (.ref p) (setO O' p (.dK kvs))) : dDispN ts env O q := h
theorem i_goC {tk tv : DTE} {r : List (DTE × DTE)} {acc : List (Key × D)} {env : Env} {O : Ow} {q : List (Key × D) → Ow → Prop} (h : tk env O fun x O1 => tv env O1 fun y O2 => ∃ k, keyD x = some k ∧ goN r (putKD acc k y) env O2 q) : goN ((tk, tv) :: r) acc env O q := h
theorem i_goK {r : List (DTE × DTE)} {acc : List (Key × D)} {env : Env} {O : Ow} {q : List (Key × D) → Ow → Prop} {x y : D} {k : Key} (e : keyD x = some k) (h : goN r (putKD acc k y) env O q) : ∃ k, keyD x = some k ∧ goN r (putKD acc k y) env O q := ⟨k, e, h⟩
theorem i_goN {acc : List (Key × D)} {env : Env} {O : Ow} {q : List (Key × D) → Ow → Prop} (h : q acc O) : goN [] acc env O q := h
end
end DL
set_option Elab.async false
set_option linter.all false
set_option maxRecDepth 100000
set_option maxHeartbeats 4000000
namespace DL
open PySem PySem.Spec PyProof.Rows L2
end DL
set_option Elab.async false
set_option linter.all false
set_option maxRecDepth 100000
set_option maxHeartbeats 4000000
namespace DL
open PySem PySem.Spec PyProof.Rows L2
theorem i_notinTI {O : Ow} {q : DQ} {i : Int} {ws : List Int} (h : q (.bl (!ws.contains i)) O) : dNotIn (.int i) (.tup (ws.map D.int)) O q := by
  obtain ⟨h1, h2, h3⟩ := pds_nums ws
  refine ⟨_, _, asP_pd rfl, asPs_T h1, good_sh (good_int _), shaped_nums ws, ?_⟩
  rw [any_ints, if_pos rfl]
  exact h
/-- a comprehension that keeps some of what it walks -/
theorem lcGo_flt {α : Type} {g : DTG} {tt : DTT} {te : DTE} {Gd : Ow → Prop} {env : Env} {O : Ow} (c : α → D) (p : α → Bool) (hG : Gd O) : ∀ {L : List α} {q : List D → Ow → Prop},
    (∀ l ∈ L, ∀ (k : DQ) (z : Ow → Prop), (p l = true → ∀ o, SubO O o → k (c l) o) → (p l = false → ∀ o, SubO O o → z o) → g (c l) env O fun env2 _ => tt env2 O fun b O3 => if b = true then te env2 O3 k else z O3) → q ((L.filter p).map c) O → lcGo g tt te Gd (L.map c) env O q
  | [], _, _, hq => ⟨hG, hq⟩
  | l :: L, q, hx, hq => by
    refine ⟨hG, hx l List.mem_cons_self _ _ (fun e o sb => ⟨O, sb, ?_⟩) (fun e o sb => ⟨O, sb, ?_⟩)⟩
    · refine lcGo_flt c p hG (fun x' h' => hx x' (List.mem_cons_of_mem _ h')) ?_
      rw [List.filter_cons, if_pos e] at hq
      exact hq
    · refine lcGo_flt c p hG (fun x' h' => hx x' (List.mem_cons_of_mem _ h')) ?_
      rw [List.filter_cons, if_neg (by rw [e]; decide)] at hq
      exact hq
/-- a comprehension that makes one thing of each -/
theorem lcGo_mpA {α : Type} {g : DTG} {tt : DTT} {te : DTE} {Gd : Ow → Prop} {env : Env} {O : Ow} (c : α → D) (f : α → D) (hG : Gd O) : ∀ {L : List α} {q : List D → Ow → Prop},
    (∀ l ∈ L, ∀ (k : DQ) (z : Ow → Prop), (∀ o, SubO O o → k (f l) o) → g (c l) env O fun env2 _ => tt env2 O fun b O3 => if b = true then te env2 O3 k else z O3) → q (L.map f) O → lcGo g tt te Gd (L.map c) env O q
  | [], _, _, hq => ⟨hG, hq⟩
  | l :: L, q, hx, hq => ⟨hG, hx l List.mem_cons_self _ _ fun o sb => ⟨O, sb, lcGo_mpA c f hG (fun x' h' => hx x' (List.mem_cons_of_mem _ h')) hq⟩⟩
end DL
set_option Elab.async false
set_option linter.all false
set_option maxRecDepth 100000
set_option maxHeartbeats 4000000
namespace DL
open PySem PySem.Spec PyProof.Rows L2
theorem OkE.word {O : Ow} {s : Str} (h : shP (py (.str s)) 20 0 = true) : OkE O (.str s) 20 0 := .ofPd rfl h
theorem rch_lowE : ∀ (c : Fin 128), ∀ x ∈ Builtin.Str.reprChar 39 c.val ++ Builtin.Str.reprChar 34 c.val, x < 128 := by decide +kernel
theorem fold_lowE (q : Nat) (hq : q = 39 ∨ q = 34) : ∀ (l : List Nat) (acc : Array Nat), (∀ c ∈ l, c < 128) → (∀ x ∈ acc.toList, x < 128) → ∀ x ∈ (l.foldl (fun out c => out ++ (Builtin.Str.reprChar q c).toArray) acc).toList, x < 128
  | [], acc, _, ha => ha
  | c :: r, acc, h, ha => by
    refine fold_lowE q hq r _ (fun d hd => h d (List.mem_cons_of_mem _ hd)) fun x hx => ?_
    rw [Array.toList_append] at hx
    rcases List.mem_append.mp hx with hx | hx
    · exact ha x hx
    · have := rch_lowE ⟨c, h c List.mem_cons_self⟩ x
      rcases hq with rfl | rfl
      · exact this (List.mem_append_left _ (by simpa using hx))
      · exact this (List.mem_append_right _ (by simpa using hx))
theorem repr_lowE {x : Str} (h : ∀ c ∈ TL.tl x, c < 128) : ∀ c ∈ TL.tl (reprText x), c < 128 := by
  have hq : reprQuote x = 39 ∨ reprQuote x = 34 := by unfold reprQuote; split <;> simp
  have hq2 : reprQuote x < 128 := by omega
  have e : TL.tl (reprText x) = (x.cps.toList.foldl (fun out c => out ++ (Builtin.Str.reprChar (reprQuote x) c).toArray) #[reprQuote x]).toList ++ [reprQuote x] := by
    unfold reprText TL.tl
    rw [Array.toList_push, ← Array.foldl_toList]
  intro c hc
  rw [e] at hc
  rcases List.mem_append.mp hc with hc | hc
  · exact fold_lowE _ hq _ _ h (fun x hx => by simp at hx; omega) c hc
  · rw [List.mem_singleton.mp hc]; exact hq2
theorem str_shpE {x : Str} (h : ∀ c ∈ TL.tl x, c < 128) : ShP (py (.str x)) (10 * x.length + 2) 0 := by
  have e : (py (.str x)).shown = reprText x := by simp only [py, PyData.shown]
  refine ⟨by simp [py, PyData.showable], by simp [py, PyData.depth], ?_, ?_⟩
  · rw [e, ← TL.len_tl]
    exact StrLaws.reprText_len x fun c hc => by have := h c hc; omega
  · rw [e]; exact repr_lowE h
/-- what is shown of data -/
noncomputable def rpE (O : Ow) (d : D) : Str := ((asE O d).map PyData.shown).getD ""
theorem OkE.shown {O O' : Ow} {d : D} {m k : Nat} (h : OkE O d m k) : OkE O' (.str (rpE O d)) (10 * m + 2) 0 := by
  obtain ⟨a, ea, r⟩ := h
  have e : rpE O d = a.shown := by unfold rpE; rw [ea]; rfl
  rw [e]
  have z := str_shpE r.sg
  have hl : a.shown.length ≤ m := by rw [TL.len_tl]; exact r.ln
  exact OkE.mono ⟨_, asE_pd rfl, z⟩ (by omega) (Nat.le_refl _)
end DL
set_option Elab.async false
set_option linter.all false
set_option maxRecDepth 100000
set_option maxHeartbeats 4000000
namespace DL
open PySem PySem.Spec PyProof.Rows L2
end DL
set_option Elab.async false
set_option linter.all false
set_option maxRecDepth 100000
set_option maxHeartbeats 4000000
namespace DL
open PySem PySem.Spec PyProof.Rows L2
section
variable {X : Cx} {B : Bd} {k : Nat} {wx : DW} {o e : Expr} {apos cpos : Pos} {td ty : DTE}
def get1K2 (p : Addr) (y : D) (q : DQ) (O2 : Ow) : Prop := ∃ kvs key, O2 p = some (.dK kvs) ∧ keyD y = some key ∧ q ((valD kvs key).getD .non) O2
def get1K (ty : DTE) (env : Env) (q : DQ) : DQ := fun x O1 => ∃ p kvs, x = .ref p ∧ O1 p = some (.dK kvs) ∧ ty env O1 fun y O2 => get1K2 p y q O2
def dGet1 (td ty : DTE) : DTE := fun env O q => td env O (get1K ty env q)
theorem i_get1 {env : Env} {O : Ow} {q : DQ} (h : td env O (get1K ty env q)) : dGet1 td ty env O q := h
end
end DL
set_option Elab.async false
set_option linter.all false
set_option maxRecDepth 100000
set_option maxHeartbeats 4000000
namespace DL
open PySem PySem.Spec PyProof.Rows L2
def isFn : Obj → Bool
  | ⟨_, _, .func _, _⟩ => true
  | _ => false
def isSq : Obj → Bool
  | ⟨_, _, .seq _ _, _⟩ => true
  | ⟨_, _, .dict _ _, _⟩ => true
  | _ => false
/-- what a function keeps: its defaults, and what stands in them -/
def fnRefs (g : Addr → Option Obj) (o : Obj) : List Addr := He.refsD o ++ (He.refsD o).flatMap fun b => match g b with
  | some ob => if isSq ob then He.refsD ob else []
  | none => []
def asF (st ex : List Addr) (g : Addr → Option Obj) (n : Nat) : List Addr :=
  let as := asX st g n
  ex ++ (as ++ as.flatMap fun a => match g a with
    | some o => if isFn o then fnRefs g o else []
    | none => [])
def obsFG (st ex : List Addr) (n : Nat) (fa : List Fac) (fn : List DefX) (g : Addr → Option Obj) : He.AlD := obsX fa fn (frN g (asF st ex g n))
def hookF (st ex : List Addr) (n : Nat) (fa : List Fac) (fn : List DefX) : PySem.W.Hook where
  α := He.AlD
  obs := fun s => obsFG st ex n fa fn s.heap.get?
  val := fun _ => valX fn
  says := fun _ h => ∃ K : Frag, K.In h ∧ SaysX fa fn K
  of := fun _ _ e => ⟨_, fun _ _ z => frN_at z, e⟩
  keeps := fun _ _ _ ⟨K, hK, c⟩ k => ⟨K, PySem.W.Frag.In.keeps hK k, c⟩
theorem obsFG_eq {st ex : List Addr} {n : Nat} {fa : List Fac} {fn : List DefX} {g : Addr → Option Obj} {s : Shared} (h : ∀ a, g a = s.heap.get? a) : obsFG st ex n fa fn g = (hookF st ex n fa fn).obs s := by
  obtain rfl : g = s.heap.get? := funext h
  rfl
end DL
set_option Elab.async false
set_option linter.all false
set_option maxRecDepth 100000
set_option maxHeartbeats 4000000
namespace DL
open PySem PySem.Spec PyProof.Rows L2
section
variable {X : Cx} {B : Bd} {pos p apos : Pos} {k j n : Nat} {wx : DW} {o : Expr} {x qn m : Str} {st : Stmt} {kws ms : List (Str × V)} {dms : List D} {ps : List Str} {fn : DF} {f C : Addr} {ta : DTE} {tB : DTA} {pl : Sem Bool}
def methKw (C : Addr) (m : Str) (fn : DF) (n l : Nat) (w : DW) (gD : List D → List D) (tB : DTA) (env : Env) (q : DQ) : DQ := fun d O1 => ∃ fs, InsAt C O1 d fs ∧ fs.lookup m = none ∧ tB env O1 fun es O2 => es.length = l ∧ (gD (d :: es)).length = n ∧ fn (gD (d :: es)) O2 q fun c fs O' => w c fs env O'
def dMethKw (C : Addr) (m : Str) (fn : DF) (n l : Nat) (w : DW) (gD : List D → List D) (ta : DTE) (tB : DTA) : DTE := fun env O q => ta env O (methKw C m fn n l w gD tB env q)
theorem i_methM {l : Nat} {gD : List D → List D} {env : Env} {O : Ow} {q : DQ} {w : DW} {te : DTE} (h : te env O (methKw C m fn n l w gD tB env q)) : dMethKw C m fn n l w gD te tB env O q := h
theorem i_methKw {l : Nat} {gD : List D → List D} {env : Env} {O : Ow} {q : DQ} {w : DW} {d : D} {fs : List (Str × D)} (h1 : InsAt C O d fs) (h2 : fs.lookup m = none) (h : tB env O fun es O2 => es.length = l ∧ (gD (d :: es)).length = n ∧ fn (gD (d :: es)) O2 q fun c fs O' => w c fs env O') : methKw C m fn n l w gD tB env q d O := ⟨fs, h1, h2, h⟩
theorem i_methKwO {l : Nat} {gD : List D → List D} {env : Env} {O : Ow} {q : DQ} {w : DW} {a dx : Addr} {fs : List (Str × D)} (e : O a = some (.ins C dx fs)) (h2 : fs.lookup m = none) (h : tB env O fun es O2 => es.length = l ∧ (gD (.ref a :: es)).length = n ∧ fn (gD (.ref a :: es)) O2 q fun c fs O' => w c fs env O') : methKw C m fn n l w gD tB env q (.ref a) O := i_methKw ⟨dx, e⟩ h2 h
end
section
variable {X : Cx} {B : Bd} {pos apos : Pos} {k : Nat} {wx : DW} {a e : Expr} {to : DTE} {tA : DTA}
def extK2 (p : Addr) (q : DQ) : List D → Ow → Prop := fun ds O2 => match ds with
  | [.ref b] => ∃ es zs, O2 p = some (.lst es) ∧ O2 b = some (.lst zs) ∧ es.length + zs.length ≤ sizeLine ∧ q .non (setO O2 p (.lst (es ++ zs)))
  | _ => False
def extK (tA : DTA) (env : Env) (q : DQ) : DQ := fun x O1 => match x with
  | .ref p => ∃ es, O1 p = some (.lst es) ∧ tA env O1 (extK2 p q)
  | _ => False
def dExt (to : DTE) (tA : DTA) : DTE := fun env O q => to env O (extK tA env q)
theorem so_extend (S : Site X B k wx) (ho : PE X a (lift B to)) (ha : PA X [e] (liftA B tA)) (hbase : attributeBase a "extend" X.env (eval a X.env) = eval a X.env := by rfl)
    (hfew : ((backTo pos (starEach [e] X.env)).all (fun x => !x.1) && (backToKw pos (keywordEach [] X.env)).all (fun x => x.1.isSome) && decide ([e].length + ([] : List Keyword).length + (if ([] : List Keyword).isEmpty then 0 else 1) < 30)) = true := by rfl)
    (hline : (apos.endLine == pos.line) = true := by rfl) (hs : starEach [e] X.env = (false, eval e X.env) :: starEach [] X.env := by rfl) (hplain : (backTo pos (starEach [] X.env)).any (·.1) = false := by rfl) : PE X (.Call (.Attribute a "extend" apos) [e] [] pos) (lift B (dExt to tA)) :=
  PE.weak (pe_bm PySem.F.plainAttrs_list PySem.F.slot_list_extend PySem.F.type_list_extend mt_extend ho ha hbase hfew hline hs hplain) fun σ H Q h => by
    obtain ⟨env, O, F, q, R, h, kk⟩ := h
    refine ⟨env, O, F, _, R, h, fun x v O1 H1 F1 a1 r1 h1 => ?_⟩
    cases x <;> try exact h1.elim
    rename_i p
    cases r1
    obtain ⟨es, e1, h1⟩ := h1
    obtain ⟨_, ho, e2, vs, rfl, rr⟩ := a1.ow p _ e1
    have R1 := R.call a1
    refine ⟨.inl ⟨rfl, vs, SqL.of e2⟩, env, O1, F1, _, R1, h1, fun ds us O2 H2 F2 a2 r2 h2 => ?_⟩
    match ds, r2, h2 with
    | [.ref b], r2, ⟨es2, zs, e3, e4, hl, h2⟩ =>
      obtain ⟨u, rfl, ru⟩ := r2.one
      cases ru
      obtain ⟨_, ho3, e5, vs3, rfl, rr3⟩ := a2.ow p _ e3
      obtain ⟨_, ho4, e6, vs4, rfl, rr4⟩ := a2.ow b _ e4
      have R2 := R1.call a2
      exact ⟨p, b, vs3, vs4, rfl, rfl, e5, e6, by rw [← rr3.length, ← rr4.length]; exact hl, kk _ _ _ _ F2 ((a1.trans a2).trans (R2.put e3 (u := .lst _) ⟨_, rfl, rr3.append rr4⟩)) .non h2⟩
theorem i_extend {env : Env} {O : Ow} {q : DQ} (h : to env O (extK tA env q)) : dExt to tA env O q := h
theorem i_extK {env : Env} {O : Ow} {q : DQ} {p : Addr} {es : List D} (e : O p = some (.lst es)) (h : tA env O (extK2 p q)) : extK tA env q (.ref p) O := ⟨es, e, h⟩
theorem i_extK2 {O : Ow} {q : DQ} {p b : Addr} {es zs : List D} (e1 : O p = some (.lst es)) (e2 : O b = some (.lst zs)) (hl : es.length + zs.length ≤ sizeLine) (h : q .non (setO O p (.lst (es ++ zs)))) : extK2 p q [.ref b] O := ⟨es, zs, e1, e2, hl, h⟩
end
end DL
set_option Elab.async false
set_option linter.all false
set_option maxRecDepth 100000
set_option maxHeartbeats 4000000
namespace DL
open PySem PySem.Spec PyProof.Rows L2
section
variable {O : Ow} {q : DQ}
theorem i_notinOD {s : Addr} {es : List D} {d : D} (hs : O s = some (.lst es)) (ge : good (.lst es) = true) (gd : good d = true) (ne : ∀ d ∈ es, nb d = true) (nd : nb d = true) (h : ∀ b : Bool, (b = true ↔ d ∈ es) → q (.bl (!b)) O) : dNotIn d (.ref s) O q := by
  have p1 : pds es = true := by simpa [pd] using good_pd ge
  refine ⟨_, _, asP_pd (good_pd gd), show asPs O (.ref s) = some (pys es) by simp only [asPs, asL, hs, Option.bind_some, p1, if_true], good_sh gd, by simpa [py] using good_sh ge, ?_⟩
  rw [if_pos rfl]
  refine h _ ?_
  rw [pys_map, List.any_map, List.any_eq_true]
  constructor
  · rintro ⟨d', hd, e⟩
    rw [← eqv_eq (ne d' hd) nd (by simpa using e)]; exact hd
  · intro hm
    exact ⟨_, hm, by simpa using eqv_refl (good_pd gd)⟩
theorem i_ixKD {s : Addr} {es : List D} {d : D} {j : Nat} (hs : O s = some (.lst es)) (ge : good (.lst es) = true) (gd : good d = true) (ne : ∀ d ∈ es, nb d = true) (nd : nb d = true)
    (hj : es[j]? = some d) (hno : ∀ m, m < j → es[m]? ≠ some d) (h : q (.int (j : Nat)) O) : ixK2 s q [d] O := by
  have p1 : pds es = true := by simpa [pd] using good_pd ge
  refine ⟨_, _, j, py d, asP_own hs p1, asP_pd (good_pd gd), by simpa [py] using good_sh ge, good_sh gd, ?_, eqv_refl (good_pd gd), fun m z' hm hz => ?_, h⟩
  · rw [pys_map, List.getElem?_map, hj]; rfl
  · rw [pys_map, List.getElem?_map] at hz
    obtain ⟨d', hd, rfl⟩ := Option.map_eq_some_iff.mp hz
    cases e : PyData.eqv (py d') (py d) with
    | false => rfl
    | true =>
      have := eqv_eq (ne d' (List.mem_of_getElem? hd)) nd e
      subst this
      exact absurd hd (hno m hm)
abbrev T3 := Int × Int × Int
abbrev tri (p : T3) : D := .tup [.int p.1, .int p.2.1, .int p.2.2]
theorem tri_inj {a b : T3} (h : tri a = tri b) : a = b := by
  obtain ⟨a1, a2, a3⟩ := a
  obtain ⟨b1, b2, b3⟩ := b
  simp only [tri, D.tup.injEq, List.cons.injEq, D.int.injEq, and_true] at h
  obtain ⟨rfl, rfl, rfl⟩ := h
  rfl
theorem good_tri (p : T3) : good (tri p) = true := good_tupI fun d hd => by
  simp only [List.mem_cons, List.mem_nil_iff, or_false] at hd
  rcases hd with rfl | rfl | rfl <;> exact ⟨good_int _, by simp [py, PyData.depth]⟩
theorem nb_tri (p : T3) : nb (tri p) = true := by simp [tri, nb, nbs]
theorem good_tris (ps : List T3) : good (.lst (ps.map tri)) = true := good_lstI fun d hd => by
  obtain ⟨p, _, rfl⟩ := List.mem_map.mp hd
  exact ⟨good_tri p, by simp [tri, py, pys, PyData.depth, PyData.depthAll]⟩
theorem nb_tris {ps : List T3} : ∀ d ∈ ps.map tri, nb d = true := fun d hd => by
  obtain ⟨p, _, rfl⟩ := List.mem_map.mp hd
  exact nb_tri p
theorem tri_mem {ps : List T3} {p : T3} : tri p ∈ ps.map tri ↔ p ∈ ps := by
  constructor
  · intro h
    obtain ⟨q, hq, e⟩ := List.mem_map.mp h
    rw [← tri_inj e]; exact hq
  · exact fun h => List.mem_map_of_mem h
theorem i_notinT3 {s : Addr} {ps : List T3} {p : T3} (hs : O s = some (.lst (ps.map tri))) (h : q (.bl (!ps.contains p)) O) : dNotIn (tri p) (.ref s) O q :=
  i_notinOD hs (good_tris ps) (good_tri p) nb_tris (nb_tri p) fun b hb => by
    have : b = ps.contains p := by
      rw [Bool.eq_iff_iff, hb, tri_mem, List.contains_iff_mem]
    rw [this]; exact h
theorem i_ixT3 {s : Addr} {ps : List T3} {p : T3} (hs : O s = some (.lst (ps.map tri))) (hm : p ∈ ps) (h : q (.int (ps.idxOf p : Nat)) O) : ixK2 s q [tri p] O := by
  have hl := List.idxOf_lt_length_of_mem hm
  refine i_ixKD hs (good_tris ps) (good_tri p) nb_tris (nb_tri p) (j := ps.idxOf p) ?_ (fun m hm' e => ?_) h
  · rw [List.getElem?_map, List.getElem?_eq_getElem hl, List.getElem_idxOf hl]; rfl
  · rw [List.getElem?_map] at e
    obtain ⟨p', hp', ee⟩ := Option.map_eq_some_iff.mp e
    have := tri_inj ee
    subst this
    obtain ⟨h1, h2⟩ := List.getElem?_eq_some_iff.mp hp'
    have := List.not_of_lt_findIdx (p := fun x => x == p') (xs := ps) (i := m) hm'
    rw [h2] at this
    simp at this
end
end DL
set_option Elab.async false
set_option linter.all false
set_option maxRecDepth 100000
set_option maxHeartbeats 4000000
namespace DL
open PySem PySem.Spec PyProof.Rows L2
open TL (tl tl_append tl_join joinL tl_mk)
end DL
set_option Elab.async false
set_option linter.all false
set_option maxRecDepth 100000
set_option maxHeartbeats 4000000
namespace DL
open PySem PySem.Spec PyProof.Rows L2
section
variable {X : Cx} {B : Bd} {pos apos : Pos} {k : Nat} {wx : DW} {a o e : Expr} {es : List Expr} {to te : DTE} {tA : DTA} {env : Env} {O : Ow} {q : DQ} {name : Str} {id : String}
def tmK (f : List Int → Int → D) (c : List Int → Int → Prop) (te : DTE) (env : Env) (q : DQ) : DQ := fun x O1 => ∃ ns : List Int, x = .tup (ns.map D.int) ∧ te env O1 fun y O2 => ∃ i : Int, y = .int i ∧ c ns i ∧ q (f ns i) O2
def dTM (f : List Int → Int → D) (c : List Int → Int → Prop) (to te : DTE) : DTE := fun env O q => to env O (tmK f c te env q)
variable {f : List Int → Int → D} {c : List Int → Int → Prop}
theorem i_tm (h : to env O (tmK f c te env q)) : dTM f c to te env O q := h
def lcK (te : DTE) (env : Env) (q : DQ) : DQ := fun x O1 => ∃ ns : List Int, x = .lst (ns.map D.int) ∧ te env O1 fun y O2 => ∃ i : Int, y = .int i ∧ q (.int (ns.count i : Nat)) O2
def dLCnt (to te : DTE) : DTE := fun env O q => to env O (lcK te env q)
theorem i_lcnt (h : to env O (lcK te env q)) : dLCnt to te env O q := h
def dAugL (i : Nat) (te : DTE) : DTS := fun E env O => ∃ p, env[i]? = some (some (.ref p)) ∧ te env O fun y O1 => ∃ b xs zs, y = .ref b ∧ O1 p = some (.lst xs) ∧ O1 b = some (.lst zs) ∧ xs.length + zs.length ≤ sizeLine ∧ E.nx (env.set i (some (.ref p))) (setO O1 p (.lst (xs ++ zs)))
theorem ss_augL {st : Stmt} {i : Nat} (h : PS X st (tAug i (lift B te) rExt2)) : PS X st (liftS B (dAugL i te)) := PS.weak h fun E σ H h => by
  obtain ⟨env, O, F, d, R, ⟨p, e, h⟩, m⟩ := h
  obtain ⟨v, e1, r⟩ := R.sl.2 i _ e
  cases r
  refine ⟨_, e1, env, O, F, _, R, h, fun y v O1 H1 F1 a1 r1 ⟨b, xs, zs, ey, i1, i2, hl, h1⟩ => ?_⟩
  subst ey
  cases r1
  obtain ⟨_, ho1, j1, vs1, rfl, s1⟩ := a1.ow _ _ i1
  obtain ⟨_, ho2, j2, vs2, rfl, s2⟩ := a1.ow _ _ i2
  have R1 := R.call a1
  have a2 := R1.put i1 (o := .lst (vs1 ++ vs2)) (u := .lst (xs ++ zs)) ⟨_, rfl, s1.append s2⟩
  exact ⟨p, b, vs1, vs2, rfl, rfl, j1, j2, by rw [← s1.length, ← s2.length]; exact hl, m.nx _ _ _ _ F1 (a1.trans a2) (R1.sl.setv (.ref p)) h1⟩
theorem ps_augL {i : Nat} {x : Str} {pos' : Pos} (hN : X.N.Nodup) (hi : X.N[i]? = some x) (hx : Loc X.env.scope x) (he : PE X e (lift B te)) (hf : X.fn x = true ∨ X.env.scope.names.lookup x = some .local := by first | exact .inl rfl | exact .inr rfl | assumption) :
    PS X (.AugAssign (.Name x pos') .Add e pos) (liftS B (dAugL i te)) := ss_augL (ps_aug hN hi hx he iop_ext hf)
theorem i_augL {E : DEnds} {i : Nat} {p : Addr} (e : env[i]? = some (some (.ref p))) (h : te env O fun y O1 => ∃ b xs zs, y = .ref b ∧ O1 p = some (.lst xs) ∧ O1 b = some (.lst zs) ∧ xs.length + zs.length ≤ sizeLine ∧ E.nx (env.set i (some (.ref p))) (setO O1 p (.lst (xs ++ zs)))) : dAugL i te E env O := ⟨p, e, h⟩
/-- how many different truths -/
def nB (bs : List Bool) : Nat := (if true ∈ bs then 1 else 0) + (if false ∈ bs then 1 else 0)
def dBl (te : DTE) : DTE := fun env O q => te env O fun y O' => (∃ b, y = .bl b) ∧ q y O'
def truths (ds : List D) : List Bool := ds.filterMap fun d => match d with | .bl b => some b | _ => none
def dLenB (wi : DTI) (g : DTG) (tt : DTT) (te : DTE) (vs : List Nat) : DTE := fun env O q => wi env O fun xs Gd O1 => lcGo g tt (dBl te) Gd xs (wipeD env vs) O1 fun ys O2 => q (.int (nB (truths ys) : Nat)) O2
theorem i_lenB {wi : DTI} {g : DTG} {tt : DTT} {vs : List Nat} (h : wi env O fun xs Gd O1 => lcGo g tt (dBl te) Gd xs (wipeD env vs) O1 fun ys O2 => q (.int (nB (truths ys) : Nat)) O2) : dLenB wi g tt te vs env O q := h
theorem i_bl (h : te env O fun y O' => (∃ b, y = .bl b) ∧ q y O') : dBl te env O q := h
end
end DL
set_option Elab.async false
set_option linter.all false
set_option maxRecDepth 100000
set_option maxHeartbeats 4000000
namespace DL
open PySem PySem.Spec PyProof.Rows L2
section
variable {X : Cx} {B : Bd} {pos p : Pos} {k : Nat} {wx : DW} {e : Expr} {te : DTE} {tA : DTA} {env : Env} {O : Ow} {q : DQ}
def dSetTI (te : DTE) : DTZ := fun env O q => te env O fun d O1 => ∃ ns : List Int, d = .tup (ns.map D.int) ∧ ns.length < 511 ∧ q (ns.map D.int) O1
theorem i_setTI {qs : List D → Ow → Prop} (h : te env O fun d O1 => ∃ ns : List Int, d = .tup (ns.map D.int) ∧ ns.length < 511 ∧ qs (ns.map D.int) O1) : dSetTI te env O qs := h
end
end DL
set_option Elab.async false
set_option linter.all false
set_option maxRecDepth 100000
set_option maxHeartbeats 4000000
namespace DL
open PySem PySem.Spec PyProof.Rows L2 PpSet
def scGo2 (g : DTG) (tt : DTT) (wi2 : DTI) (g2 : DTG) (tt2 : DTT) (te : DTE) (vs2 : List Nat) (Gd : Ow → Prop) : Nat → List D → Env → Ow → (List D → Ow → Prop) → Prop
  | _, [], _, O, q => Gd O ∧ q [] O
  | c, x :: xs, env, O, q => Gd O ∧ g x env O fun env2 _ => tt env2 O fun b O3 => if b = true then wi2 env2 O3 fun ys Gd2 O4 => c + ys.length ≤ 510 ∧ lcGo g2 tt2 te Gd2 ys (wipeD env2 vs2) O4 fun zs O5 => ∃ o2, SubO o2 O5 ∧ scGo2 g tt wi2 g2 tt2 te vs2 Gd (c + ys.length) xs env o2 fun ws O6 => q (zs ++ ws) O6
    else ∃ o2, SubO o2 O3 ∧ scGo2 g tt wi2 g2 tt2 te vs2 Gd c xs env o2 q
def dSc2 (isK : D → Prop) (wi : DTI) (g : DTG) (tt : DTT) (wi2 : DTI) (g2 : DTG) (tt2 : DTT) (te : DTE) (vs vs2 : List Nat) : DTZ := fun env O q => wi env O fun xs Gd O1 => scGo2 g tt wi2 g2 tt2 (dKey isK te) vs2 Gd 0 xs (wipeD env vs) O1 q
theorem i_sc2 {isK : D → Prop} {wi wi2 : DTI} {g g2 : DTG} {tt tt2 : DTT} {te : DTE} {vs vs2 : List Nat} {env : Env} {O : Ow} {qz : List D → Ow → Prop} (h : wi env O fun xs Gd O1 => scGo2 g tt wi2 g2 tt2 (dKey isK te) vs2 Gd 0 xs (wipeD env vs) O1 qz) : dSc2 isK wi g tt wi2 g2 tt2 te vs vs2 env O qz := h
end DL
set_option Elab.async false
set_option linter.all false
set_option maxRecDepth 100000
set_option maxHeartbeats 4000000
namespace DL
open PySem PySem.Spec PyProof.Rows L2 PySem.W
end DL
set_option Elab.async false
set_option linter.all false
set_option maxRecDepth 100000
set_option maxHeartbeats 4000000
namespace DL
open PySem PySem.Spec PyProof.Rows L2
/-- what the cases behind a match come to -/
abbrev DTC := List D → DEnds → Env → Ow → Prop
def bindN : List Nat → List D → Env → Env
  | i :: is, d :: ds, env => bindN is ds (env.set i (some d))
  | _, _, env => env
def bindV : List Nat → List V → St → St
  | i :: is, v :: vs, σ => bindV is vs (σ.set i (some v))
  | _, _, σ => σ
def dcNil : DTC := fun _ E env O => E.nx env O
def dcCons (is : List Nat) (tg : DTT) (tb : DTS) (r : DTC) : DTC := fun ds E env O =>
  if ds.length = is.length then tg (bindN is ds env) O fun b O1 => if b = true then tb E (bindN is ds env) O1 else r ds E (bindN is ds env) O1 else r ds E env O
def matK (tc : DTC) (E : DEnds) (env : Env) : DQ := fun d O1 => match d with | .tup ds => tc ds E env O1 | _ => False
def dMat (te : DTE) (tc : DTC) : DTS := fun E env O => te env O (matK tc E env)
section
variable {X : Cx} {B : Bd} {pos : Pos} {k : Nat} {wx : DW}
inductive Caps (X : Cx) : List Pattern → List Str → List Nat → Prop
  | nil : Caps X [] [] []
  | cons {x : Str} {i : Nat} {p : Pos} {ps : List Pattern} {xs : List Str} {is : List Nat} (hi : X.N[i]? = some x) (hl : X.env.kindOf x = some .local) (r : Caps X ps xs is) : Caps X (.MatchAs none (some x) p :: ps) (x :: xs) (i :: is)
theorem Caps.len {ps : List Pattern} {xs : List Str} {is : List Nat} (h : Caps X ps xs is) : ps.length = is.length ∧ xs.length = is.length := by
  induction h with
  | nil => exact ⟨rfl, rfl⟩
  | cons _ _ _ ih => exact ⟨congrArg (· + 1) ih.1, congrArg (· + 1) ih.2⟩
theorem Caps.bind {ps : List Pattern} {xs : List Str} {is : List Nat} (h : Caps X ps xs is) (hN : X.N.Nodup) : ∀ {M : Model} {A : Around} {E : Value → Shared → Prop} {s : Shared} {pins : List (Addr × Obj)} {σ : St} {H : Hp} {vs : List V} {us : List Value} {Q : Unit → Shared → Prop},
    Vals vs us → us.length = xs.length → Inv X pins σ H s → (∀ s', Inv X pins (bindV is vs σ) H s' → Q () s') →
    wpAny M A (assignInOrder ((xs.zip us).map fun x => match (motive := Str × Value → Value → Sem Unit) x with | (n, _) => bindName X.env n) ((xs.zip us).map fun x => x.2)) Q E s := by
  induction h with
  | nil =>
    intro M A E s pins σ H vs us Q r hl I q
    cases us with
    | nil =>
      cases r
      exact wpAny_assignInOrder_none (q s I)
    | cons _ _ => cases hl
  | cons hi hl' _ ih =>
    intro M A E s pins σ H vs us Q r hl I q
    cases r with
    | nil => cases hl
    | cons r1 rs =>
      refine wpAny_assignInOrder_more (wpAny_bindName ?_)
      refine store_ok I hN hi (.inl hl') r1 (fun s2 I2 => ?_) (.inr hl')
      exact ih rs (by simpa using hl) I2 q
theorem i_mat {te : DTE} {tc : DTC} {E : DEnds} {env : Env} {O : Ow} (h : te env O (matK tc E env)) : dMat te tc E env O := h
theorem i_matK {tc : DTC} {E : DEnds} {env : Env} {O : Ow} {ds : List D} (h : tc ds E env O) : matK tc E env (.tup ds) O := h
theorem i_mcY {is : List Nat} {tg : DTT} {tb : DTS} {r : DTC} {ds : List D} {E : DEnds} {env : Env} {O : Ow} (e : ds.length = is.length) (h : tg (bindN is ds env) O fun b O1 => if b = true then tb E (bindN is ds env) O1 else r ds E (bindN is ds env) O1) : dcCons is tg tb r ds E env O := by
  unfold dcCons; rw [if_pos e]; exact h
theorem i_mcN {is : List Nat} {tg : DTT} {tb : DTS} {r : DTC} {ds : List D} {E : DEnds} {env : Env} {O : Ow} (e : ds.length ≠ is.length) (h : r ds E env O) : dcCons is tg tb r ds E env O := by
  unfold dcCons; rw [if_neg e]; exact h
theorem i_mc0 {ds : List D} {E : DEnds} {env : Env} {O : Ow} (h : E.nx env O) : dcNil ds E env O := h
end
end DL
namespace L2
open PySem PySem.Spec PyProof.Rows
end L2
namespace DL
open PySem PySem.Spec PyProof.Rows L2
section
variable {X : Cx} {B : Bd} {k : Nat} {wx : DW} {body : List Stmt} {h₀ : ExceptHandler} {hds : List ExceptHandler} {pos : Pos} {tb : DW → DTS}
def dTryN (tb : DW → DTS) : DTS := fun E env O => tb w0 E env O
theorem i_tryN {tb : DW → DTS} {E : DEnds} {env : Env} {O : Ow} (h : tb w0 E env O) : dTryN tb E env O := h
end
end DL
set_option Elab.async false
set_option linter.all false
set_option maxRecDepth 100000
set_option maxHeartbeats 4000000
namespace DL
open PySem PySem.Spec PyProof.Rows L2 PySem.W
def dLtT : DR2 := fun x y O q => ∃ ns ms : List Int, x = .tup (ns.map D.int) ∧ y = .tup (ms.map D.int) ∧ q (.bl (HT.lexLt ns ms)) O
section
variable {X : Cx} {B : Bd} {k : Nat} {wx : DW} {a b : Expr} {pos : Pos} {ta tb : DTE}
theorem i_ltT {O : Ow} {q : DQ} {ns ms : List Int} (h : q (.bl (HT.lexLt ns ms)) O) : dLtT (.tup (ns.map D.int)) (.tup (ms.map D.int)) O q := ⟨ns, ms, rfl, rfl, h⟩
end
end DL
set_option Elab.async false
set_option linter.all false
set_option maxRecDepth 100000
set_option maxHeartbeats 4000000
namespace DL
open PySem PySem.Spec PyProof.Rows L2
section
variable {X : Cx} {B : Bd} {k : Nat} {wx : DW} {o e : Expr} {apos cpos : Pos} {td ty : DTE}
/-- dicts over data put together -/
def mergeKD (kvs more : List (Key × D)) : List (Key × D) := more.foldl (fun acc kv => putKD acc kv.1 kv.2) kvs
def updK2 (p : Addr) (q : DQ) : DQ := fun y O2 => ∃ b kvs more, y = .ref b ∧ p ≠ b ∧ O2 p = some (.dK kvs) ∧ O2 b = some (.dK more) ∧ kvs.length + more.length ≤ sizeLine ∧ q .non (setO O2 p (.dK (mergeKD kvs more)))
def updK (ty : DTE) (env : Env) (q : DQ) : DQ := fun x O1 => ∃ p kvs, x = .ref p ∧ O1 p = some (.dK kvs) ∧ ty env O1 (updK2 p q)
def dUpd (td ty : DTE) : DTE := fun env O q => td env O (updK ty env q)
theorem i_upd {env : Env} {O : Ow} {q : DQ} (h : td env O (updK ty env q)) : dUpd td ty env O q := h
end
end DL
set_option Elab.async false
set_option linter.all false
set_option maxRecDepth 100000
set_option maxHeartbeats 4000000
namespace DL
open PySem PySem.Spec PyProof.Rows L2
def fN (w : Str) (i : Nat) : Str := ((Str.empty ++ w) ++ (" flag " : Str)) ++ (toString (i : Int) : Str)
def f1N (w : Str) : Str := (Str.empty ++ w) ++ (" flag 1" : Str)
def gN (w : Str) (i : Nat) : Str := ((Str.empty ++ w) ++ (" gap " : Str)) ++ (toString (i : Int) : Str)
def g1N (w : Str) : Str := (Str.empty ++ w) ++ (" gap 1" : Str)
def eN (i : Nat) : Str := (Str.empty ++ ("end " : Str)) ++ (toString (i : Int) : Str)
section
variable (w : Str) (F G : Nat)
def flag1 (kv : List (Key × D)) (i : Nat) : List (Key × D) := putKD kv (kS (fN w (i + 1))) (.tup [.int 0, .str (if i + 1 < F then fN w (i + 2) else g1N w), .str (if i + 1 < F then fN w (i + 2) else g1N w)])
def gap1 (kv : List (Key × D)) (i : Nat) : List (Key × D) := putKD kv (kS (gN w (i + 1))) (.tup [.int 1, .str (if i = 0 then g1N w else f1N w), .str (if i + 1 < G then gN w (i + 2) else w)])
def flagV : List (Key × D) := (List.range G).foldl (gap1 w G) ((List.range F).foldl (flag1 w F) [])
end
section
variable (B L : Nat) (early late : Str)
def end1 (kv : List (Key × D)) (i : Nat) : List (Key × D) := putKD kv (kS (eN (i + 1))) (.tup [.int 1, .str (f1N (if i + 1 ≤ L then early else late)), .str (if i + 1 < B then eN (i + 2) else late)])
def endV : List (Key × D) := (List.range B).foldl (end1 B L early late) []
end
def earsV (B H F G : Nat) : List (Key × D) := mergeKD (mergeKD (endV B H "lost" "taken") (flagV "lost" F G)) (flagV "taken" F G)
def mouthV (B S F G : Nat) : List (Key × D) := mergeKD (mergeKD (endV B S "again" "done") (flagV "again" F G)) (flagV "done" F G)
def hearC (B H F G : Nat) : List D := numV (earsV B H F G) ["end 1", "lost flag 1"]
def sendC (B S F G : Nat) : List D := numV (mouthV B S F G) ["end 1"]
end DL
set_option Elab.async false
set_option linter.all false
set_option maxRecDepth 100000
set_option maxHeartbeats 4000000
namespace DL
open PySem PySem.Spec PyProof.Rows L2
/-- each of n stations stands as one of n' -/
structure Fold (n n' : Nat) (r : Nat → Nat) : Prop where
  zero : r 0 = 0
  pos : ∀ k, k ≠ 0 → r k ≠ 0
  lt : ∀ k, k < n → r k < n'
  on : ∀ j, j < n' → ∃ k, k < n ∧ r k = j
theorem Fold.m {n n' : Nat} {r : Nat → Nat} (f : Fold n n' r) {M : Mc} (k : Nat) : M.m k = M.m (r k) := by
  by_cases h : k = 0
  · subst h; rw [f.zero]
  · simp only [Mc.m, h, f.pos k h, if_false]
theorem puts_memF {M : Mc} {ps : List D} {b : Int} : b ∈ puts M ps ↔ ∃ k d, ps[k]? = some d ∧ isRw d = true ∧ putOf (rowAt (M.m k) d) = b := by
  simp only [puts, List.mem_map, List.mem_filter, Prod.exists]
  constructor
  · rintro ⟨d, k, ⟨hm, hr⟩, e⟩
    exact ⟨k, d, List.mem_zipIdx_iff_getElem?.mp hm, hr, e⟩
  · rintro ⟨k, d, hm, hr, e⟩
    exact ⟨d, k, ⟨List.mem_zipIdx_iff_getElem?.mpr hm, hr⟩, e⟩
section
variable {M : Mc} {n n' : Nat} {r : Nat → Nat} {ps ps' : List D} {W W' S S' : Nat → Bool}
/-- the places of n stations are those of n' -/
structure FoldP (n n' : Nat) (r : Nat → Nat) (ps ps' : List D) : Prop where
  l : ps.length = n
  l' : ps'.length = n'
  e : ∀ k, k < n → ps[k]? = ps'[r k]?
theorem FoldP.bit (f : Fold n n' r) (h : FoldP n n' r ps ps') : bitL M ps = bitL M ps' := by
  have : (0 : Int) ∈ puts M ps ↔ (0 : Int) ∈ puts M ps' := by
    rw [puts_memF, puts_memF]
    constructor
    · rintro ⟨k, d, e, hr, hz⟩
      have hk : k < n := by rw [← h.l]; exact (List.getElem?_eq_some_iff.mp e).1
      exact ⟨r k, d, by rw [← h.e k hk]; exact e, hr, by rw [← f.m k]; exact hz⟩
    · rintro ⟨j, d, e, hr, hz⟩
      have hj : j < n' := by rw [← h.l']; exact (List.getElem?_eq_some_iff.mp e).1
      obtain ⟨k, hk, rfl⟩ := f.on j hj
      exact ⟨k, d, by rw [h.e k hk]; exact e, hr, by rw [f.m k]; exact hz⟩
  unfold bitL
  by_cases z : (0 : Int) ∈ puts M ps
  · rw [if_pos z, if_pos (this.mp z)]
  · rw [if_neg z, if_neg fun y => z (this.mpr y)]
theorem FoldP.sil (h : FoldP n n' r ps ps') (hS : ∀ k, k < n → S k = S' (r k)) : FoldP n n' r (silL S ps) (silL S' ps') := by
  refine ⟨by simp [silL, h.l], by simp [silL, h.l'], fun k hk => ?_⟩
  unfold silL
  rw [List.getElem?_mapIdx, List.getElem?_mapIdx, h.e k hk, hS k hk]
theorem FoldP.nxt (f : Fold n n' r) (h : FoldP n n' r ps ps') (hW : ∀ k, k < n → W k = W' (r k)) (b : Int) : FoldP n n' r (nxtL M W b ps) (nxtL M W' b ps') := by
  refine ⟨by simp [nxtL, h.l], by simp [nxtL, h.l'], fun k hk => ?_⟩
  unfold nxtL
  rw [List.getElem?_mapIdx, List.getElem?_mapIdx, h.e k hk]
  unfold earK
  rw [hW k hk, f.m k]
theorem FoldP.step (f : Fold n n' r) (h : FoldP n n' r ps ps') (hW : ∀ k, k < n → W k = W' (r k)) (hS : ∀ k, k < n → S k = S' (r k)) : FoldP n n' r (stepL M W S ps) (stepL M W' S' ps') := by
  unfold stepL
  rw [(h.sil hS).bit f]
  exact (h.sil hS).nxt f hW _
end
end DL
set_option Elab.async false
set_option linter.all false
set_option maxRecDepth 100000
set_option maxHeartbeats 4000000
namespace PySem.W
open PySem PySem.Calls PyProof.Rows
open PySem.SeqAt
end PySem.W
namespace DL
open PySem PySem.Spec PyProof.Rows L2
end DL
set_option Elab.async false
set_option linter.all false
set_option maxRecDepth 100000
set_option maxHeartbeats 4000000
namespace PySem.W
open PySem PySem.Calls PyProof.Rows
open PySem.SeqAt
end PySem.W
namespace DL
open PySem PySem.Spec PyProof.Rows L2
end DL
set_option Elab.async false
set_option linter.all false
set_option maxRecDepth 100000
set_option maxHeartbeats 4000000
namespace DL
open PySem PySem.Spec PyProof.Rows L2
section
variable {κ : Type} [DecidableEq κ]
theorem fold_succW {α : Type} (f : α → Nat → α) (a : α) (n : Nat) : (List.range (n + 1)).foldl f a = f ((List.range n).foldl f a) n := by
  rw [List.range_succ, List.foldl_append]
  rfl
theorem valD_foldO {key : Nat → κ} {val : Nat → D} {kv0 : List (κ × D)} {k : κ} : ∀ {n : Nat}, (∀ i, i < n → key i ≠ k) → valD ((List.range n).foldl (fun kv i => putKD kv (key i) (val i)) kv0) k = valD kv0 k
  | 0, _ => rfl
  | n + 1, h => by
    rw [fold_succW, valD_put, if_neg (fun z => h n (Nat.lt_succ_self n) z.symm)]
    exact valD_foldO fun i hi => h i (Nat.lt_succ_of_lt hi)
theorem valD_foldI {key : Nat → κ} {val : Nat → D} {kv0 : List (κ × D)} : ∀ {n i : Nat}, (∀ a b, a < n → b < n → key a = key b → a = b) → i < n → valD ((List.range n).foldl (fun kv i => putKD kv (key i) (val i)) kv0) (key i) = some (val i)
  | 0, i, _, hi => absurd hi (Nat.not_lt_zero _)
  | n + 1, i, inj, hi => by
    rw [fold_succW, valD_put]
    by_cases e : key i = key n
    · rw [if_pos e, inj i n hi (Nat.lt_succ_self n) e]
    · rw [if_neg e]
      have hin : i < n := by
        rcases Nat.lt_or_ge i n with h | h
        · exact h
        · exact absurd (by rw [show i = n by omega]) e
      exact valD_foldI (fun a b ha hb => inj a b (Nat.lt_succ_of_lt ha) (Nat.lt_succ_of_lt hb)) hin
theorem valD_key {kvs : List (κ × D)} {k : κ} : (valD kvs k).isSome = true ↔ k ∈ kvs.map (·.1) := by
  rw [← valD_any, List.any_eq_true]
  constructor
  · rintro ⟨x, hx, e⟩
    exact List.mem_map.mpr ⟨x, hx, of_decide_eq_true e⟩
  · intro h
    obtain ⟨x, hx, e⟩ := List.mem_map.mp h
    exact ⟨x, hx, decide_eq_true e⟩
theorem putKD_ndK {kvs : List (κ × D)} {k : κ} {v : D} (h : (kvs.map (·.1)).Nodup) : ((putKD kvs k v).map (·.1)).Nodup := by
  cases e : valD kvs k with
  | none =>
    rw [putKD_new v e, List.map_append]
    refine List.nodup_append.mpr ⟨h, by simp, fun a ha b hb z => ?_⟩
    have hb : b = k := by simpa using hb
    subst hb
    subst z
    have := valD_key.mpr ha
    rw [e] at this
    cases this
  | some d =>
    rw [putKD_keys (by rw [e]; rfl)]
    exact h
theorem fold_ndK {key : Nat → κ} {val : Nat → D} {kv0 : List (κ × D)} (h : (kv0.map (·.1)).Nodup) : ∀ n : Nat, (((List.range n).foldl (fun kv i => putKD kv (key i) (val i)) kv0).map (·.1)).Nodup
  | 0 => h
  | n + 1 => by
    rw [fold_succW]
    exact putKD_ndK (fold_ndK h n)
end
theorem merge_ndK {kvs more : List (Key × D)} (h : (kvs.map (·.1)).Nodup) : ((mergeKD kvs more).map (·.1)).Nodup := by
  unfold mergeKD
  induction more generalizing kvs with
  | nil => exact h
  | cons a l ih => exact ih (putKD_ndK h)
theorem valD_merge {kvs more : List (Key × D)} {k : Key} (nd : (more.map (·.1)).Nodup) : valD (mergeKD kvs more) k = (valD more k).or (valD kvs k) := by
  unfold mergeKD
  induction more generalizing kvs with
  | nil => rfl
  | cons a l ih =>
    rw [List.map_cons, List.nodup_cons] at nd
    rw [List.foldl_cons, ih nd.2, valD_cons, valD_put]
    by_cases e : a.1 = k
    · subst e
      rw [if_pos rfl, if_pos rfl]
      cases e2 : valD l a.1 with
      | none => rfl
      | some d => exact absurd (valD_key.mp (by rw [e2]; rfl)) nd.1
    · rw [if_neg e, if_neg (fun z => e z.symm)]
inductive Nm
  | e (i : Nat)
  | f (b : Bool) (i : Nat)
  | g (b : Bool) (i : Nat)
  deriving DecidableEq
def Nm.ok : Nm → Bool
  | .e i => decide (i < 10)
  | .f _ i => decide (i < 8)
  | .g _ i => decide (i < 8)
def Nm.inn (B F G : Nat) : Nm → Bool
  | .e i => decide (i < B)
  | .f _ i => decide (i < F)
  | .g _ i => decide (i < G)
def nmP : Nm → Nat
  | .e i => i
  | .f false i => 10 + i
  | .g false i => 18 + i
  | .f true i => 26 + i
  | .g true i => 34 + i
def allNm : List Nm := (List.range 10).map Nm.e ++ ((List.range 8).map (Nm.f false) ++ ((List.range 8).map (Nm.g false) ++ ((List.range 8).map (Nm.f true) ++ (List.range 8).map (Nm.g true))))
theorem allNm_at {x : Nm} (h : x.ok = true) : allNm[nmP x]? = some x := by
  have h1 : ∀ i : Fin 10, allNm[nmP (.e i.val)]? = some (.e i.val) := by decide +kernel
  have h2 : ∀ (b : Bool) (i : Fin 8), allNm[nmP (.f b i.val)]? = some (.f b i.val) := by decide +kernel
  have h3 : ∀ (b : Bool) (i : Fin 8), allNm[nmP (.g b i.val)]? = some (.g b i.val) := by decide +kernel
  cases x with
  | e i => exact h1 ⟨i, of_decide_eq_true h⟩
  | f b i => exact h2 b ⟨i, of_decide_eq_true h⟩
  | g b i => exact h3 b ⟨i, of_decide_eq_true h⟩
def wdB (early late : Str) (b : Bool) : Str := if b then late else early
def nmS (early late : Str) : Nm → Str
  | .e i => eN (i + 1)
  | .f b i => fN (wdB early late b) (i + 1)
  | .g b i => gN (wdB early late b) (i + 1)
def wokB (early late : Str) : Bool :=
  decide ((allNm.map (nmS early late)).Nodup) && !(allNm.map (nmS early late)).contains early && !(allNm.map (nmS early late)).contains late && decide (f1N early = fN early 1) && decide (f1N late = fN late 1) && decide (g1N early = gN early 1) && decide (g1N late = gN late 1) &&
  (allNm.map (nmS early late)).all strGood && strGood early && strGood late
theorem wok_h : wokB "lost" "taken" = true := by decide +kernel
theorem wok_s : wokB "again" "done" = true := by decide +kernel
structure Wok (early late : Str) : Prop where
  nd : (allNm.map (nmS early late)).Nodup
  ne : early ∉ allNm.map (nmS early late)
  nl : late ∉ allNm.map (nmS early late)
  f1 : ∀ b, f1N (wdB early late b) = fN (wdB early late b) 1
  g1 : ∀ b, g1N (wdB early late b) = gN (wdB early late b) 1
  gd : ∀ s ∈ allNm.map (nmS early late), strGood s = true
  gw : ∀ b, strGood (wdB early late b) = true
theorem wok_of {early late : Str} (h : wokB early late = true) : Wok early late := by
  unfold wokB at h
  simp only [Bool.and_eq_true, decide_eq_true_eq, Bool.not_eq_true', List.all_eq_true] at h
  obtain ⟨⟨⟨⟨⟨⟨⟨⟨⟨h1, h2⟩, h3⟩, h4⟩, h5⟩, h6⟩, h7⟩, h8⟩, h9⟩, h10⟩ := h
  refine ⟨h1, fun z => ?_, fun z => ?_, fun b => ?_, fun b => ?_, h8, fun b => ?_⟩
  · rw [List.contains_iff_mem.mpr z] at h2; cases h2
  · rw [List.contains_iff_mem.mpr z] at h3; cases h3
  · cases b <;> assumption
  · cases b <;> assumption
  · cases b <;> assumption
section
variable {early late : Str} (W : Wok early late)
include W
theorem nmS_in {x : Nm} (h : x.ok = true) : nmS early late x ∈ allNm.map (nmS early late) := List.mem_map.mpr ⟨x, List.mem_of_getElem? (allNm_at h), rfl⟩
theorem nmS_inj {x y : Nm} (hx : x.ok = true) (hy : y.ok = true) (e : nmS early late x = nmS early late y) : x = y := by
  have h1 : (allNm.map (nmS early late))[nmP x]? = some (nmS early late x) := by rw [List.getElem?_map, allNm_at hx]; rfl
  have h2 : (allNm.map (nmS early late))[nmP y]? = some (nmS early late y) := by rw [List.getElem?_map, allNm_at hy]; rfl
  rw [← e] at h2
  obtain ⟨l1, w1⟩ := List.getElem?_eq_some_iff.mp h1
  obtain ⟨l2, w2⟩ := List.getElem?_eq_some_iff.mp h2
  have := (List.getElem_inj W.nd).mp (w1.trans w2.symm)
  have a := allNm_at hx
  rw [this, allNm_at hy] at a
  exact (Option.some.inj a).symm
theorem nmS_word {x : Nm} (h : x.ok = true) (b : Bool) : nmS early late x ≠ wdB early late b := fun z => by
  have := nmS_in W h
  rw [z] at this
  cases b
  · exact W.ne this
  · exact W.nl this
end
theorem Nm.inn_ok {B F G : Nat} (hB : B ≤ 10) (hF : F ≤ 8) (hG : G ≤ 8) {x : Nm} (h : x.inn B F G = true) : x.ok = true := by
  cases x with
  | e i => have := of_decide_eq_true h; exact decide_eq_true (by omega)
  | f b i => have := of_decide_eq_true h; exact decide_eq_true (by omega)
  | g b i => have := of_decide_eq_true h; exact decide_eq_true (by omega)
def kvsV (B L F G : Nat) (early late : Str) : List (Key × D) := mergeKD (mergeKD (endV B L early late) (flagV early F G)) (flagV late F G)
theorem kvs_ears (B H F G : Nat) : earsV B H F G = kvsV B H F G "lost" "taken" := rfl
theorem kvs_mouth (B S F G : Nat) : mouthV B S F G = kvsV B S F G "again" "done" := rfl
def rowNm (B L F G : Nat) (early late : Str) : Nm → D
  | .e i => .tup [.int 1, .str (nmS early late (.f (!decide (i + 1 ≤ L)) 0)), .str (if i + 1 < B then nmS early late (.e (i + 1)) else late)]
  | .f b i => .tup [.int 0, .str (if i + 1 < F then nmS early late (.f b (i + 1)) else nmS early late (.g b 0)), .str (if i + 1 < F then nmS early late (.f b (i + 1)) else nmS early late (.g b 0))]
  | .g b i => .tup [.int 1, .str (if i = 0 then nmS early late (.g b 0) else nmS early late (.f b 0)), .str (if i + 1 < G then nmS early late (.g b (i + 1)) else wdB early late b)]
section
variable {B L F G : Nat} {early late : Str}
theorem kS_inj {a b : Str} (h : kS a = kS b) : a = b := by
  unfold kS at h
  injection h
theorem end_out {k : Str} (h : ∀ i, i < B → eN (i + 1) ≠ k) : valD (endV B L early late) (kS k) = none := by
  unfold endV
  exact valD_foldO (key := fun i => kS (eN (i + 1))) (val := fun i => .tup [.int 1, .str (f1N (if i + 1 ≤ L then early else late)), .str (if i + 1 < B then eN (i + 2) else late)]) (kv0 := []) fun i hi z => h i hi (kS_inj z)
theorem end_ndK : ((endV B L early late).map (·.1)).Nodup := fold_ndK (key := fun i => kS (eN (i + 1))) (val := fun i => .tup [.int 1, .str (f1N (if i + 1 ≤ L then early else late)), .str (if i + 1 < B then eN (i + 2) else late)]) (kv0 := []) (by simp) B
theorem flag_ndK {u : Str} : ((flagV u F G).map (·.1)).Nodup := fold_ndK (key := fun i => kS (gN u (i + 1))) (val := fun i => .tup [.int 1, .str (if i = 0 then g1N u else f1N u), .str (if i + 1 < G then gN u (i + 2) else u)]) (fold_ndK (key := fun i => kS (fN u (i + 1))) (val := fun i => .tup [.int 0, .str (if i + 1 < F then fN u (i + 2) else g1N u), .str (if i + 1 < F then fN u (i + 2) else g1N u)]) (kv0 := []) (by simp) F) G
theorem flag_out {u k : Str} (h1 : ∀ i, i < F → fN u (i + 1) ≠ k) (h2 : ∀ i, i < G → gN u (i + 1) ≠ k) : valD (flagV u F G) (kS k) = none := by
  unfold flagV
  have a := valD_foldO (key := fun i => kS (gN u (i + 1))) (val := fun i => .tup [.int 1, .str (if i = 0 then g1N u else f1N u), .str (if i + 1 < G then gN u (i + 2) else u)]) (kv0 := (List.range F).foldl (flag1 u F) []) (k := kS k) (n := G) fun i hi z => h2 i hi (kS_inj z)
  have b := valD_foldO (key := fun i => kS (fN u (i + 1))) (val := fun i => .tup [.int 0, .str (if i + 1 < F then fN u (i + 2) else g1N u), .str (if i + 1 < F then fN u (i + 2) else g1N u)]) (kv0 := []) (k := kS k) (n := F) fun i hi z => h1 i hi (kS_inj z)
  exact a.trans b
section
variable (W : Wok early late) (hB : B ≤ 10) (hF : F ≤ 8) (hG : G ≤ 8)
include W hB hF hG
theorem ok_e {i : Nat} (h : i < B) : (Nm.e i).ok = true := decide_eq_true (by omega)
theorem ok_f {b : Bool} {i : Nat} (h : i < F) : (Nm.f b i).ok = true := decide_eq_true (by omega)
theorem ok_g {b : Bool} {i : Nat} (h : i < G) : (Nm.g b i).ok = true := decide_eq_true (by omega)
theorem end_in {i : Nat} (h : i < B) : valD (endV B L early late) (kS (eN (i + 1))) = some (.tup [.int 1, .str (f1N (if i + 1 ≤ L then early else late)), .str (if i + 1 < B then eN (i + 2) else late)]) := by
  unfold endV
  refine valD_foldI (key := fun i => kS (eN (i + 1))) (val := fun i => .tup [.int 1, .str (f1N (if i + 1 ≤ L then early else late)), .str (if i + 1 < B then eN (i + 2) else late)]) (kv0 := []) (fun a b ha hb e => ?_) h
  have := nmS_inj W (x := .e a) (y := .e b) (ok_e W hB hF hG ha) (ok_e W hB hF hG hb) (kS_inj e)
  injection this
theorem flag_f {b : Bool} {i : Nat} (h : i < F) : valD (flagV (wdB early late b) F G) (kS (fN (wdB early late b) (i + 1))) = some (.tup [.int 0, .str (if i + 1 < F then fN (wdB early late b) (i + 2) else g1N (wdB early late b)), .str (if i + 1 < F then fN (wdB early late b) (i + 2) else g1N (wdB early late b))]) := by
  unfold flagV
  have a := valD_foldO (key := fun i => kS (gN (wdB early late b) (i + 1))) (val := fun i => .tup [.int 1, .str (if i = 0 then g1N (wdB early late b) else f1N (wdB early late b)), .str (if i + 1 < G then gN (wdB early late b) (i + 2) else (wdB early late b))]) (kv0 := (List.range F).foldl (flag1 (wdB early late b) F) []) (k := kS (fN (wdB early late b) (i + 1))) (n := G) fun j hj z => by
    have := nmS_inj W (x := .g b j) (y := .f b i) (ok_g W hB hF hG hj) (ok_f W hB hF hG h) (kS_inj z)
    cases this
  refine a.trans (valD_foldI (key := fun i => kS (fN (wdB early late b) (i + 1))) (val := fun i => .tup [.int 0, .str (if i + 1 < F then fN (wdB early late b) (i + 2) else g1N (wdB early late b)), .str (if i + 1 < F then fN (wdB early late b) (i + 2) else g1N (wdB early late b))]) (kv0 := []) (fun x y hx hy e => ?_) h)
  have := nmS_inj W (x := .f b x) (y := .f b y) (ok_f W hB hF hG hx) (ok_f W hB hF hG hy) (kS_inj e)
  injection this
theorem flag_g {b : Bool} {i : Nat} (h : i < G) : valD (flagV (wdB early late b) F G) (kS (gN (wdB early late b) (i + 1))) = some (.tup [.int 1, .str (if i = 0 then g1N (wdB early late b) else f1N (wdB early late b)), .str (if i + 1 < G then gN (wdB early late b) (i + 2) else (wdB early late b))]) := by
  unfold flagV
  refine valD_foldI (key := fun i => kS (gN (wdB early late b) (i + 1))) (val := fun i => .tup [.int 1, .str (if i = 0 then g1N (wdB early late b) else f1N (wdB early late b)), .str (if i + 1 < G then gN (wdB early late b) (i + 2) else (wdB early late b))]) (kv0 := (List.range F).foldl (flag1 (wdB early late b) F) []) (fun x y hx hy e => ?_) h
  have := nmS_inj W (x := .g b x) (y := .g b y) (ok_g W hB hF hG hx) (ok_g W hB hF hG hy) (kS_inj e)
  injection this
theorem kvs_at (k : Key) : valD (kvsV B L F G early late) k = (valD (flagV (wdB early late true) F G) k).or ((valD (flagV (wdB early late false) F G) k).or (valD (endV B L early late) k)) := by
  unfold kvsV
  rw [valD_merge flag_ndK, valD_merge flag_ndK]
  rfl
theorem flag_no {b : Bool} {x : Nm} (hx : x.inn B F G = true) (h : ∀ i, x ≠ .f b i ∧ x ≠ .g b i) : valD (flagV (wdB early late b) F G) (kS (nmS early late x)) = none := by
  have ox := Nm.inn_ok hB hF hG hx
  refine flag_out (fun i hi z => ?_) (fun i hi z => ?_)
  · exact (h i).1 (nmS_inj W (x := .f b i) (ok_f W hB hF hG hi) ox z).symm
  · exact (h i).2 (nmS_inj W (x := .g b i) (ok_g W hB hF hG hi) ox z).symm
/-- each name has its row -/
theorem kvs_row {x : Nm} (hx : x.inn B F G = true) : valD (kvsV B L F G early late) (kS (nmS early late x)) = some (rowNm B L F G early late x) := by
  rw [kvs_at W hB hF hG]
  cases x with
  | e i =>
    have hi : i < B := of_decide_eq_true hx
    rw [flag_no W hB hF hG hx (fun _ => ⟨by simp, by simp⟩), flag_no W hB hF hG hx (fun _ => ⟨by simp, by simp⟩)]
    show (none : Option D).or ((none : Option D).or (valD (endV B L early late) (kS (eN (i + 1))))) = _
    rw [end_in W hB hF hG hi]
    have e1 : f1N (if i + 1 ≤ L then early else late) = fN (wdB early late (!decide (i + 1 ≤ L))) 1 := by
      by_cases c : i + 1 ≤ L
      · rw [if_pos c, decide_eq_true c]; exact W.f1 false
      · rw [if_neg c, decide_eq_false c]; exact W.f1 true
    rw [e1]
    rfl
  | f b i =>
    have hi : i < F := of_decide_eq_true hx
    have e := flag_f W hB hF hG (b := b) hi
    rw [W.g1 b] at e
    cases b with
    | true =>
      show (valD (flagV (wdB early late true) F G) (kS (fN (wdB early late true) (i + 1)))).or _ = _
      rw [e]
      rfl
    | false =>
      rw [flag_no W hB hF hG hx (fun _ => ⟨by simp, by simp⟩)]
      show (none : Option D).or ((valD (flagV (wdB early late false) F G) (kS (fN (wdB early late false) (i + 1)))).or _) = _
      rw [e]
      rfl
  | g b i =>
    have hi : i < G := of_decide_eq_true hx
    have e := flag_g W hB hF hG (b := b) hi
    rw [W.g1 b, W.f1 b] at e
    cases b with
    | true =>
      show (valD (flagV (wdB early late true) F G) (kS (gN (wdB early late true) (i + 1)))).or _ = _
      rw [e]
      rfl
    | false =>
      rw [flag_no W hB hF hG hx (fun _ => ⟨by simp, by simp⟩)]
      show (none : Option D).or ((valD (flagV (wdB early late false) F G) (kS (gN (wdB early late false) (i + 1)))).or _) = _
      rw [e]
      rfl
end
end
section
variable {B L F G : Nat} {early late : Str} (W : Wok early late) (hB : B ≤ 10) (hF : F ≤ 8) (hG : G ≤ 8)
include W hB hF hG
theorem kvs_nd : ((kvsV B L F G early late).map (·.1)).Nodup := merge_ndK (merge_ndK end_ndK)
/-- each key is a name's -/
theorem kvs_keys {k : Str} (h : (valD (kvsV B L F G early late) (kS k)).isSome = true) : ∃ x : Nm, x.inn B F G = true ∧ k = nmS early late x := by
  by_cases z : ∃ x : Nm, x.inn B F G = true ∧ k = nmS early late x
  · exact z
  · exfalso
    have no : ∀ x : Nm, x.inn B F G = true → nmS early late x ≠ k := fun x hx e => z ⟨x, hx, e.symm⟩
    rw [kvs_at W hB hF hG, flag_out (fun i hi => no (.f true i) (decide_eq_true hi)) (fun i hi => no (.g true i) (decide_eq_true hi)), flag_out (fun i hi => no (.f false i) (decide_eq_true hi)) (fun i hi => no (.g false i) (decide_eq_true hi)), end_out (fun i hi => no (.e i) (decide_eq_true hi))] at h
    cases h
end
def plN (ns : List Str) (a : Str) : D := if a ∈ ns then .int (ns.idxOf a : Nat) else .str a
theorem atV_in {ns : List Str} (nd : ns.Nodup) {a : Str} (h : a ∈ ns) : valD (atV ns) (kS a) = some (.int (ns.idxOf a : Nat)) := by
  have hl := List.idxOf_lt_length_iff.mpr h
  have e : ns.getD (ns.idxOf a) "" = a := by
    rw [List.getD_eq_getElem?_getD, List.getElem?_eq_getElem hl, Option.getD_some]
    exact List.getElem_idxOf hl
  have := valD_foldI (key := fun i => kS (ns.getD i "")) (val := fun i => D.int (i : Nat)) (kv0 := []) (n := ns.length) (i := ns.idxOf a) (fun x y hx hy z => by
    have z := kS_inj z
    rw [List.getD_eq_getElem?_getD, List.getD_eq_getElem?_getD, List.getElem?_eq_getElem hx, List.getElem?_eq_getElem hy] at z
    exact (List.getElem_inj nd).mp z) hl
  rw [e] at this
  exact this
theorem atV_out {ns : List Str} {a : Str} (h : a ∉ ns) : valD (atV ns) (kS a) = none := by
  unfold atV
  refine valD_foldO (key := fun i => kS (ns.getD i "")) (val := fun i => D.int (i : Nat)) (kv0 := []) fun i hi z => h ?_
  have z := kS_inj z
  rw [List.getD_eq_getElem?_getD, List.getElem?_eq_getElem hi] at z
  rw [← z]
  exact List.getElem_mem hi
theorem getV_at {ns : List Str} (nd : ns.Nodup) (a : Str) : getV (atV ns) (.str a) = plN ns a := by
  show (valD (atV ns) (kS a)).getD (.str a) = plN ns a
  unfold plN
  by_cases h : a ∈ ns
  · rw [atV_in nd h, if_pos h]; rfl
  · rw [atV_out h, if_neg h]; rfl
theorem numV_at {kvs : List (Key × D)} {fi : List Str} (nd : (namesV kvs fi).Nodup) {s : Str} (hs : s ∈ namesV kvs fi) {p : D} {a b : Str} (e : valD kvs (kS s) = some (.tup [p, .str a, .str b])) : (numV kvs fi)[(namesV kvs fi).idxOf s]? = some (.tup [p, plN (namesV kvs fi) a, plN (namesV kvs fi) b]) := by
  have hl := List.idxOf_lt_length_iff.mpr hs
  have es : (namesV kvs fi)[(namesV kvs fi).idxOf s]? = some s := by
    rw [List.getElem?_eq_getElem hl]
    exact congrArg some (List.getElem_idxOf hl)
  unfold numV
  rw [List.getElem?_map, es, Option.map_some, e]
  simp only [getV_at nd]
theorem names_mem {kvs : List (Key × D)} {fi : List Str} (h : ∀ s ∈ fi, (valD kvs (kS s)).isSome = true) {s : Str} : s ∈ namesV kvs fi ↔ (valD kvs (kS s)).isSome = true := by
  unfold namesV
  rw [List.mem_append, List.mem_filterMap]
  constructor
  · rintro (z | ⟨kv, hkv, e⟩)
    · exact h s z
    · obtain ⟨a, b⟩ := kv
      cases a with
      | inl i => cases e
      | inr t =>
        simp only at e
        split at e
        · cases e
        · cases e
          exact valD_key.mpr (List.mem_map.mpr ⟨_, hkv, rfl⟩)
  · intro z
    by_cases c : s ∈ fi
    · exact .inl c
    · obtain ⟨kv, hkv, e⟩ := List.mem_map.mp (valD_key.mp z)
      refine .inr ⟨kv, hkv, ?_⟩
      rw [e]
      show (if fi.contains s then none else some s) = some s
      rw [if_neg (by simpa using c)]
theorem names_nd {kvs : List (Key × D)} {fi : List Str} (nd : (kvs.map (·.1)).Nodup) (hf : fi.Nodup) : (namesV kvs fi).Nodup := by
  unfold namesV
  refine List.nodup_append.mpr ⟨hf, ?_, fun a ha b hb e => ?_⟩
  · have key : ∀ l : List (Key × D), (l.map (·.1)).Nodup → (l.filterMap fun x => match x.1 with | .inr s => if fi.contains s then none else some s | _ => none).Nodup := fun l => by
      induction l with
      | nil => intro _; simp
      | cons x l ih =>
        intro h
        rw [List.map_cons, List.nodup_cons] at h
        rw [List.filterMap_cons]
        obtain ⟨k, d⟩ := x
        cases k with
        | inl i => exact ih h.2
        | inr s =>
          by_cases c : fi.contains s = true
          · simp only [c, if_true]; exact ih h.2
          · simp only [c, if_false]
            refine List.nodup_cons.mpr ⟨fun z => h.1 ?_, ih h.2⟩
            obtain ⟨kv, hkv, e⟩ := List.mem_filterMap.mp z
            obtain ⟨k2, d2⟩ := kv
            cases k2 with
            | inl i => cases e
            | inr t =>
              simp only at e
              split at e
              · cases e
              · cases e
                exact List.mem_map.mpr ⟨_, hkv, rfl⟩
    exact key kvs nd
  · obtain ⟨kv, _, e2⟩ := List.mem_filterMap.mp hb
    obtain ⟨k2, d2⟩ := kv
    cases k2 with
    | inl i => cases e2
    | inr t =>
      simp only at e2
      split at e2
      · cases e2
      · rename_i c
        cases e2
        subst e
        exact c (List.contains_iff_mem.mpr ha)
end DL
set_option Elab.async false
set_option linter.all false
set_option maxRecDepth 100000
set_option maxHeartbeats 4000000
namespace DL
open PySem PySem.Spec PyProof.Rows L2
inductive Cs
  | go (x : Nm)
  | wd (b : Bool)
  | no
  deriving DecidableEq
def nextC (B L F G : Nat) : Nm → Int → Cs
  | .e i, ear => if ear = 0 then .go (.f (!decide (i + 1 ≤ L)) 0) else if i + 1 < B then .go (.e (i + 1)) else .wd true
  | .f b i, _ => if i + 1 < F then .go (.f b (i + 1)) else .go (.g b 0)
  | .g b i, ear => if ear = 0 then (if i = 0 then .go (.g b 0) else .go (.f b 0)) else if i + 1 < G then .go (.g b (i + 1)) else .wd b
def putC : Nm → Int
  | .f _ _ => 0
  | _ => 1
def csP (ns : List Str) (early late : Str) : Cs → D
  | .go x => .int (ns.idxOf (nmS early late x) : Nat)
  | .wd b => .str (wdB early late b)
  | .no => .non
theorem nextC_inn {B L F G : Nat} (hF : 1 ≤ F) (hG : 1 ≤ G) {x y : Nm} {ear : Int} (hx : x.inn B F G = true) (h : nextC B L F G x ear = .go y) : y.inn B F G = true := by
  cases x with
  | e i =>
    simp only [nextC] at h
    split at h
    · cases h; exact decide_eq_true hF
    · split at h
      · rename_i c; cases h; exact decide_eq_true c
      · cases h
  | f b i =>
    simp only [nextC] at h
    split at h
    · rename_i c; cases h; exact decide_eq_true c
    · cases h; exact decide_eq_true hG
  | g b i =>
    simp only [nextC] at h
    split at h
    · split at h
      · cases h; exact decide_eq_true hG
      · cases h; exact decide_eq_true hF
    · split at h
      · rename_i c; cases h; exact decide_eq_true c
      · cases h
/-- the machine of a station of a counted end -/
def cntA (B L F G : Nat) (early late : Str) (fi : List Nm) : List D := numV (kvsV B L F G early late) (fi.map (nmS early late))
def cntN (B L F G : Nat) (early late : Str) (fi : List Nm) : List Str := namesV (kvsV B L F G early late) (fi.map (nmS early late))
section
variable {B L F G : Nat} {early late : Str} {fi : List Nm} (W : Wok early late) (hB : B ≤ 10) (hF : F ≤ 8) (hG : G ≤ 8) (f1 : 1 ≤ F) (g1 : 1 ≤ G) (hfi : ∀ x ∈ fi, x.inn B F G = true) (nfi : fi.Nodup)
include W hB hF hG f1 g1 hfi nfi
theorem cntN_nd : (cntN B L F G early late fi).Nodup := by
  refine names_nd (kvs_nd W hB hF hG) ?_
  unfold List.Nodup
  rw [List.pairwise_map]
  refine nfi.imp_of_mem fun {a b} ha hb hab e => hab (nmS_inj W (Nm.inn_ok hB hF hG (hfi a ha)) (Nm.inn_ok hB hF hG (hfi b hb)) e)
theorem cntN_mem {s : Str} : s ∈ cntN B L F G early late fi ↔ ∃ x : Nm, x.inn B F G = true ∧ s = nmS early late x := by
  unfold cntN
  rw [names_mem (fun s hs => by
    obtain ⟨x, hx, rfl⟩ := List.mem_map.mp hs
    rw [kvs_row W hB hF hG (hfi x hx)]; rfl)]
  constructor
  · exact fun h => kvs_keys W hB hF hG h
  · rintro ⟨x, hx, rfl⟩
    rw [kvs_row W hB hF hG hx]; rfl
theorem plN_nm {x : Nm} (hx : x.inn B F G = true) : plN (cntN B L F G early late fi) (nmS early late x) = csP (cntN B L F G early late fi) early late (.go x) := if_pos ((cntN_mem W hB hF hG f1 g1 hfi nfi).mpr ⟨x, hx, rfl⟩)
theorem plN_wd (b : Bool) : plN (cntN B L F G early late fi) (wdB early late b) = .str (wdB early late b) := by
  refine if_neg fun z => ?_
  obtain ⟨x, hx, e⟩ := (cntN_mem W hB hF hG f1 g1 hfi nfi).mp z
  exact nmS_word W (Nm.inn_ok hB hF hG hx) b e.symm
theorem cntA_at {x : Nm} (hx : x.inn B F G = true) : (cntA B L F G early late fi)[(cntN B L F G early late fi).idxOf (nmS early late x)]? = some (.tup [.int (putC x), csP (cntN B L F G early late fi) early late (nextC B L F G x 0), csP (cntN B L F G early late fi) early late (nextC B L F G x 1)]) := by
  have nd := cntN_nd W hB hF hG f1 g1 hfi nfi (L := L)
  have hm : nmS early late x ∈ namesV (kvsV B L F G early late) (fi.map (nmS early late)) := (cntN_mem W hB hF hG f1 g1 hfi nfi).mpr ⟨x, hx, rfl⟩
  have row := kvs_row W hB hF hG (L := L) hx
  have nm := fun {y : Nm} (hy : y.inn B F G = true) => plN_nm W hB hF hG f1 g1 hfi nfi (L := L) hy
  have wd := plN_wd W hB hF hG f1 g1 hfi nfi (L := L)
  cases x with
  | e i =>
    have := numV_at nd hm row
    refine this.trans ?_
    show some (D.tup [.int 1, plN (cntN B L F G early late fi) (nmS early late (.f (!decide (i + 1 ≤ L)) 0)), plN (cntN B L F G early late fi) (if i + 1 < B then nmS early late (.e (i + 1)) else late)]) = _
    rw [nm (y := .f _ 0) (decide_eq_true f1)]
    by_cases c : i + 1 < B
    · rw [if_pos c, nm (y := .e (i + 1)) (decide_eq_true c)]
      simp [nextC, putC, c]
    · rw [if_neg c, show plN (cntN B L F G early late fi) late = .str late from wd true]
      simp only [nextC, putC, c, if_true, if_false, show ¬ (1 : Int) = 0 by decide]
      rfl
  | f b i =>
    have := numV_at nd hm row
    refine this.trans ?_
    show some (D.tup [.int 0, plN (cntN B L F G early late fi) (if i + 1 < F then nmS early late (.f b (i + 1)) else nmS early late (.g b 0)), plN (cntN B L F G early late fi) (if i + 1 < F then nmS early late (.f b (i + 1)) else nmS early late (.g b 0))]) = _
    by_cases c : i + 1 < F
    · rw [if_pos c, nm (y := .f b (i + 1)) (decide_eq_true c)]
      simp [nextC, putC, c]
    · rw [if_neg c, nm (y := .g b 0) (decide_eq_true g1)]
      simp [nextC, putC, c]
  | g b i =>
    have := numV_at nd hm row
    refine this.trans ?_
    show some (D.tup [.int 1, plN (cntN B L F G early late fi) (if i = 0 then nmS early late (.g b 0) else nmS early late (.f b 0)), plN (cntN B L F G early late fi) (if i + 1 < G then nmS early late (.g b (i + 1)) else wdB early late b)]) = _
    have e1 : plN (cntN B L F G early late fi) (if i = 0 then nmS early late (.g b 0) else nmS early late (.f b 0)) = csP (cntN B L F G early late fi) early late (if i = 0 then .go (.g b 0) else .go (.f b 0)) := by
      by_cases c : i = 0
      · rw [if_pos c, if_pos c, nm (y := .g b 0) (decide_eq_true g1)]
      · rw [if_neg c, if_neg c, nm (y := .f b 0) (decide_eq_true f1)]
    rw [e1]
    by_cases c : i + 1 < G
    · rw [if_pos c, nm (y := .g b (i + 1)) (decide_eq_true c)]
      simp [nextC, putC, c]
    · rw [if_neg c, wd b]
      simp only [nextC, putC, c, if_true, if_false, show ¬ (1 : Int) = 0 by decide]
      rfl
theorem cntA_rowAt {x : Nm} (hx : x.inn B F G = true) : rowAt (cntA B L F G early late fi) (csP (cntN B L F G early late fi) early late (.go x)) = .tup [.int (putC x), csP (cntN B L F G early late fi) early late (nextC B L F G x 0), csP (cntN B L F G early late fi) early late (nextC B L F G x 1)] := by
  show ((cntA B L F G early late fi)[((_ : Nat) : Int).toNat]?).getD .non = _
  rw [Int.toNat_natCast, cntA_at W hB hF hG f1 g1 hfi nfi hx]
  rfl
end
end DL
set_option Elab.async false
set_option linter.all false
set_option maxRecDepth 100000
set_option maxHeartbeats 4000000
namespace DL
open PySem PySem.Spec PyProof.Rows L2
abbrev wkH : Wok "lost" "taken" := wok_of wok_h
abbrev wkS : Wok "again" "done" := wok_of wok_s
theorem firstH : (["end 1", "lost flag 1"] : List Str) = [Nm.e 0, Nm.f false 0].map (nmS "lost" "taken") := by decide +kernel
theorem firstS : (["end 1"] : List Str) = [Nm.e 0].map (nmS "again" "done") := by decide +kernel
theorem hearC_eq (B H F G : Nat) : hearC B H F G = cntA B H F G "lost" "taken" [.e 0, .f false 0] := by
  unfold hearC cntA
  rw [kvs_ears, firstH]
theorem sendC_eq (B S F G : Nat) : sendC B S F G = cntA B S F G "again" "done" [.e 0] := by
  unfold sendC cntA
  rw [kvs_mouth, firstS]
structure CntP (B H S F G : Nat) : Prop where
  B1 : 1 ≤ B
  B10 : B ≤ 10
  F1 : 1 ≤ F
  F8 : F ≤ 8
  G1 : 1 ≤ G
  G8 : G ≤ 8
def lmK (H S k : Nat) : Nat := if k = 0 then S else H
def csK (B H S F G k : Nat) (c : Cs) : D := if k = 0 then csP (cntN B S F G "again" "done" [.e 0]) "again" "done" c else csP (cntN B H F G "lost" "taken" [.e 0, .f false 0]) "lost" "taken" c
abbrev rawM (B H S F G : Nat) : Mc := ⟨hearC B H F G, sendC B S F G⟩
def Cs.isGo : Cs → Bool
  | .go _ => true
  | _ => false
section
variable {B H S F G : Nat} (C : CntP B H S F G)
include C
theorem fiH : ∀ x ∈ [Nm.e 0, Nm.f false 0], x.inn B F G = true := fun x hx => by
  simp only [List.mem_cons, List.mem_nil_iff, or_false] at hx
  rcases hx with rfl | rfl
  · exact decide_eq_true C.B1
  · exact decide_eq_true C.F1
theorem fiS : ∀ x ∈ [Nm.e 0], x.inn B F G = true := fun x hx => by
  rw [List.mem_singleton.mp hx]
  exact decide_eq_true C.B1
theorem raw_row (k : Nat) {x : Nm} (hx : x.inn B F G = true) : rowAt ((rawM B H S F G).m k) (csK B H S F G k (.go x)) = .tup [.int (putC x), csK B H S F G k (nextC B (lmK H S k) F G x 0), csK B H S F G k (nextC B (lmK H S k) F G x 1)] := by
  unfold Mc.m csK lmK
  by_cases h : k = 0
  · simp only [h, if_true]
    rw [sendC_eq]
    exact cntA_rowAt wkS C.B10 C.F8 C.G8 C.F1 C.G1 (fiS C) (by decide) hx
  · simp only [h, if_false]
    rw [hearC_eq]
    exact cntA_rowAt wkH C.B10 C.F8 C.G8 C.F1 C.G1 (fiH C) (by decide) hx
end
theorem csK_rw (B H S F G k : Nat) (c : Cs) : isRw (csK B H S F G k c) = c.isGo := by
  unfold csK
  split <;> cases c <;> rfl
theorem csK_no (B H S F G k : Nat) : csK B H S F G k .no = .non := by
  unfold csK
  split <;> rfl
def isFl : Cs → Bool
  | .go (.f _ _) => true
  | _ => false
def silC (ns : List Nat) (sts : List Cs) : List Cs := sts.mapIdx fun k c => if ns.contains k then .no else c
def bitC (sts : List Cs) : Int := if sts.any isFl then 0 else 1
def earC (nw : List Nat) (b : Int) (k : Nat) : Int := if nw.contains k then 1 - b else b
def stpC (B H S F G : Nat) (nw : List Nat) (b : Int) (sts : List Cs) : List Cs := sts.mapIdx fun k c => match c with
  | .go x => nextC B (lmK H S k) F G x (earC nw b k)
  | c => c
/-- where the stations of a moment stand -/
structure StC (x : Mo) (B H S F G m : Nat) (sts : List Cs) : Prop where
  l : sts.length = m + 1
  ps : x.ps = sts.mapIdx fun k c => csK B H S F G k c
  ok : ∀ y, Cs.go y ∈ sts → y.inn B F G = true
section
variable {x : Mo} {B H S F G m : Nat} {sts : List Cs} {ns nw : List Nat}
theorem silC_len : (silC ns sts).length = sts.length := by simp [silC]
theorem silC_get {k : Nat} : (silC ns sts)[k]? = (sts[k]?).map fun c => if ns.contains k then Cs.no else c := by simp [silC, List.getElem?_mapIdx]
theorem stpC_len {b : Int} : (stpC B H S F G nw b sts).length = sts.length := by simp [stpC]
theorem silC_go {y : Nm} (h : Cs.go y ∈ silC ns sts) : Cs.go y ∈ sts := by
  obtain ⟨k, hk⟩ := List.mem_iff_getElem?.mp h
  rw [silC_get] at hk
  obtain ⟨c, e1, e2⟩ := Option.map_eq_some_iff.mp hk
  split at e2
  · cases e2
  · subst e2; exact List.mem_of_getElem? e1
theorem StC.sil (h : StC x B H S F G m sts) : silL (fun k => ns.contains k) x.ps = (silC ns sts).mapIdx fun k c => csK B H S F G k c := by
  refine List.ext_getElem? fun k => ?_
  rw [silL_get, h.ps, List.getElem?_mapIdx, List.getElem?_mapIdx, silC_get]
  cases sts[k]? with
  | none => rfl
  | some c =>
    simp only [Option.map_some]
    cases z : ns.contains k
    · simp
    · simp [csK_no]
theorem StC.okS (h : StC x B H S F G m sts) : ∀ y, Cs.go y ∈ silC ns sts → y.inn B F G = true := fun y hy => h.ok y (silC_go hy)
theorem StC.bit (C : CntP B H S F G) (h : StC x B H S F G m sts) : bitL (rawM B H S F G) (silL (fun k => ns.contains k) x.ps) = bitC (silC ns sts) := by
  rw [h.sil]
  have ok := h.okS (ns := ns)
  generalize silC ns sts = s1 at ok
  unfold bitL bitC
  have : (0 : Int) ∈ puts (rawM B H S F G) (s1.mapIdx fun k c => csK B H S F G k c) ↔ s1.any isFl = true := by
    rw [puts_memF, List.any_eq_true]
    constructor
    · rintro ⟨k, d, e, hr, hz⟩
      rw [List.getElem?_mapIdx] at e
      obtain ⟨c, e1, rfl⟩ := Option.map_eq_some_iff.mp e
      refine ⟨c, List.mem_of_getElem? e1, ?_⟩
      rw [csK_rw] at hr
      cases c with
      | go y =>
        rw [raw_row C k (ok y (List.mem_of_getElem? e1))] at hz
        cases y with
        | e i => simp [putOf, putC] at hz
        | f b i => rfl
        | g b i => simp [putOf, putC] at hz
      | wd b => cases hr
      | no => cases hr
    · rintro ⟨c, hc, hf⟩
      obtain ⟨k, e1⟩ := List.mem_iff_getElem?.mp hc
      cases c with
      | go y =>
        refine ⟨k, _, by rw [List.getElem?_mapIdx, e1]; rfl, csK_rw .., ?_⟩
        rw [raw_row C k (ok y hc)]
        cases y with
        | e i => cases hf
        | f b i => rfl
        | g b i => cases hf
      | wd b => cases hf
      | no => cases hf
  by_cases z : s1.any isFl = true
  · rw [if_pos (this.mpr z), if_pos z]
  · rw [if_neg (fun y => z (this.mp y)), if_neg z]
theorem bitC_01 (s : List Cs) : bitC s = 0 ∨ bitC s = 1 := by unfold bitC; split <;> simp
theorem earC_01 {b : Int} (hb : b = 0 ∨ b = 1) (k : Nat) : earC nw b k = 0 ∨ earC nw b k = 1 := by unfold earC; split <;> omega
theorem StC.step (C : CntP B H S F G) (h : StC x B H S F G m sts) : StC (stepM (rawM B H S F G) (fun k => nw.contains k) (fun k => ns.contains k) x) B H S F G m (stpC B H S F G nw (bitC (silC ns sts)) (silC ns sts)) := by
  have hb := bitC_01 (silC ns sts)
  have ok := h.okS (ns := ns)
  refine ⟨by rw [stpC_len, silC_len, h.l], ?_, fun y hy => ?_⟩
  · show stepL _ _ _ x.ps = _
    unfold stepL
    rw [h.bit C, h.sil]
    refine List.ext_getElem? fun k => ?_
    rw [nxtL_get, List.getElem?_mapIdx, List.getElem?_mapIdx, stpC, List.getElem?_mapIdx]
    cases e : (silC ns sts)[k]? with
    | none => rfl
    | some c =>
      simp only [Option.map_some]
      rw [csK_rw]
      cases c with
      | go y =>
        have hy := ok y (List.mem_of_getElem? e)
        show some (nxtOf (earK (fun k => nw.contains k) (bitC (silC ns sts)) k) (rowAt _ _)) = _
        rw [raw_row C k hy, show earK (fun k => nw.contains k) (bitC (silC ns sts)) k = earC nw (bitC (silC ns sts)) k from rfl]
        rcases earC_01 (nw := nw) hb k with z | z <;> rw [z] <;> rfl
      | wd b => rfl
      | no => rfl
  · obtain ⟨k, e⟩ := List.mem_iff_getElem?.mp hy
    rw [stpC, List.getElem?_mapIdx] at e
    obtain ⟨c, e1, e2⟩ := Option.map_eq_some_iff.mp e
    cases c with
    | go z => exact nextC_inn C.F1 C.G1 (ok z (List.mem_of_getElem? e1)) e2
    | wd b => cases e2
    | no => cases e2
theorem StC.ears (C : CntP B H S F G) (h : StC x B H S F G m sts) (k : Nat) : (stepM (rawM B H S F G) (fun k => nw.contains k) (fun k => ns.contains k) x).es[k]? = (x.es[k]?).map fun e => if (((silC ns sts)[k]?).map Cs.isGo).getD false = true then e ++ [earC nw (bitC (silC ns sts)) k] else e := by
  simp only [stepM, hearL]
  rw [List.getElem?_mapIdx, h.bit C, h.sil, List.getD_eq_getElem?_getD, List.getElem?_mapIdx]
  cases x.es[k]? with
  | none => rfl
  | some e =>
    simp only [Option.map_some]
    cases (silC ns sts)[k]? with
    | none => rfl
    | some c =>
      simp only [Option.map_some, Option.getD_some, csK_rw]
      rfl
end
def costC (B G : Nat) : Nm → Nat
  | .e i => B - i
  | .f _ _ => 0
  | .g _ i => G - i
def NoGo (sts : List Cs) : Prop := ∀ y, Cs.go y ∉ sts
def Mu (B F G : Nat) (sts : List Cs) (k : Nat) : Prop :=
  NoGo sts ∨ (∃ i, (∀ y, Cs.go y ∈ sts → ∃ b, y = .g b i) ∧ i < G ∧ G - i ≤ k) ∨
  (∃ j, (∀ y, Cs.go y ∈ sts → (∃ b i, y = .f b i ∧ F - i ≤ j) ∨ ∃ b, y = .g b 0) ∧ j + G + 1 ≤ k) ∨
  ∃ a, (∀ y, Cs.go y ∈ sts → costC B G y ≤ a) ∧ F + G + 2 + a ≤ k
section
variable {B H S F G m : Nat} {sts : List Cs} {ns nw : List Nat} {k : Nat}
theorem Mu.sil (h : Mu B F G sts k) : Mu B F G (silC ns sts) k := by
  rcases h with h | ⟨i, h, a⟩ | ⟨j, h, a⟩ | ⟨a, h, b⟩
  · exact .inl fun y hy => h y (silC_go hy)
  · exact .inr (.inl ⟨i, fun y hy => h y (silC_go hy), a⟩)
  · exact .inr (.inr (.inl ⟨j, fun y hy => h y (silC_go hy), a⟩))
  · exact .inr (.inr (.inr ⟨a, fun y hy => h y (silC_go hy), b⟩))
theorem Mu.any (C : CntP B H S F G) (h : ∀ y, Cs.go y ∈ sts → y.inn B F G = true) : Mu B F G sts 28 := by
  have := C.B10
  have := C.F8
  have := C.G8
  refine .inr (.inr (.inr ⟨10, fun y _ => ?_, by omega⟩))
  cases y <;> simp only [costC] <;> omega
theorem Mu.pos (h : Mu B F G sts k) {y : Nm} (hy : Cs.go y ∈ sts) : 1 ≤ k := by
  rcases h with h | ⟨i, _, a, b⟩ | ⟨j, _, a⟩ | ⟨a, _, b⟩
  · exact absurd hy (h y)
  · omega
  · omega
  · omega
theorem stpC_go {b : Int} {y : Nm} (h : Cs.go y ∈ stpC B H S F G nw b sts) : ∃ (q : Nat) (x : Nm), Cs.go x ∈ sts ∧ nextC B (lmK H S q) F G x (earC nw b q) = .go y := by
  obtain ⟨q, e⟩ := List.mem_iff_getElem?.mp h
  rw [stpC, List.getElem?_mapIdx] at e
  obtain ⟨c, e1, e2⟩ := Option.map_eq_some_iff.mp e
  cases c with
  | go x => exact ⟨q, x, List.mem_of_getElem? e1, e2⟩
  | wd b => cases e2
  | no => cases e2
theorem bit_fl {b : Bool} {i : Nat} (h : Cs.go (.f b i) ∈ sts) : bitC sts = 0 := if_pos (List.any_eq_true.mpr ⟨_, h, rfl⟩)
theorem bit_no (h : ∀ b i, Cs.go (.f b i) ∉ sts) : bitC sts = 1 := if_neg fun z => by
  obtain ⟨c, hc, e⟩ := List.any_eq_true.mp z
  cases c with
  | go y =>
    cases y with
    | f b i => exact h b i hc
    | e i => cases e
    | g b i => cases e
  | wd b => cases e
  | no => cases e
theorem earC_nil (b : Int) (q : Nat) : earC [] b q = b := rfl
/-- a bit that nobody hears wrongly leads on -/
theorem Mu.step (C : CntP B H S F G) (hk : ∀ y, Cs.go y ∈ sts → y.inn B F G = true) (h : Mu B F G sts k) {y0 : Nm} (hy0 : Cs.go y0 ∈ sts) : Mu B F G (stpC B H S F G [] (bitC sts) sts) (k - 1) := by
  have F1 := C.F1
  have G1 := C.G1
  rcases h with h | ⟨i, h, hi, a⟩ | ⟨j, h, a⟩ | ⟨a, h, b⟩
  · exact absurd hy0 (h y0)
  · have hb : bitC sts = 1 := bit_no fun b i hf => by
      obtain ⟨b', e⟩ := h _ hf
      cases e
    rw [hb]
    have key : ∀ y, Cs.go y ∈ stpC B H S F G [] 1 sts → i + 1 < G ∧ ∃ b, y = .g b (i + 1) := fun y hy => by
      obtain ⟨q, x, hx, e⟩ := stpC_go hy
      obtain ⟨b, rfl⟩ := h x hx
      rw [earC_nil] at e
      simp only [nextC, if_neg (show ¬ (1 : Int) = 0 by decide)] at e
      split at e
      · rename_i c; cases e; exact ⟨c, b, rfl⟩
      · cases e
    by_cases c : i + 1 < G
    · exact .inr (.inl ⟨i + 1, fun y hy => (key y hy).2, c, by omega⟩)
    · exact .inl fun y hy => c (key y hy).1
  · by_cases hf : ∃ b i, Cs.go (.f b i) ∈ sts
    · obtain ⟨b, i, hf⟩ := hf
      rw [bit_fl hf]
      have hij : 1 ≤ j := by
        rcases h _ hf with ⟨b', i', e, hj⟩ | ⟨b', e⟩
        · cases e
          have := hk _ hf
          have : i < F := of_decide_eq_true this
          omega
        · cases e
      refine .inr (.inr (.inl ⟨j - 1, fun y hy => ?_, by omega⟩))
      obtain ⟨q, x, hx, e⟩ := stpC_go hy
      rw [earC_nil] at e
      rcases h x hx with ⟨b', i', rfl, hj⟩ | ⟨b', rfl⟩
      · simp only [nextC] at e
        split at e
        · cases e; exact .inl ⟨_, _, rfl, by omega⟩
        · cases e; exact .inr ⟨_, rfl⟩
      · simp only [nextC, if_true] at e
        cases e
        exact .inr ⟨_, rfl⟩
    · have hb : bitC sts = 1 := bit_no fun b i z => hf ⟨b, i, z⟩
      rw [hb]
      have key : ∀ y, Cs.go y ∈ stpC B H S F G [] 1 sts → 1 < G ∧ ∃ b, y = .g b 1 := fun y hy => by
        obtain ⟨q, x, hx, e⟩ := stpC_go hy
        rcases h x hx with ⟨b', i', rfl, _⟩ | ⟨b, rfl⟩
        · exact absurd ⟨b', i', hx⟩ hf
        · rw [earC_nil] at e
          simp only [nextC, if_neg (show ¬ (1 : Int) = 0 by decide)] at e
          split at e
          · rename_i c; cases e; exact ⟨by omega, b, rfl⟩
          · cases e
      by_cases c : 1 < G
      · exact .inr (.inl ⟨1, fun y hy => (key y hy).2, c, by omega⟩)
      · exact .inl fun y hy => c (key y hy).1
  · by_cases hf : ∃ b i, Cs.go (.f b i) ∈ sts
    · obtain ⟨b', i', hf⟩ := hf
      rw [bit_fl hf]
      refine .inr (.inr (.inl ⟨F, fun y hy => ?_, by omega⟩))
      obtain ⟨q, x, hx, e⟩ := stpC_go hy
      rw [earC_nil] at e
      cases x with
      | e i => simp only [nextC, if_true] at e; cases e; exact .inl ⟨_, _, rfl, by omega⟩
      | f c i =>
        simp only [nextC] at e
        split at e
        · cases e; exact .inl ⟨_, _, rfl, by omega⟩
        · cases e; exact .inr ⟨_, rfl⟩
      | g c i =>
        simp only [nextC, if_true] at e
        split at e
        · cases e; exact .inr ⟨_, rfl⟩
        · cases e; exact .inl ⟨_, _, rfl, by omega⟩
    · have hb : bitC sts = 1 := bit_no fun b i z => hf ⟨b, i, z⟩
      rw [hb]
      have ha : 1 ≤ a := by
        have h1 := h y0 hy0
        have h2 := hk y0 hy0
        cases y0 with
        | e i => have : i < B := of_decide_eq_true h2; simp only [costC] at h1; omega
        | f c i => exact absurd ⟨c, i, hy0⟩ hf
        | g c i => have : i < G := of_decide_eq_true h2; simp only [costC] at h1; omega
      refine .inr (.inr (.inr ⟨a - 1, fun y hy => ?_, by omega⟩))
      obtain ⟨q, x, hx, e⟩ := stpC_go hy
      have h1 := h x hx
      have h2 := hk x hx
      rw [earC_nil] at e
      cases x with
      | e i =>
        have : i < B := of_decide_eq_true h2
        simp only [nextC, if_neg (show ¬ (1 : Int) = 0 by decide)] at e
        simp only [costC] at h1
        split at e
        · cases e; simp only [costC]; omega
        · cases e
      | f c i => exact absurd ⟨c, i, hx⟩ hf
      | g c i =>
        have : i < G := of_decide_eq_true h2
        simp only [nextC, if_neg (show ¬ (1 : Int) = 0 by decide)] at e
        simp only [costC] at h1
        split at e
        · cases e; simp only [costC]; omega
        · cases e
end
end DL
set_option Elab.async false
set_option linter.all false
set_option maxRecDepth 100000
set_option maxHeartbeats 4000000
namespace DL
open PySem PySem.Spec PyProof.Rows L2
inductive Vm
  | w (t s : Nat)
  | c (t s c : Nat)
def Vm.ok : Vm → Bool
  | .w t s => decide (t < 3 ∧ s < 6)
  | .c t s k => decide (t < 3 ∧ s < 6 ∧ k < 7)
def Vm.inn (v n r : Nat) : Vm → Bool
  | .w t s => decide (t < r ∧ s < v)
  | .c t s k => decide (t < r ∧ s < v ∧ k ≤ min s n)
def PutsR (f : List (Key × D) → List (Key × D)) (R : Key → D → Prop) : Prop := ∀ kv k, (∃ d, R k d ∧ valD (f kv) k = some d) ∨ ((∀ d, ¬ R k d) ∧ valD (f kv) k = valD kv k)
theorem PutsR.put (k0 : Key) (v : D) : PutsR (fun kv => putKD kv k0 v) (fun k d => k = k0 ∧ d = v) := fun kv k => by
  rw [valD_put]
  by_cases h : k = k0
  · exact .inl ⟨v, ⟨h, rfl⟩, if_pos h⟩
  · exact .inr ⟨fun d z => h z.1, if_neg h⟩
theorem PutsR.comp {f g : List (Key × D) → List (Key × D)} {R T : Key → D → Prop} (hf : PutsR f R) (hg : PutsR g T) : PutsR (fun kv => g (f kv)) (fun k d => R k d ∨ T k d) := fun kv k => by
  rcases hg (f kv) k with ⟨d, h1, h2⟩ | ⟨h1, h2⟩
  · exact .inl ⟨d, .inr h1, h2⟩
  · rcases hf kv k with ⟨d, h3, h4⟩ | ⟨h3, h4⟩
    · exact .inl ⟨d, .inl h3, h2.trans h4⟩
    · exact .inr ⟨fun d z => z.elim (h3 d) (h1 d), h2.trans h4⟩
end DL
set_option Elab.async false
set_option linter.all false
set_option maxRecDepth 100000
set_option maxHeartbeats 4000000
namespace DL
open PySem PySem.Spec PyProof.Rows L2
end DL
set_option Elab.async false
set_option linter.all false
set_option maxRecDepth 100000
set_option maxHeartbeats 4000000
namespace DL
open PySem PySem.Spec PyProof.Rows L2
def lcGo2 (g : DTG) (tt : DTT) (wi2 : DTI) (g2 : DTG) (tt2 : DTT) (te : DTE) (vs2 : List Nat) (Gd : Ow → Prop) : Nat → List D → Env → Ow → (List D → Ow → Prop) → Prop
  | _, [], _, O, q => Gd O ∧ q [] O
  | c, x :: xs, env, O, q => Gd O ∧ g x env O fun env2 _ => tt env2 O fun b O3 => if b = true then wi2 env2 O3 fun ys Gd2 O4 => c + ys.length ≤ sizeLine ∧ lcGo g2 tt2 te Gd2 ys (wipeD env2 vs2) O4 fun zs O5 => ∃ o2, SubO o2 O5 ∧ lcGo2 g tt wi2 g2 tt2 te vs2 Gd (c + ys.length) xs env o2 fun ws O6 => q (zs ++ ws) O6
    else ∃ o2, SubO o2 O3 ∧ lcGo2 g tt wi2 g2 tt2 te vs2 Gd c xs env o2 q
def dLc2 (wi : DTI) (g : DTG) (tt : DTT) (wi2 : DTI) (g2 : DTG) (tt2 : DTT) (te : DTE) (vs vs2 : List Nat) : DTE := fun env O q => wi env O fun xs Gd O1 => lcGo2 g tt wi2 g2 tt2 te vs2 Gd 0 xs (wipeD env vs) O1 fun ys O2 => q (.lst ys) O2
def dLc2O (wi : DTI) (g : DTG) (tt : DTT) (wi2 : DTI) (g2 : DTG) (tt2 : DTT) (te : DTE) (vs vs2 : List Nat) : DTE := fun env O q => wi env O fun xs Gd O1 => lcGo2 g tt wi2 g2 tt2 te vs2 Gd 0 xs (wipeD env vs) O1 fun ys O2 => ∀ p, O2 p = none → q (.ref p) (setO O2 p (.lst ys))
section
variable {X : Cx} {B : Bd}
theorem lc2_sim {wi wi2 : DTI} {g g2 : TG} {dg dg2 : DTG} {tt tt2 : DTT} {te : DTE} {vs vs2 : List Nat} (sg : SimG B.K vs g dg) (sg2 : SimG B.K vs2 g2 dg2) {σ : L2.St} {H : Hp} {Q : VK} {env : Env} {O : Ow} {F : Hp} {q : List D → Ow → Prop} (R : Rel B env O σ H F)
    (h : wi env O fun xs Gd O1 => lcGo2 dg tt wi2 dg2 tt2 te vs2 Gd 0 xs (wipeD env vs) O1 q)
    (k : ∀ ys vs' O' H' F' p, After B.K O H F O' H' F' → (O p ≠ none ∨ H p = none) → O' p = none → F' p = none → RVs B.K F' ys vs' → H' p = some (.lst vs') → q ys O' → Q (.ref p) H') :
    tLc2 (liftI B wi) g (liftT B tt) (liftI B wi2) g2 (liftT B tt2) (lift B te) vs vs2 σ H Q := by
  refine ⟨env, O, F, _, R, h, fun xs Gd O1 H1 F1 J a1 hJ h1 p hp => ?_⟩
  have R1 := R.call a1
  obtain ⟨p1, p2⟩ := R1.free hp
  have hp0 : O p ≠ none ∨ H p = none := by
    by_cases ho : O p = none
    · refine .inr ?_
      cases e : H p with
      | none => rfl
      | some o => exact absurd hp (a1.kn p o e ho)
    · exact .inl ho
  refine ⟨fun i n Hc => n = xs.length - i ∧ i ≤ xs.length ∧ ∃ O2 F2 acc av c, After B.K O1 H1 F1 O2 Hc F2 ∧ O2 p = none ∧ F2 p = none ∧ acc.length ≤ c ∧ c ≤ sizeLine ∧ RVs B.K F2 acc av ∧ Hc p = some (.lst av) ∧ lcGo2 dg tt wi2 dg2 tt2 te vs2 Gd c (xs.drop i) (wipeD env vs) O2 fun ys O3 => q (acc ++ ys) O3,
    ⟨xs.length, by simp, Nat.zero_le _, O1, F1, [], [], 0, (After.refl R1).upn p1 p2 (.inr hp) (nt_none hp), p1, p2, Nat.le_refl _, Nat.zero_le _, .nil, upd_same, h1⟩, ?_⟩
  rintro i n H2 ⟨rfl, hi, O2, F2, acc, av, c, a2, e1, e2, e3, e3c, ra, e4, h2⟩
  by_cases hlt : i < xs.length
  · refine .inr ?_
    rw [List.drop_eq_getElem_cons hlt] at h2
    obtain ⟨gd, h2⟩ := h2
    obtain ⟨hgo, hy⟩ := (hJ O2 H2 F2 i a2.ff a2.fh a2.ow gd).1 xs[i] (List.getElem?_eq_getElem hlt)
    refine ⟨hgo, fun Hc => ∃ O2 F2 acc av c, After B.K O1 H1 F1 O2 Hc F2 ∧ O2 p = none ∧ F2 p = none ∧ acc.length ≤ c ∧ c ≤ sizeLine ∧ RVs B.K F2 acc av ∧ Hc p = some (.lst av) ∧ lcGo2 dg tt wi2 dg2 tt2 te vs2 Gd c (xs.drop (i + 1)) (wipeD env vs) O2 fun ys O3 => q (acc ++ ys) O3,
      fun H' n => ⟨xs.length - (i + 1), by omega, rfl, hlt, n⟩, fun v H3 yv => ?_⟩
    obtain ⟨F3, a3, rv⟩ := hy v H3 yv
    obtain ⟨o3, f3, l3⟩ := a3.out e1 e2 e4
    have b3 := a2.trans a3
    refine sg (wipeD env vs) O2 σ (wipe σ vs) H3 F3 v xs[i] _ _ a3.fh (((R1.sl.wiped vs).mono a2.ff).mono a3.ff) wipe_wipe rv h2 fun env' ρ' ew sl' h3 => ⟨ew, ?_⟩
    refine ⟨env', O2, F3, _, ⟨R1.af.trans b3, sl'⟩, h3, fun b O4 H4 F4 a4 h4 => ?_⟩
    obtain ⟨o4, f4, l4⟩ := a4.out o3 f3 l3
    have b4 := b3.trans a4
    have r4 := (ra.mono a3.ff).mono a4.ff
    cases b with
    | false =>
      rw [if_neg (by decide)] at h4
      obtain ⟨o2, sb, h4⟩ := h4
      exact iteF ⟨o2, F4, acc, av, c, b4.weak sb, sb.gone o4, f4, e3, e3c, r4, l4, h4⟩
    | true =>
      rw [if_pos rfl] at h4
      refine iteT ⟨env', O4, F4, _, ⟨R1.af.trans b4, sl'.mono a4.ff⟩, h4, fun ys Gd2 O5 H5 F5 J1 a5 hJ1 h5 => ?_⟩
      obtain ⟨hc, h5⟩ := h5
      obtain ⟨o5, f5, l5⟩ := a5.out o4 f4 l4
      have b5 := b4.trans a5
      have sl5 := (sl'.mono a4.ff).mono a5.ff
      refine ⟨fun j l Hc => l = ys.length - j ∧ j ≤ ys.length ∧ ∃ O6 F6 acc av, After B.K O1 H1 F1 O6 Hc F6 ∧ L2.Same F5 F6 ∧ O6 p = none ∧ F6 p = none ∧ acc.length ≤ c + j ∧ RVs B.K F6 acc av ∧ Hc p = some (.lst av) ∧ lcGo dg2 tt2 te Gd2 (ys.drop j) (wipeD env' vs2) O6 fun zs O7 => ∃ o2, SubO o2 O7 ∧ lcGo2 dg tt wi2 dg2 tt2 te vs2 Gd (c + ys.length) (xs.drop (i + 1)) (wipeD env vs) o2 fun ws O8 => q (acc ++ (zs ++ ws)) O8,
        ⟨ys.length, by simp, Nat.zero_le _, O5, F5, acc, av, b5, fun _ _ e => e, o5, f5, e3, r4.mono a5.ff, l5, h5⟩, ?_⟩
      rintro j l H6 ⟨rfl, hj, O6, F6, acc6, av6, a6, s6, g1, g2', g3, m6, g4, h6⟩
      by_cases hlt2 : j < ys.length
      · refine .inr ?_
        rw [List.drop_eq_getElem_cons hlt2] at h6
        obtain ⟨gd2, h6⟩ := h6
        obtain ⟨hgo2, hy2⟩ := (hJ1 O6 H6 F6 j s6 a6.fh a6.ow gd2).1 ys[j] (List.getElem?_eq_getElem hlt2)
        refine ⟨hgo2, fun Hc => ∃ O6 F6 acc av, After B.K O1 H1 F1 O6 Hc F6 ∧ L2.Same F5 F6 ∧ O6 p = none ∧ F6 p = none ∧ acc.length ≤ c + (j + 1) ∧ RVs B.K F6 acc av ∧ Hc p = some (.lst av) ∧ lcGo dg2 tt2 te Gd2 (ys.drop (j + 1)) (wipeD env' vs2) O6 fun zs O7 => ∃ o2, SubO o2 O7 ∧ lcGo2 dg tt wi2 dg2 tt2 te vs2 Gd (c + ys.length) (xs.drop (i + 1)) (wipeD env vs) o2 fun ws O8 => q (acc ++ (zs ++ ws)) O8,
          fun H' n => ⟨ys.length - (j + 1), by omega, rfl, hlt2, n⟩, fun v2 H7 yv2 => ?_⟩
        obtain ⟨F7, a7, rv2⟩ := hy2 v2 H7 yv2
        obtain ⟨o7, f7, l7⟩ := a7.out g1 g2' g4
        have b7 := a6.trans a7
        refine sg2 (wipeD env' vs2) O6 ρ' (wipe ρ' vs2) H7 F7 v2 ys[j] _ _ a7.fh (((sl5.wiped vs2).mono s6).mono a7.ff) wipe_wipe rv2 h6 fun env2 ρ2 ew2 sl2 h7 => ⟨ew2, ?_⟩
        refine ⟨env2, O6, F7, _, ⟨R1.af.trans b7, sl2⟩, h7, fun b2 O8 H8 F8 a8 h8 => ?_⟩
        obtain ⟨o8, f8, l8⟩ := a8.out o7 f7 l7
        have b8 := b7.trans a8
        have m8 := (m6.mono a7.ff).mono a8.ff
        cases b2 with
        | false =>
          rw [if_neg (by decide)] at h8
          obtain ⟨o2, sb, h8⟩ := h8
          exact iteF ⟨o2, F8, acc6, av6, b8.weak sb, (s6.trans a7.ff).trans a8.ff, sb.gone o8, f8, by omega, m8, l8, h8⟩
        | true =>
          rw [if_pos rfl] at h8
          refine iteT ⟨env2, O8, F8, _, ⟨R1.af.trans b8, sl2.mono a8.ff⟩, h8, fun y yw O9 H9 F9 a9 ry h9 => ?_⟩
          obtain ⟨o9, f9, l9⟩ := a9.out o8 f8 l8
          have m9 := m8.mono a9.ff
          obtain ⟨o2, sb, h9⟩ := h9
          refine ⟨av6, l9, by rw [← m9.length]; omega, o2, F9, acc6 ++ [y], _, ((b8.trans a9).weak sb).upn (sb.gone o9) f9 (.inr hp) (nt_some l9 nt_lst), ((s6.trans a7.ff).trans a8.ff).trans a9.ff, sb.gone o9, f9, by simp; omega, m9.append (.cons ry .nil), upd_same, ?_⟩
          simpa using h9
      · have e : j = ys.length := by omega
        subst e
        rw [List.drop_length] at h6
        obtain ⟨gd2, o2, sb, h7⟩ := h6
        refine .inl ⟨(hJ1 O6 H6 F6 _ s6 a6.fh a6.ow gd2).2 rfl, ?_⟩
        exact ⟨o2, F6, acc6, av6, c + ys.length, a6.weak sb, sb.gone g1, g2', g3, hc, m6, g4, by simpa using h7⟩
  · have e : i = xs.length := by omega
    subst e
    rw [List.drop_length] at h2
    refine .inl ⟨(hJ O2 H2 F2 _ a2.ff a2.fh a2.ow h2.1).2 rfl, k acc av O2 H2 F2 p (a1.trans a2) hp0 e1 e2 ra e4 ?_⟩
    simpa using h2.2
theorem lift_lc2O {wi wi2 : DTI} {g g2 : TG} {dg dg2 : DTG} {tt tt2 : DTT} {te : DTE} {vs vs2 : List Nat} (sg : SimG B.K vs g dg) (sg2 : SimG B.K vs2 g2 dg2) (σ : L2.St) (H : Hp) (Q : VK) (h : lift B (dLc2O wi dg tt wi2 dg2 tt2 te vs vs2) σ H Q) : tLc2 (liftI B wi) g (liftT B tt) (liftI B wi2) g2 (liftT B tt2) (lift B te) vs vs2 σ H Q := by
  obtain ⟨env, O, F, q, R, h, k⟩ := h
  refine lc2_sim sg sg2 R h fun ys vs' O' H' F' p a hp0 o' f' r l hq => ?_
  exact k _ _ _ H' F' (a.mine (u := .lst ys) f' hp0 l ⟨vs', rfl, r⟩) (.ref p) (hq p o')
theorem ds_setLc2O {st : Stmt} {i : Nat} {wi wi2 : DTI} {g g2 : TG} {dg dg2 : DTG} {tt tt2 : DTT} {te : DTE} {vs vs2 : List Nat} (sg : SimG B.K vs g dg) (sg2 : SimG B.K vs2 g2 dg2) (h : PS X st (tAsg (tLc2 (liftI B wi) g (liftT B tt) (liftI B wi2) g2 (liftT B tt2) (lift B te) vs vs2) (gName i))) : PS X st (liftS B (dAsg (dLc2O wi dg tt wi2 dg2 tt2 te vs vs2) (dgName i))) :=
  ds_set (PS.weak h fun E σ H q => lift_lc2O sg sg2 σ H _ q)
end
theorem i_lc2 {wi wi2 : DTI} {g g2 : DTG} {tt tt2 : DTT} {te : DTE} {vs vs2 : List Nat} {env : Env} {O : Ow} {q : DQ} (h : wi env O fun xs Gd O1 => lcGo2 g tt wi2 g2 tt2 te vs2 Gd 0 xs (wipeD env vs) O1 fun ys O2 => q (.lst ys) O2) : dLc2 wi g tt wi2 g2 tt2 te vs vs2 env O q := h
theorem i_lc2O {wi wi2 : DTI} {g g2 : DTG} {tt tt2 : DTT} {te : DTE} {vs vs2 : List Nat} {env : Env} {O : Ow} {q : DQ} (h : wi env O fun xs Gd O1 => lcGo2 g tt wi2 g2 tt2 te vs2 Gd 0 xs (wipeD env vs) O1 fun ys O2 => ∀ p, O2 p = none → q (.ref p) (setO O2 p (.lst ys))) : dLc2O wi g tt wi2 g2 tt2 te vs vs2 env O q := h
section
variable {X : Cx} {B : Bd} {pos p : Pos} {k : Nat} {wx : DW} {e : Expr} {kws : List Keyword} {tA tB : DTA}
def rMaxDef (K : Frag) : List V → List V → Hp → VK → Prop := fun vs zs H Q => ∃ (a : Addr) (ns : List Int) (d : V), vs = [V.ref a] ∧ zs = [d] ∧ SqL K H a (ns.map V.int) ∧ (ns = [] → Q d H) ∧ ∀ n ms, ns = n :: ms → Q (.int (ms.foldl max n)) H
theorem crk_maxDef (hc : X.calm = true) (hu : X.A.units + 66 < cLine) : CallRK X (.builtin "max") [Str.ofString "default"] (rMaxDef X.K) := by
  intro pins s σ H xs zs us ws Q I r rz h
  obtain ⟨a, ns, d, rfl, rfl, hs, h0, h1⟩ := h
  obtain ⟨its, rv, hl, _⟩ := I.list hs
  rw [Vals.ref1 r]
  cases rz with
  | cons rd rn =>
    cases rn
    obtain ⟨as, hr⟩ := Dp.readsAll I (ns.map PyData.int) (ns.map V.int) its (dpAll_ints ns) rv
    show wpAny _ _ (call (.builtin "max") [.ref a] [(Str.ofString "default", _)]) _ _ _
    refine PySem.W.max_list_default (I.ok.hd hc) hl.isList (by simpa using hr) ⟨fun x hx y hy => ?_, fun x hx => ?_⟩ (by rw [depthAll_ints]; omega) (fun hn h' tk hk => ?_) fun y ys i v h' tk bs hxs hv hrd hk => ?_
    · obtain ⟨i, _, rfl⟩ := List.mem_map.mp hx
      obtain ⟨j, _, rfl⟩ := List.mem_map.mp hy
      rfl
    · obtain ⟨i, _, rfl⟩ := List.mem_map.mp hx
      exact fun z => by cases z
    · exact ⟨d, H, I.kept hk, rd, h0 (List.map_eq_nil_iff.mp hn)⟩
    · cases ns with
      | nil => cases hxs
      | cons n ms =>
        cases hxs
        rw [PySem.W.maxD_ints] at hrd
        cases hrd
        exact ⟨.int _, H, I.kept hk, ⟨_, rfl⟩, h1 n ms rfl⟩
def dMaxDef : List D → List D → Ow → DQ → Prop := fun ds es O q => ∃ (d : D) (ns : List Int) (z : D), ds = [d] ∧ es = [z] ∧ asL O d = some (ns.map D.int) ∧ (ns = [] → q z O) ∧ ∀ n ms, ns = n :: ms → q (.int (ms.foldl max n)) O
theorem so_maxDef (S : Site X B k wx) (hc : X.calm = true) (hg : Gl X "max") (hm : X.mg "max" = none) (ha : PA X [e] (liftA B tA)) (hk : PK X kws (liftA B tB))
    (he : backTo pos (starEach [e] X.env) = (false, eval e X.env) :: backTo pos (starEach [] X.env) := by rfl) (hpl : (backTo pos (starEach [e] X.env)).any (·.1) = false := by rfl)
    (hall : (backToKw pos (keywordEach kws X.env)).all (·.1.isSome) = true := by rfl) (hnone : (backToKw pos (keywordEach kws X.env)).any (·.1.isNone) = false := by rfl) (hks : (backToKw pos (keywordEach kws X.env)).filterMap (·.1) = [Str.ofString "default"] := by rfl) :
    PE X (.Call (.Name "max" p) [e] kws pos) (lift B (dCKw dMaxDef tA tB)) := PE.weak (pe_callBK (crk_maxDef hc S.u66) hg hm bt_max ha hk (by decide) (by decide) he hpl hall hnone hks) fun σ H Q h => by
  obtain ⟨env, O, F, q, R, h, kk⟩ := h
  refine ⟨env, O, F, _, R, h, fun ds vs O1 H1 F1 a1 r1 h1 => ?_⟩
  have R1 := R.call a1
  refine ⟨env, O1, F1, _, R1, h1, fun es ws O2 H2 F2 a2 r2 h2 => ?_⟩
  obtain ⟨d, ns, z, rfl, rfl, e1, h3, h4⟩ := h2
  obtain ⟨v, rfl, rd⟩ := r1.one
  obtain ⟨zv, rfl, rz⟩ := r2.one
  obtain ⟨a, xs, rfl, hs, hr⟩ := asL_sq a2.fh a2.ow (rd.mono a2.ff) e1
  have := rvs_ints hr
  subst this
  refine ⟨a, ns, zv, rfl, rfl, by rw [S.hK]; exact hs, fun e => kk _ _ O2 H2 F2 (a1.trans a2) rz (h3 e), fun n ms e => kk _ _ O2 H2 F2 (a1.trans a2) (.int _) (h4 n ms e)⟩
theorem i_maxDef {O : Ow} {q : DQ} {d z : D} {ns : List Int} (e : asL O d = some (ns.map D.int)) (h0 : ns = [] → q z O) (h1 : ∀ n ms, ns = n :: ms → q (.int (ms.foldl max n)) O) : dMaxDef [d] [z] O q := ⟨d, ns, z, rfl, rfl, e, h0, h1⟩
end
end DL
set_option Elab.async false
set_option linter.all false
set_option maxRecDepth 100000
set_option maxHeartbeats 4000000
namespace DL
open PySem PySem.Spec PyProof.Rows L2
/-- whether bits lead from a place to a word with the last bit -/
def lgP (rs : List D) : D → List Int → Bool
  | pl, [] => !isRw pl
  | pl, b :: u => isRw pl && lgP rs (nxD rs pl b) u
/-- a question: both machines and the logs -/
structure Exq where
  hs : List D
  ss : List D
  logs : List (Option (List Int))
abbrev Fau := List (Int × Int)
abbrev Mom := Nat × List D × Fau
namespace Exq
variable (X : Exq)
def m (k : Nat) : List D := if k = 0 then X.ss else X.hs
def log (k : Nat) : Option (List Int) := (X.logs[k]?).getD none
def lens : List Int := X.logs.filterMap fun l => l.map fun u => ((u.length : Nat) : Int)
def long : Nat := X.logs.foldl (fun a l => match l with | none => a | some u => max a u.length) 0
def okS (k row : Nat) : Bool := match X.log k with
  | none => true
  | some u => lgP (X.m k) (.int (row : Nat)) u
def addF (k row : Nat) (x : Fau × List D) : Fau × List D := (x.1 ++ (if row = 1 then [(0, (k : Int))] else []), x.2 ++ [.int (row : Nat)])
def fstep (found : List (Fau × List D)) (k : Nat) : List (Fau × List D) := (if X.okS k 0 then found.map (addF k 0) else []) ++ (if X.okS k 1 then found.map (addF k 1) else [])
def first : List (Fau × List D) := if X.okS 0 0 then (List.range (X.logs.length - 1)).foldl (fun f i => X.fstep f (i + 1)) [([], [.int 0])] else []
def going (ps : List D) : List Nat := (List.range ps.length).filter fun k => isRw (ps.getD k .non)
def putsE (ps : List D) : List Int := (going ps).map fun k => putOf (rowAt (X.m k) (ps.getD k .non))
def line (ps : List D) : Int := if (0 : Int) ∈ X.putsE ps then 0 else 1
def ears (a : Nat) (b : Int) (k : Nat) : List Int := match X.log k with
  | some u => [u.getD a 0]
  | none => if a < 5000 then [b, 1 - b] else [b]
def put1 (b : Int) (ps : List D) (k : Nat) (x : List Nat × List D) (e : Int) : List Nat × List D := (x.1 ++ (if e = b then [] else [k]), x.2.set k (nxD (X.m k) (ps.getD k .non) e))
def lstep (a : Nat) (ps : List D) (found : List (List Nat × List D)) (k : Nat) : List (List Nat × List D) := found.flatMap fun x => (X.ears a (X.line ps) k).map (X.put1 (X.line ps) ps k x)
def later (a : Nat) (ps : List D) : List (List Nat × List D) := (going ps).foldl (X.lstep a ps) [([], ps)]
def nxt (a : Nat) (f : Fau) (x : List Nat × List D) : Mom := (a + 1, x.2, f ++ x.1.map fun k => (((a + 1 : Nat) : Int), ((k : Nat) : Int)))
def next (q : Mom) : List Mom := (X.later q.1 q.2.1).map (nxt q.1 q.2.2)
def mark (q : Mom) : Nat × List D := (min q.1 X.long, q.2.1)
inductive Re : Mom → Prop
  | start {x : Fau × List D} : x ∈ X.first → Re (0, x.2, x.1)
  | step {q q' : Mom} : Re q → (going q.2.1 ≠ []) → q' ∈ X.next q → Re q'
end Exq
end DL
set_option Elab.async false
set_option linter.all false
set_option maxRecDepth 100000
set_option maxHeartbeats 4000000
namespace DL
open PySem PySem.Spec PyProof.Rows L2
namespace Exq
variable {X : Exq}
theorem getD_out {α : Type} {l : List α} {k : Nat} {d : α} (h : l.length ≤ k) : l.getD k d = d := by
  rw [List.getD_eq_getElem?_getD, List.getElem?_eq_none h]
  rfl
def stepE (X : Exq) (ps : List D) (e : Nat → Int) : List D := (List.range ps.length).map fun k => if isRw (ps.getD k .non) then nxD (X.m k) (ps.getD k .non) (e k) else ps.getD k .non
theorem setF_get (g : Nat → D) : ∀ (gs : List Nat) (l : List D) (j : Nat), (gs.foldl (fun l k => l.set k (g k)) l)[j]? = if j ∈ gs ∧ j < l.length then some (g j) else l[j]?
  | [], l, j => by simp
  | k :: t, l, j => by
    rw [List.foldl_cons, setF_get g t (l.set k (g k)) j, List.length_set, List.getElem?_set]
    by_cases h1 : j ∈ t ∧ j < l.length
    · rw [if_pos h1, if_pos ⟨List.mem_cons_of_mem _ h1.1, h1.2⟩]
    · rw [if_neg h1]
      by_cases h2 : k = j
      · subst h2
        by_cases h3 : k < l.length
        · rw [if_pos rfl, if_pos h3, if_pos ⟨List.mem_cons_self, h3⟩]
        · rw [if_pos rfl, if_neg h3, if_neg fun z => h3 z.2]
          exact (List.getElem?_eq_none (by omega)).symm
      · rw [if_neg h2, if_neg]
        rintro ⟨a, b⟩
        rcases List.mem_cons.mp a with a | a
        · exact h2 a.symm
        · exact h1 ⟨a, b⟩
theorem setF_congr {g g' : Nat → D} : ∀ {gs : List Nat} (l : List D), (∀ k ∈ gs, g k = g' k) → gs.foldl (fun l k => l.set k (g k)) l = gs.foldl (fun l k => l.set k (g' k)) l
  | [], _, _ => rfl
  | k :: t, l, h => by
    rw [List.foldl_cons, List.foldl_cons, h k List.mem_cons_self]
    exact setF_congr _ fun j hj => h j (List.mem_cons_of_mem _ hj)
theorem filter_congr2 {p p' : Nat → Bool} {gs : List Nat} (h : ∀ k ∈ gs, p k = p' k) : gs.filter p = gs.filter p' := List.filter_congr h
theorem lfold_mem (a : Nat) (ps : List D) : ∀ (gs : List Nat) (init : List (List Nat × List D)) (x : List Nat × List D), gs.Nodup →
    (x ∈ gs.foldl (X.lstep a ps) init ↔ ∃ x0 ∈ init, ∃ e : Nat → Int, (∀ k ∈ gs, e k ∈ X.ears a (X.line ps) k) ∧ x = (x0.1 ++ gs.filter (fun k => decide (e k ≠ X.line ps)), gs.foldl (fun l k => l.set k (nxD (X.m k) (ps.getD k .non) (e k))) x0.2))
  | [], init, x, _ => by
    constructor
    · exact fun h => ⟨x, h, fun _ => 0, fun _ h => (List.not_mem_nil h).elim, by simp⟩
    · rintro ⟨x0, h, e, _, rfl⟩
      simpa using h
  | k :: t, init, x, nd => by
    have nk : k ∉ t := (List.nodup_cons.mp nd).1
    rw [List.foldl_cons, lfold_mem a ps t _ x (List.nodup_cons.mp nd).2]
    constructor
    · rintro ⟨x1, h1, e, he, rfl⟩
      obtain ⟨x0, h0, h1⟩ := List.mem_flatMap.mp h1
      obtain ⟨c, hc, rfl⟩ := List.mem_map.mp h1
      refine ⟨x0, h0, fun j => if j = k then c else e j, fun j hj => ?_, ?_⟩
      · dsimp only
        rcases List.mem_cons.mp hj with rfl | hj
        · rw [if_pos rfl]; exact hc
        · rw [if_neg (fun z : j = k => nk (z ▸ hj))]; exact he j hj
      · have e1 : ∀ j ∈ t, (if j = k then c else e j) = e j := fun j hj => if_neg fun z : j = k => nk (z ▸ hj)
        rw [List.foldl_cons, List.filter_cons, filter_congr2 (p := fun j => decide ((if j = k then c else e j) ≠ X.line ps)) (p' := fun j => decide (e j ≠ X.line ps)) fun j hj => by rw [e1 j hj],
          setF_congr (g := fun j => nxD (X.m j) (ps.getD j .non) (if j = k then c else e j)) (g' := fun j => nxD (X.m j) (ps.getD j .non) (e j)) _ fun j hj => by rw [e1 j hj]]
        simp only [put1, if_true]
        by_cases hc0 : c = X.line ps
        · simp [hc0]
        · simp [hc0]
    · rintro ⟨x0, h0, e, he, rfl⟩
      refine ⟨X.put1 (X.line ps) ps k x0 (e k), List.mem_flatMap.mpr ⟨x0, h0, List.mem_map.mpr ⟨e k, he k List.mem_cons_self, rfl⟩⟩, e, fun j hj => he j (List.mem_cons_of_mem _ hj), ?_⟩
      rw [List.foldl_cons, List.filter_cons]
      simp only [put1]
      by_cases hc0 : e k = X.line ps
      · simp [hc0]
      · simp [hc0]
theorem going_nd (ps : List D) : (going ps).Nodup := List.Pairwise.filter _ List.nodup_range
theorem going_mem {ps : List D} {k : Nat} : k ∈ going ps ↔ isRw (ps.getD k .non) = true := by
  unfold going
  rw [List.mem_filter, List.mem_range]
  refine ⟨fun h => h.2, fun h => ⟨?_, h⟩⟩
  by_cases hk : k < ps.length
  · exact hk
  · rw [getD_out (by omega)] at h
    cases h
theorem later_mem {a : Nat} {ps : List D} {x : List Nat × List D} : x ∈ X.later a ps ↔ ∃ e : Nat → Int, (∀ k ∈ going ps, e k ∈ X.ears a (X.line ps) k) ∧ x = ((going ps).filter (fun k => decide (e k ≠ X.line ps)), X.stepE ps e) := by
  have key : ∀ e : Nat → Int, (going ps).foldl (fun l k => l.set k (nxD (X.m k) (ps.getD k .non) (e k))) ps = X.stepE ps e := fun e => by
    apply List.ext_getElem?
    intro j
    rw [setF_get]
    unfold stepE
    rw [List.getElem?_map]
    by_cases hj : j < ps.length
    · rw [List.getElem?_range hj, Option.map_some]
      by_cases hr : isRw (ps.getD j .non) = true
      · rw [if_pos ⟨going_mem.mpr hr, hj⟩, if_pos hr]
      · rw [if_neg (fun z => hr (going_mem.mp z.1)), if_neg hr, List.getD_eq_getElem?_getD, List.getElem?_eq_getElem hj]
        rfl
    · rw [if_neg (fun z => hj z.2), List.getElem?_eq_none (by omega), List.getElem?_eq_none (by rw [List.length_range]; omega)]
      rfl
  unfold later
  rw [lfold_mem a ps _ _ _ (going_nd ps)]
  constructor
  · rintro ⟨x0, h0, e, he, rfl⟩
    rw [List.mem_singleton.mp h0]
    exact ⟨e, he, by rw [key]; rfl⟩
  · rintro ⟨e, he, rfl⟩
    exact ⟨([], ps), List.mem_singleton.mpr rfl, e, he, by rw [key]; rfl⟩
theorem stepE_len {ps : List D} {e : Nat → Int} : (X.stepE ps e).length = ps.length := by simp [stepE]
theorem stepE_get {ps : List D} {e : Nat → Int} {k : Nat} (hk : k < ps.length) : (X.stepE ps e).getD k .non = if isRw (ps.getD k .non) then nxD (X.m k) (ps.getD k .non) (e k) else ps.getD k .non := by
  unfold stepE
  rw [List.getD_eq_getElem?_getD, List.getElem?_map, List.getElem?_range hk]
  rfl
def nn (X : Exq) : Nat := ((List.range X.logs.length).filter fun k => (X.log k).isNone).length
theorem ears_len (a : Nat) (b : Int) (k : Nat) : (X.ears a b k).length ≤ if (X.log k).isNone then 2 else 1 := by
  unfold ears
  cases h : X.log k with
  | none =>
    show (if a < 5000 then [b, 1 - b] else [b]).length ≤ 2
    split <;> simp
  | some u => exact Nat.le_refl _
theorem lfold_len (a : Nat) (ps : List D) : ∀ (gs : List Nat) (init : List (List Nat × List D)), (gs.foldl (X.lstep a ps) init).length ≤ init.length * 2 ^ (gs.filter fun k => (X.log k).isNone).length
  | [], init => by simp
  | k :: t, init => by
    rw [List.foldl_cons]
    refine Nat.le_trans (lfold_len a ps t _) ?_
    have h1 : (X.lstep a ps init k).length ≤ init.length * (if (X.log k).isNone then 2 else 1) := by
      unfold lstep
      rw [List.length_flatMap]
      have : (init.map fun x => ((X.ears a (X.line ps) k).map (X.put1 (X.line ps) ps k x)).length) = List.replicate init.length (X.ears a (X.line ps) k).length := by
        rw [List.eq_replicate_iff]
        refine ⟨by simp, fun n hn => ?_⟩
        obtain ⟨x, _, rfl⟩ := List.mem_map.mp hn
        simp
      rw [this, List.sum_replicate_nat]
      exact Nat.mul_le_mul_left _ (ears_len a _ k)
    rw [List.filter_cons]
    refine Nat.le_trans (Nat.mul_le_mul_right _ h1) ?_
    cases (X.log k).isNone with
    | true => simp only [if_true, List.length_cons, Nat.pow_succ]; rw [Nat.mul_assoc, Nat.mul_comm 2]; exact Nat.le_refl _
    | false => simp
theorem sub_len {p : Nat → Bool} : ∀ {l m : List Nat}, l.Sublist m → (l.filter p).length ≤ (m.filter p).length := fun h => (h.filter p).length_le
theorem later_len {a : Nat} {ps : List D} (hl : ps.length = X.logs.length) : (X.later a ps).length ≤ 2 ^ X.nn := by
  unfold later
  refine Nat.le_trans (lfold_len a ps _ _) ?_
  rw [List.length_singleton, Nat.one_mul]
  refine Nat.pow_le_pow_right (by decide) ?_
  unfold nn going
  rw [hl]
  exact sub_len List.filter_sublist
def firstN (X : Exq) (i : Nat) : List (Fau × List D) := (List.range i).foldl (fun f j => X.fstep f (j + 1)) [([], [.int 0])]
theorem firstN_succ (i : Nat) : X.firstN (i + 1) = X.fstep (X.firstN i) (i + 1) := by
  unfold firstN
  rw [List.range_succ, List.foldl_append]
  rfl
def bodF (i : Nat) (r : Nat → Nat) : Fau × List D := ((((List.range i).map (· + 1)).filter fun k => decide (r k = 1)).map fun k => ((0 : Int), ((k : Nat) : Int)), .int 0 :: (List.range i).map fun j => .int ((r (j + 1) : Nat) : Int))
theorem bodF_congr {i : Nat} {r r' : Nat → Nat} (h : ∀ k, 1 ≤ k → k ≤ i → r k = r' k) : bodF i r = bodF i r' := by
  unfold bodF
  congr 1
  · congr 1
    refine List.filter_congr fun k hk => ?_
    obtain ⟨j, hj, rfl⟩ := List.mem_map.mp hk
    rw [h (j + 1) (by omega) (by have := List.mem_range.mp hj; omega)]
  · congr 1
    refine List.map_congr_left fun j hj => ?_
    rw [h (j + 1) (by omega) (by have := List.mem_range.mp hj; omega)]
theorem bodF_succ (i : Nat) (r : Nat → Nat) : bodF (i + 1) r = addF (i + 1) (r (i + 1)) (bodF i r) := by
  unfold bodF addF
  simp only [List.range_succ, List.map_append, List.filter_append, List.map_cons, List.map_nil, List.cons_append, List.filter_cons, List.filter_nil]
  by_cases h : r (i + 1) = 1
  · simp [h]
  · simp [h]
theorem firstN_mem : ∀ (i : Nat) (x : Fau × List D), x ∈ X.firstN i ↔ ∃ r : Nat → Nat, (∀ k, 1 ≤ k → k ≤ i → r k ≤ 1 ∧ X.okS k (r k) = true) ∧ x = bodF i r
  | 0, x => by
    constructor
    · intro h
      exact ⟨fun _ => 0, fun k h1 h2 => by omega, List.mem_singleton.mp h⟩
    · rintro ⟨r, _, rfl⟩
      exact List.mem_singleton.mpr rfl
  | i + 1, x => by
    rw [firstN_succ]
    unfold fstep
    rw [List.mem_append]
    constructor
    · rintro (h | h)
      · split at h
        · obtain ⟨y, hy, rfl⟩ := List.mem_map.mp h
          obtain ⟨r, hr, rfl⟩ := (firstN_mem i y).mp hy
          refine ⟨fun k => if k = i + 1 then 0 else r k, fun k k1 k2 => ?_, ?_⟩
          · dsimp only
            by_cases z : k = i + 1
            · subst z; rw [if_pos rfl]; exact ⟨by omega, ‹_›⟩
            · rw [if_neg z]; exact hr k k1 (by omega)
          · rw [bodF_succ, if_pos rfl]
            congr 1
            exact bodF_congr fun k k1 k2 => (if_neg (by omega)).symm
        · cases h
      · split at h
        · obtain ⟨y, hy, rfl⟩ := List.mem_map.mp h
          obtain ⟨r, hr, rfl⟩ := (firstN_mem i y).mp hy
          refine ⟨fun k => if k = i + 1 then 1 else r k, fun k k1 k2 => ?_, ?_⟩
          · dsimp only
            by_cases z : k = i + 1
            · subst z; rw [if_pos rfl]; exact ⟨by omega, ‹_›⟩
            · rw [if_neg z]; exact hr k k1 (by omega)
          · rw [bodF_succ, if_pos rfl]
            congr 1
            exact bodF_congr fun k k1 k2 => (if_neg (by omega)).symm
        · cases h
    · rintro ⟨r, hr, rfl⟩
      have h0 : bodF i r ∈ X.firstN i := (firstN_mem i _).mpr ⟨r, fun k k1 k2 => hr k k1 (by omega), rfl⟩
      obtain ⟨a, b⟩ := hr (i + 1) (by omega) (by omega)
      rw [bodF_succ]
      rcases (show r (i + 1) = 0 ∨ r (i + 1) = 1 by omega) with e | e
      · rw [e] at b ⊢
        left
        rw [if_pos b]
        exact List.mem_map.mpr ⟨_, h0, rfl⟩
      · rw [e] at b ⊢
        right
        rw [if_pos b]
        exact List.mem_map.mpr ⟨_, h0, rfl⟩
theorem first_mem {x : Fau × List D} : x ∈ X.first ↔ X.okS 0 0 = true ∧ ∃ r : Nat → Nat, (∀ k, 1 ≤ k → k ≤ X.logs.length - 1 → r k ≤ 1 ∧ X.okS k (r k) = true) ∧ x = bodF (X.logs.length - 1) r := by
  unfold first
  split
  · rename_i h
    exact ⟨fun z => ⟨h, (firstN_mem _ x).mp z⟩, fun z => (firstN_mem _ x).mpr z.2⟩
  · rename_i h
    exact ⟨fun z => (List.not_mem_nil z).elim, fun z => (h z.1).elim⟩
theorem bodF_get {n : Nat} {r : Nat → Nat} {k : Nat} (hk : k ≤ n) : (bodF n r).2.getD k .non = .int (((if k = 0 then 0 else r k) : Nat) : Int) := by
  cases k with
  | zero => rfl
  | succ j =>
    show (D.int 0 :: (List.range n).map fun j => D.int ((r (j + 1) : Nat) : Int)).getD (j + 1) .non = _
    rw [List.getD_eq_getElem?_getD, List.getElem?_cons_succ, List.getElem?_map, List.getElem?_range (by omega)]
    simp
theorem bodF_len {n : Nat} {r : Nat → Nat} : (bodF n r).2.length = n + 1 := by simp [bodF]
structure XP (X : Exq) : Prop where
  mh : Mach ["taken", "lost"] X.hs
  ms : Mach ["done", "again"] X.ss
  h2 : 2 ≤ X.hs.length
  s1 : 1 ≤ X.ss.length
  l1 : 1 ≤ X.logs.length
def wX (k : Nat) : List Str := if k = 0 then ["done", "again"] else ["taken", "lost"]
theorem XP.m (h : XP X) (k : Nat) : Mach (wX k) (X.m k) := by
  unfold wX Exq.m
  split
  · exact h.ms
  · exact h.mh
structure Lo (X : Exq) (q : Mom) : Prop where
  len : q.2.1.length = X.logs.length
  pl : ∀ k, k < X.logs.length → plB (X.m k).length (wX k) (q.2.1.getD k .non) = true
  lg : ∀ k u, k < X.logs.length → X.log k = some u → ∃ s : Nat, s ≤ 1 ∧ X.okS k s = true ∧ q.2.1.getD k .non = runD (X.m k) (.int (s : Nat)) (u.take q.1)
theorem lgP_run (rs : List D) : ∀ (u : List Int) (pl : D) (a : Nat), lgP rs pl u = true → lgP rs (runD rs pl (u.take a)) (u.drop a) = true
  | [], pl, a, h => by simpa [runD] using h
  | b :: u, pl, 0, h => h
  | b :: u, pl, a + 1, h => by
    have h : (isRw pl && lgP rs (nxD rs pl b) u) = true := h
    rw [Bool.and_eq_true] at h
    exact lgP_run rs u (nxD rs pl b) a h.2
theorem Lo.drop {q : Mom} (h : Lo X q) {k : Nat} {u : List Int} (hk : k < X.logs.length) (e : X.log k = some u) : lgP (X.m k) (q.2.1.getD k .non) (u.drop q.1) = true := by
  obtain ⟨s, _, h2, h3⟩ := h.lg k u hk e
  unfold okS at h2
  rw [e] at h2
  rw [h3]
  exact lgP_run _ _ _ _ h2
theorem Lo.going {q : Mom} (h : Lo X q) {k : Nat} {u : List Int} (hk : k < X.logs.length) (e : X.log k = some u) : k ∈ going q.2.1 ↔ q.1 < u.length := by
  have := h.drop hk e
  rw [going_mem]
  by_cases ha : q.1 < u.length
  · rw [List.drop_eq_getElem_cons ha] at this
    have h : (isRw (q.2.1.getD k .non) && lgP _ _ _) = true := this
    rw [Bool.and_eq_true] at h
    exact ⟨fun _ => ha, fun _ => h.1⟩
  · rw [List.drop_eq_nil_of_le (by omega)] at this
    have h : (!isRw (q.2.1.getD k .non)) = true := this
    refine ⟨fun z => ?_, fun z => absurd z ha⟩
    rw [z] at h
    cases h
theorem Lo.lt {q : Mom} (h : Lo X q) {k : Nat} (hk : k ∈ Exq.going q.2.1) : k < X.logs.length := by
  rw [← h.len]
  by_cases z : k < q.2.1.length
  · exact z
  · rw [going_mem, getD_out (by omega)] at hk
    cases hk
theorem Re.lo (xp : XP X) {q : Mom} (h : X.Re q) : Lo X q := by
  induction h with
  | start hx =>
    obtain ⟨h0, r, hr, rfl⟩ := first_mem.mp hx
    have l1 := xp.l1
    refine ⟨by rw [bodF_len]; omega, fun k hk => ?_, fun k u hk e => ?_⟩
    · rw [bodF_get (by omega)]
      unfold Exq.m wX
      have h2 := xp.h2
      have s1 := xp.s1
      by_cases z : k = 0
      · subst z
        simp [plB]
        omega
      · rw [if_neg z, if_neg z, if_neg z]
        have := (hr k (by omega) (by omega)).1
        simp [plB]
        omega
    · rw [bodF_get (by omega)]
      by_cases z : k = 0
      · subst z
        exact ⟨0, by omega, h0, rfl⟩
      · rw [if_neg z]
        have := hr k (by omega) (by omega)
        exact ⟨r k, this.1, this.2, rfl⟩
  | @step q q' hq hg hn ih =>
    obtain ⟨x, hx, rfl⟩ := List.mem_map.mp hn
    obtain ⟨e, he, rfl⟩ := later_mem.mp hx
    refine ⟨by show (X.stepE _ _).length = _; rw [stepE_len]; exact ih.len, fun k hk => ?_, fun k u hk ek => ?_⟩
    · show plB _ _ ((X.stepE _ _).getD k .non) = true
      rw [stepE_get (by rw [ih.len]; exact hk)]
      split
      · exact nx_pl (xp.m k) (ih.pl k hk) _
      · exact ih.pl k hk
    · show ∃ s : Nat, s ≤ 1 ∧ _ ∧ (X.stepE _ _).getD k .non = runD _ _ (u.take (q.1 + 1))
      obtain ⟨s, s1, s2, s3⟩ := ih.lg k u hk ek
      refine ⟨s, s1, s2, ?_⟩
      rw [stepE_get (by rw [ih.len]; exact hk)]
      have hgo := ih.going hk ek
      by_cases ha : q.1 < u.length
      · have hm := hgo.mpr ha
        rw [if_pos (going_mem.mp hm), List.take_add_one, List.getElem?_eq_getElem ha, Option.toList_some, runD_snoc, ← s3]
        have := he k hm
        unfold ears at this
        rw [ek] at this
        rw [List.mem_singleton.mp this]
        congr 1
        rw [List.getD_eq_getElem?_getD, List.getElem?_eq_getElem ha]
        rfl
      · rw [if_neg (fun z => ha (hgo.mp (going_mem.mpr z))), s3, List.take_of_length_le (by omega), List.take_of_length_le (by omega)]
theorem long_foldl : ∀ (l : List (Option (List Int))) (a : Nat), a ≤ l.foldl (fun a l => match l with | none => a | some u => max a u.length) a ∧ ∀ u, some u ∈ l → u.length ≤ l.foldl (fun a l => match l with | none => a | some u => max a u.length) a
  | [], a => ⟨Nat.le_refl _, fun _ h => (List.not_mem_nil h).elim⟩
  | o :: l, a => by
    rw [List.foldl_cons]
    cases o with
    | none =>
      obtain ⟨h1, h2⟩ := long_foldl l a
      exact ⟨h1, fun u hu => h2 u (by simpa using hu)⟩
    | some v =>
      obtain ⟨h1, h2⟩ := long_foldl l (max a v.length)
      refine ⟨by dsimp only; omega, fun u hu => ?_⟩
      rcases List.mem_cons.mp hu with hu | hu
      · cases hu; dsimp only; omega
      · exact h2 u hu
theorem log_some {k : Nat} {u : List Int} (h : X.log k = some u) : some u ∈ X.logs := by
  unfold Exq.log at h
  cases e : X.logs[k]? with
  | none => rw [e] at h; cases h
  | some o => rw [e] at h; exact h ▸ List.mem_of_getElem? e
theorem log_long {k : Nat} {u : List Int} (h : X.log k = some u) : u.length ≤ X.long := (long_foldl X.logs 0).2 u (log_some h)
def PLk (X : Exq) (k : Nat) : List D := (List.range (X.m k).length).map (fun i => .int ((i : Nat) : Int)) ++ (wX k).map .str
theorem plk_mem {k : Nat} {d : D} (h : plB (X.m k).length (wX k) d = true) : d ∈ X.PLk k := by
  rcases plB_cases h with ⟨i, rfl, h0, h1⟩ | ⟨s, rfl, hs⟩
  · exact List.mem_append_left _ (List.mem_map.mpr ⟨i.toNat, List.mem_range.mpr (by omega), by congr 1; omega⟩)
  · exact List.mem_append_right _ (List.mem_map.mpr ⟨s, hs, rfl⟩)
theorem plk_len (k : Nat) : (X.PLk k).length = (X.m k).length + 2 := by
  unfold PLk wX
  split <;> simp
def prodL : List (List D) → List (List D)
  | [] => [[]]
  | c :: cs => c.flatMap fun d => (prodL cs).map (d :: ·)
theorem prodL_mem : ∀ {cs : List (List D)} {l : List D}, l.length = cs.length → (∀ (k : Nat) (c : List D), cs[k]? = some c → l.getD k .non ∈ c) → l ∈ prodL cs
  | [], [], _, _ => List.mem_singleton.mpr rfl
  | c :: cs, d :: l, hl, h => by
    refine List.mem_flatMap.mpr ⟨d, h 0 c rfl, List.mem_map.mpr ⟨l, prodL_mem (by simpa using hl) fun k c hk => ?_, rfl⟩⟩
    exact h (k + 1) c hk
def ppL (cs : List (List D)) : Nat := cs.foldr (fun c n => c.length * n) 1
theorem prodL_len : ∀ cs : List (List D), (prodL cs).length = ppL cs
  | [] => rfl
  | c :: cs => by
    rw [prodL, List.length_flatMap]
    have : (c.map fun d => ((prodL cs).map (d :: ·)).length) = List.replicate c.length (ppL cs) := by
      rw [List.eq_replicate_iff]
      refine ⟨by simp, fun n hn => ?_⟩
      obtain ⟨x, _, rfl⟩ := List.mem_map.mp hn
      simp [prodL_len cs]
    rw [this, List.sum_replicate_nat]
    rfl
/-- as many choices for each station: few for those with a log, many for the others -/
theorem ppL_le (X : Exq) (few many : Nat) (f : Nat → List D) : ∀ gs : List Nat, (∀ k ∈ gs, (f k).length ≤ if (X.log k).isNone then many else few) → ppL (gs.map f) ≤ few ^ (gs.filter fun k => !(X.log k).isNone).length * many ^ (gs.filter fun k => (X.log k).isNone).length
  | [], _ => Nat.le_refl _
  | k :: t, h => by
    have ih := ppL_le X few many f t fun j hj => h j (List.mem_cons_of_mem _ hj)
    have hk := h k List.mem_cons_self
    show (f k).length * ppL (t.map f) ≤ _
    refine Nat.le_trans (Nat.mul_le_mul hk ih) ?_
    rw [List.filter_cons, List.filter_cons]
    cases (X.log k).isNone with
    | true =>
      simp only [if_true, Bool.not_true, Bool.false_eq_true, if_false, List.length_cons, Nat.pow_succ]
      rw [Nat.mul_left_comm]
      exact Nat.mul_le_mul_left _ (by rw [Nat.mul_comm]; exact Nat.le_refl _)
    | false =>
      simp only [Bool.false_eq_true, if_false, Bool.not_false, if_true, List.length_cons, Nat.pow_succ]
      rw [← Nat.mul_assoc]
      exact Nat.mul_le_mul_right _ (by rw [Nat.mul_comm]; exact Nat.le_refl _)
def wid (X : Exq) : Nat := max X.hs.length X.ss.length + 2
theorem plk_wid (k : Nat) : (X.PLk k).length ≤ X.wid := by
  rw [plk_len]
  unfold wid Exq.m
  split <;> omega
def cand (X : Exq) (a : Nat) (k : Nat) : List D := match X.log k with
  | none => X.PLk k
  | some u => [runD (X.m k) (.int (0 : Nat)) (u.take a), runD (X.m k) (.int (1 : Nat)) (u.take a)]
def allM (X : Exq) : List (Nat × List D) := (List.range (X.long + 1)).flatMap fun a => (prodL ((List.range X.logs.length).map (X.cand a))).map (a, ·)
def nl (X : Exq) : Nat := ((List.range X.logs.length).filter fun k => !(X.log k).isNone).length
theorem allM_len : X.allM.length ≤ (X.long + 1) * (2 ^ X.nl * X.wid ^ X.nn) := by
  unfold allM
  rw [List.length_flatMap]
  have h : ∀ n, ∀ l : List Nat, (∀ x ∈ l, x ≤ n) → l.sum ≤ l.length * n := fun n l => by
    induction l with
    | nil => intro _; simp
    | cons a t ih =>
      intro h
      have := ih fun x hx => h x (List.mem_cons_of_mem _ hx)
      have h0 := h a List.mem_cons_self
      rw [List.sum_cons, List.length_cons, Nat.add_mul, Nat.one_mul]
      omega
  refine Nat.le_trans (h (2 ^ X.nl * X.wid ^ X.nn) _ fun x hx => ?_) (by simp)
  obtain ⟨a, _, rfl⟩ := List.mem_map.mp hx
  rw [List.length_map, prodL_len]
  refine ppL_le X 2 X.wid (X.cand a) _ fun k _ => ?_
  unfold cand
  cases e : X.log k with
  | none => simpa using plk_wid k
  | some u => simp
theorem mark_mem {q : Mom} (h : Lo X q) : X.mark q ∈ X.allM := by
  refine List.mem_flatMap.mpr ⟨min q.1 X.long, List.mem_range.mpr (by omega), List.mem_map.mpr ⟨q.2.1, prodL_mem (by simp [h.len]) fun k c hk => ?_, rfl⟩⟩
  rw [List.getElem?_map] at hk
  obtain ⟨j, hj, rfl⟩ := Option.map_eq_some_iff.mp hk
  obtain ⟨hj1, hj2⟩ := List.getElem?_eq_some_iff.mp hj
  rw [List.getElem_range] at hj2
  subst hj2
  rw [List.length_range] at hj1
  unfold cand
  cases e : X.log k with
  | none => exact plk_mem (h.pl k hj1)
  | some u =>
    obtain ⟨s, s1, _, s3⟩ := h.lg k u hj1 e
    have et : u.take (min q.1 X.long) = u.take q.1 := by
      have := log_long e
      by_cases z : q.1 ≤ X.long
      · rw [Nat.min_eq_left z]
      · rw [Nat.min_eq_right (by omega), List.take_of_length_le this, List.take_of_length_le (by omega)]
    dsimp only
    rw [s3, et]
    rcases (show s = 0 ∨ s = 1 by omega) with rfl | rfl
    · exact List.mem_cons_self
    · exact List.mem_cons_of_mem _ List.mem_cons_self
structure Fits (X : Exq) (ps c : List D) : Prop where
  len : c.length = X.logs.length
  eq : ∀ k, k < X.logs.length → (X.log k).isNone = false → c.getD k .non = ps.getD k .non
  pl : ∀ k, k < X.logs.length → plB (X.m k).length (wX k) (c.getD k .non) = true
def ChE (X : Exq) (kn : List (Nat × List D)) (q : Mom) : Prop := X.long ≤ q.1 → ∃ cs : List (List D), cs.Nodup ∧ cs.length = q.1 - X.long ∧ ∀ c ∈ cs, (X.long, c) ∈ kn ∧ Fits X q.2.1 c
theorem ChE.mono {kn kn' : List (Nat × List D)} {q : Mom} (h : ChE X kn q) (s : ∀ m ∈ kn, m ∈ kn') : ChE X kn' q := fun hl => by
  obtain ⟨cs, h1, h2, h3⟩ := h hl
  exact ⟨cs, h1, h2, fun c hc => ⟨s _ (h3 c hc).1, (h3 c hc).2⟩⟩
theorem ChE.le {kn : List (Nat × List D)} {q : Mom} (h : ChE X kn q) : q.1 ≤ X.long + X.wid ^ X.nn := by
  by_cases hl : X.long ≤ q.1
  · obtain ⟨cs, h1, h2, h3⟩ := h hl
    have := nd_len (L := prodL ((List.range X.logs.length).map fun k => if (X.log k).isNone then X.PLk k else [q.2.1.getD k .non])) h1 fun c hc => by
      have f := (h3 c hc).2
      refine prodL_mem (by simp [f.len]) fun k c' hk => ?_
      rw [List.getElem?_map] at hk
      obtain ⟨j, hj, rfl⟩ := Option.map_eq_some_iff.mp hk
      obtain ⟨hj1, hj2⟩ := List.getElem?_eq_some_iff.mp hj
      rw [List.getElem_range] at hj2
      subst hj2
      rw [List.length_range] at hj1
      cases e : (X.log k).isNone with
      | true => rw [if_pos rfl]; exact plk_mem (f.pl k hj1)
      | false => rw [if_neg (by decide)]; exact List.mem_singleton.mpr (f.eq k hj1 e)
    rw [prodL_len] at this
    have l2 := ppL_le X 1 X.wid (fun k => if (X.log k).isNone then X.PLk k else [q.2.1.getD k .non]) (List.range X.logs.length) fun k _ => by
      cases (X.log k).isNone with
      | true => rw [if_pos rfl, if_pos rfl]; exact plk_wid k
      | false => rw [if_neg (by decide), if_neg (by decide)]; exact Nat.le_refl _
    rw [Nat.one_pow, Nat.one_mul] at l2
    have l3 : cs.length ≤ X.wid ^ X.nn := Nat.le_trans this l2
    omega
  · omega
theorem ChE.step (xp : XP X) {kn kn' : List (Nat × List D)} {q q' : Mom} (hq : X.Re q) (h : ChE X kn q) (hn : q' ∈ X.next q) (hnew : X.mark q ∉ kn) (s : ∀ m ∈ kn, m ∈ kn') (hm : X.mark q ∈ kn') : ChE X kn' q' := by
  obtain ⟨x, hx, rfl⟩ := List.mem_map.mp hn
  obtain ⟨e, he, rfl⟩ := later_mem.mp hx
  have lo := Re.lo xp hq
  intro hl
  have hl : X.long ≤ q.1 + 1 := hl
  by_cases hq1 : X.long ≤ q.1
  · obtain ⟨cs, h1, h2, h3⟩ := h hq1
    have em : X.mark q = (X.long, q.2.1) := by
      unfold mark
      rw [Nat.min_eq_right hq1]
    have keq : ∀ k, k < X.logs.length → (X.log k).isNone = false → (X.stepE q.2.1 e).getD k .non = q.2.1.getD k .non := fun k hk hs => by
      cases el : X.log k with
      | none => rw [el] at hs; cases hs
      | some u =>
        have := log_long el
        rw [stepE_get (by rw [lo.len]; exact hk), if_neg]
        intro z
        have := (lo.going hk el).mp (going_mem.mpr z)
        omega
    refine ⟨q.2.1 :: cs, List.nodup_cons.mpr ⟨fun z => hnew ?_, h1⟩, by show cs.length + 1 = q.1 + 1 - X.long; omega, fun c hc => ?_⟩
    · rw [em]; exact (h3 _ z).1
    · rcases List.mem_cons.mp hc with rfl | hc
      · exact ⟨em ▸ hm, lo.len, fun k hk hs => (keq k hk hs).symm, lo.pl⟩
      · obtain ⟨a, b⟩ := h3 c hc
        exact ⟨s _ a, b.len, fun k hk hs => (b.eq k hk hs).trans (keq k hk hs).symm, b.pl⟩
  · exact ⟨[], List.nodup_nil, by show 0 = q.1 + 1 - X.long; omega, fun c hc => (List.not_mem_nil hc).elim⟩
theorem ChE.start {kn : List (Nat × List D)} {ps : List D} {f : Fau} : ChE X kn (0, ps, f) := fun hl => ⟨[], List.nodup_nil, by show 0 = 0 - X.long; omega, fun c hc => (List.not_mem_nil hc).elim⟩
def flen (q : Mom) : Nat := q.2.2.length
def putL (lv : List (List Mom)) (e : Mom) : List (List Mom) := (lv ++ List.replicate (flen e + 1 - lv.length) []).set (flen e) (lv.getD (flen e) [] ++ [e])
theorem ext_get (lv : List (List Mom)) (n k : Nat) : (lv ++ List.replicate n []).getD k [] = lv.getD k [] := by
  rw [List.getD_eq_getElem?_getD, List.getD_eq_getElem?_getD]
  by_cases h : k < lv.length
  · rw [List.getElem?_append_left h]
  · rw [List.getElem?_append_right (by omega), List.getElem?_eq_none (l := lv) (by omega), List.getElem?_replicate]
    split <;> rfl
theorem putL_len (lv : List (List Mom)) (e : Mom) : (putL lv e).length = max lv.length (flen e + 1) := by
  unfold putL
  rw [List.length_set, List.length_append, List.length_replicate]
  omega
theorem putL_get (lv : List (List Mom)) (e : Mom) (k : Nat) : (putL lv e).getD k [] = if k = flen e then lv.getD k [] ++ [e] else lv.getD k [] := by
  unfold putL
  rw [List.getD_eq_getElem?_getD, List.getElem?_set]
  by_cases h : flen e = k
  · subst h
    rw [if_pos rfl, if_pos rfl, if_pos (by rw [List.length_append, List.length_replicate]; omega)]
    rfl
  · rw [if_neg h, if_neg (Ne.symm h), ← List.getD_eq_getElem?_getD, ext_get]
def tot (lv : List (List Mom)) : Nat := (lv.map List.length).sum
theorem tot_set : ∀ (lv : List (List Mom)) (k : Nat) (e : Mom), k < lv.length → tot (lv.set k (lv.getD k [] ++ [e])) = tot lv + 1
  | l :: lv, 0, e, _ => by
    show tot ((l ++ [e]) :: lv) = tot (l :: lv) + 1
    simp only [tot, List.map_cons, List.sum_cons, List.length_append, List.length_singleton]
    omega
  | l :: lv, k + 1, e, h => by
    have ih := tot_set lv k e (by simpa using h)
    have : (l :: lv).set (k + 1) ((l :: lv).getD (k + 1) [] ++ [e]) = l :: lv.set k (lv.getD k [] ++ [e]) := rfl
    rw [this]
    simp only [tot, List.map_cons, List.sum_cons] at ih ⊢
    omega
theorem tot_putL (lv : List (List Mom)) (e : Mom) : tot (putL lv e) = tot lv + 1 := by
  unfold putL
  rw [← ext_get lv (flen e + 1 - lv.length) (flen e), tot_set _ _ _ (by rw [List.length_append, List.length_replicate]; omega)]
  congr 1
  simp [tot]
theorem tot_ge : ∀ (lv : List (List Mom)) (k : Nat), (lv.getD k []).length ≤ tot lv
  | [], k => by simp
  | l :: lv, 0 => by simp [tot]
  | l :: lv, k + 1 => by
    have := tot_ge lv k
    show (lv.getD k []).length ≤ _
    simp only [tot, List.map_cons, List.sum_cons] at this ⊢
    omega
def Ent (lv : List (List Mom)) (e : Mom) : Prop := e ∈ lv.getD (flen e) []
theorem Ent.put {lv : List (List Mom)} {e : Mom} (h : Ent lv e) (e' : Mom) : Ent (putL lv e') e := by
  unfold Ent
  rw [putL_get]
  split
  · exact List.mem_append_left _ h
  · exact h
theorem Ent.self (lv : List (List Mom)) (e : Mom) : Ent (putL lv e) e := by
  unfold Ent
  rw [putL_get, if_pos rfl]
  exact List.mem_append_right _ List.mem_cons_self
structure Rep (X : Exq) (lv : List (List Mom)) (e : Mom) : Prop where
  re : X.Re e
  go : going e.2.1 ≠ []
  lt : e.1 < 5000
  nx : ∀ e' ∈ X.next e, Ent lv e'
theorem Rep.put {lv : List (List Mom)} {e : Mom} (h : Rep X lv e) (e' : Mom) : Rep X (putL lv e') e := ⟨h.re, h.go, h.lt, fun x hx => (h.nx x hx).put e'⟩
/-- what holds while the search goes on: lv the levels, kn the marks whose moments are done, kn' all marks; the levels below num are done, and spot moments of this level -/
structure SI (X : Exq) (lv : List (List Mom)) (kn kn' : List (Nat × List D)) (num spot : Nat) : Prop where
  en : ∀ k, ∀ e ∈ lv.getD k [], X.Re e ∧ flen e = k ∧ ChE X kn' e
  fst : ∀ x ∈ X.first, Ent lv (0, x.2, x.1)
  nd : kn.Nodup
  rep : ∀ m ∈ kn, ∃ e, Rep X lv e ∧ X.mark e = m ∧ flen e ≤ num
  don : ∀ (k i : Nat) (e : Mom), (lv.getD k [])[i]? = some e → (k < num ∨ k = num ∧ i < spot) → ∃ r, Rep X lv r ∧ X.mark r = X.mark e ∧ flen r ≤ flen e
variable {lv : List (List Mom)} {kn kn' : List (Nat × List D)} {num spot : Nat}
theorem SI.marks (xp : XP X) (h : SI X lv kn kn' num spot) : kn.length ≤ X.allM.length := nd_len h.nd fun m hm => by
  obtain ⟨e, h1, rfl, _⟩ := h.rep m hm
  exact mark_mem (Re.lo xp h1.re)
/-- a moment that is put is of this level or a later one -/
theorem SI.put (h : SI X lv kn kn' num spot) {e : Mom} (he : X.Re e) (hc : ChE X kn' e) (hf : num ≤ flen e) (hs : spot ≤ (lv.getD num []).length) : SI X (putL lv e) kn kn' num spot := by
  refine ⟨fun k x hx => ?_, fun x hx => (h.fst x hx).put e, h.nd, fun m hm => ?_, fun k i x hx hd => ?_⟩
  · rw [putL_get] at hx
    split at hx
    · rename_i z
      rcases List.mem_append.mp hx with hx | hx
      · exact h.en k x hx
      · rw [List.mem_singleton.mp hx]; exact ⟨he, z.symm, hc⟩
    · exact h.en k x hx
  · obtain ⟨r, r1, r2, r3⟩ := h.rep m hm
    exact ⟨r, r1.put e, r2, r3⟩
  · have : (lv.getD k [])[i]? = some x := by
      rw [putL_get] at hx
      split at hx
      · rename_i z
        rcases hd with hd | ⟨hd, hi⟩
        · omega
        · subst hd
          rw [List.getElem?_append_left (by omega)] at hx
          exact hx
      · exact hx
    obtain ⟨r, r1, r2, r3⟩ := h.don k i x this hd
    exact ⟨r, r1.put e, r2, r3⟩
theorem SI.wide {kn2 : List (Nat × List D)} (h : SI X lv kn kn' num spot) (s : ∀ m ∈ kn', m ∈ kn2) : SI X lv kn kn2 num spot :=
  ⟨fun k e he => ⟨(h.en k e he).1, (h.en k e he).2.1, (h.en k e he).2.2.mono s⟩, h.fst, h.nd, h.rep, h.don⟩
/-- a moment whose mark is known -/
theorem SI.skip (h : SI X lv kn kn num spot) {e : Mom} (he : (lv.getD num [])[spot]? = some e) (hm : X.mark e ∈ kn) : SI X lv kn kn num (spot + 1) := by
  refine ⟨h.en, h.fst, h.nd, h.rep, fun k i x hx hd => ?_⟩
  rcases hd with hd | ⟨rfl, hi⟩
  · exact h.don k i x hx (.inl hd)
  · by_cases z : i < spot
    · exact h.don k i x hx (.inr ⟨rfl, z⟩)
    · obtain rfl : i = spot := by omega
      rw [he] at hx
      cases hx
      obtain ⟨r, r1, r2, r3⟩ := h.rep _ hm
      exact ⟨r, r1, r2, by rw [(h.en k e (List.mem_of_getElem? he)).2.1]; exact r3⟩
/-- a moment whose mark is new, when all that follow it are put -/
theorem SI.new {e : Mom} (h : SI X lv kn (kn ++ [X.mark e]) num spot) (he : (lv.getD num [])[spot]? = some e) (hm : X.mark e ∉ kn) (hg : going e.2.1 ≠ []) (hl : e.1 < 5000) (hn : ∀ e' ∈ X.next e, Ent lv e') : SI X lv (kn ++ [X.mark e]) (kn ++ [X.mark e]) num (spot + 1) := by
  have hen := h.en num e (List.mem_of_getElem? he)
  have hr : Rep X lv e := ⟨hen.1, hg, hl, hn⟩
  refine ⟨h.en, h.fst, ?_, fun m hm' => ?_, fun k i x hx hd => ?_⟩
  · rw [List.nodup_append]
    exact ⟨h.nd, by simp, fun a ha b hb z => hm (by rw [List.mem_singleton.mp hb] at z; exact z ▸ ha)⟩
  · rcases List.mem_append.mp hm' with hm' | hm'
    · exact h.rep m hm'
    · exact ⟨e, hr, (List.mem_singleton.mp hm').symm, by rw [hen.2.1]; exact Nat.le_refl _⟩
  · rcases hd with hd | ⟨rfl, hi⟩
    · exact h.don k i x hx (.inl hd)
    · by_cases z : i < spot
      · exact h.don k i x hx (.inr ⟨rfl, z⟩)
      · obtain rfl : i = spot := by omega
        rw [he] at hx
        cases hx
        exact ⟨e, hr, rfl, Nat.le_refl _⟩
theorem SI.level (h : SI X lv kn kn' num spot) (hs : (lv.getD num []).length ≤ spot) : SI X lv kn kn' (num + 1) 0 := by
  refine ⟨h.en, h.fst, h.nd, fun m hm => ?_, fun k i x hx hd => ?_⟩
  · obtain ⟨r, r1, r2, r3⟩ := h.rep m hm
    exact ⟨r, r1, r2, by omega⟩
  · refine h.don k i x hx ?_
    rcases hd with hd | ⟨_, hi⟩
    · by_cases z : k = num
      · have := (List.getElem?_eq_some_iff.mp hx).1
        subst z
        exact .inr ⟨rfl, by omega⟩
      · exact .inl (by omega)
    · omega
theorem ent_at {e : Mom} (h : Ent lv e) : ∃ i : Nat, (lv.getD (flen e) [])[i]? = some e := List.mem_iff_getElem?.mp h
/-- each moment that can come about is done, or has as many faults as the level -/
theorem SI.all (xp : XP X) (h : SI X lv kn kn' num spot) {q : Mom} (hq : X.Re q) : (∃ r, Rep X lv r ∧ X.mark r = X.mark q ∧ flen r ≤ flen q) ∨ num ≤ flen q ∧ ∃ (k i : Nat) (e : Mom), (lv.getD k [])[i]? = some e ∧ num ≤ k ∧ (k = num → spot ≤ i) := by
  have ent : ∀ e, Ent lv e → (∃ r, Rep X lv r ∧ X.mark r = X.mark e ∧ flen r ≤ flen e) ∨ num ≤ flen e ∧ ∃ (k i : Nat) (e : Mom), (lv.getD k [])[i]? = some e ∧ num ≤ k ∧ (k = num → spot ≤ i) := fun e he => by
    obtain ⟨i, hi⟩ := ent_at he
    by_cases z : flen e < num ∨ flen e = num ∧ i < spot
    · exact .inl (h.don _ i e hi z)
    · exact .inr ⟨by omega, flen e, i, e, hi, by omega, fun z2 => by omega⟩
  induction hq with
  | start hx => exact ent _ (h.fst _ hx)
  | @step q q' hq hg hn ih =>
    obtain ⟨x, hx, rfl⟩ := List.mem_map.mp hn
    have le : flen q ≤ flen (nxt q.1 q.2.2 x) := by
      unfold flen nxt
      rw [List.length_append]
      omega
    rcases ih with ⟨r, r1, r2, r3⟩ | ⟨h1, h2⟩
    · have lo := Re.lo xp hq
      have e2 : r.2.1 = q.2.1 := congrArg Prod.snd r2
      have e1 : min r.1 X.long = min q.1 X.long := congrArg Prod.fst r2
      have hx' : x ∈ X.later r.1 r.2.1 := by
        rw [e2]
        obtain ⟨e, he, rfl⟩ := later_mem.mp hx
        refine later_mem.mpr ⟨e, fun k hk => ?_, rfl⟩
        have := he k hk
        unfold ears at this ⊢
        cases el : X.log k with
        | none =>
          rw [el] at this
          dsimp only at this ⊢
          rw [if_pos r1.lt]
          split at this
          · exact this
          · rw [List.mem_singleton.mp this]; exact List.mem_cons_self
        | some u =>
          rw [el] at this
          have h3 := (lo.going (lo.lt hk) el).mp hk
          have h4 := log_long el
          rw [show r.1 = q.1 by omega]
          exact this
      have hm : nxt r.1 r.2.2 x ∈ X.next r := List.mem_map.mpr ⟨x, hx', rfl⟩
      have lf : flen (nxt r.1 r.2.2 x) ≤ flen (nxt q.1 q.2.2 x) := by
        unfold flen nxt at *
        rw [List.length_append, List.length_append, List.length_map, List.length_map]
        omega
      have mk : X.mark (nxt r.1 r.2.2 x) = X.mark (nxt q.1 q.2.2 x) := by
        unfold mark nxt
        dsimp only
        congr 1
        omega
      rcases ent _ (r1.nx _ hm) with ⟨s, s1, s2, s3⟩ | ⟨s1, s2⟩
      · exact .inl ⟨s, s1, s2.trans mk, by omega⟩
      · exact .inr ⟨by omega, s2⟩
    · exact .inr ⟨by omega, h2⟩
/-- the first moments are put -/
theorem SI.start (h1 : ∀ k, ∀ e ∈ lv.getD k [], X.Re e ∧ flen e = k ∧ ChE X [] e) (h2 : ∀ x ∈ X.first, Ent lv (0, x.2, x.1)) : SI X lv [] [] 0 0 :=
  ⟨h1, h2, List.nodup_nil, fun m hm => (List.not_mem_nil hm).elim, fun k i e _ hd => by omega⟩
/-- an answer -/
inductive Ans (X : Exq) : Option Fau → Prop
  | no : (∀ q, X.Re q → going q.2.1 ≠ []) → Ans X none
  | yes {q : Mom} : X.Re q → going q.2.1 = [] → (∀ q', X.Re q' → going q'.2.1 = [] → flen q ≤ flen q') → Ans X (some q.2.2)
theorem SI.found (xp : XP X) (h : SI X lv kn kn' num spot) {e : Mom} (he : (lv.getD num [])[spot]? = some e) (hg : going e.2.1 = []) : Ans X (some e.2.2) := by
  have hen := h.en num e (List.mem_of_getElem? he)
  refine .yes hen.1 hg fun q hq hr => ?_
  rcases h.all xp hq with ⟨r, r1, r2, _⟩ | ⟨h1, _⟩
  · have e2 : r.2.1 = q.2.1 := congrArg Prod.snd r2
    exact absurd (e2 ▸ hr) r1.go
  · rw [hen.2.1]; exact h1
theorem SI.none (xp : XP X) (h : SI X lv kn kn' num 0) (hl : lv.length ≤ num) : Ans X none := by
  refine .no fun q hq hr => ?_
  rcases h.all xp hq with ⟨r, r1, r2, _⟩ | ⟨_, k, i, e, he, hk, _⟩
  · have e2 : r.2.1 = q.2.1 := congrArg Prod.snd r2
    exact absurd (e2 ▸ hr) r1.go
  · rw [getD_out (by omega)] at he
    cases he
/-- how many faults there are -/
theorem Re.flen_le {q : Mom} (xp : XP X) (h : X.Re q) : flen q ≤ X.logs.length * (q.1 + 1) := by
  induction h with
  | start hx =>
    obtain ⟨_, r, _, rfl⟩ := first_mem.mp hx
    show (List.map _ _).length ≤ _ * 1
    rw [List.length_map, Nat.mul_one]
    have := List.length_filter_le (fun k => decide (r k = 1)) ((List.range (X.logs.length - 1)).map (· + 1))
    rw [List.length_map, List.length_range] at this
    omega
  | @step q q' hq hg hn ih =>
    obtain ⟨x, hx, rfl⟩ := List.mem_map.mp hn
    obtain ⟨e, he, rfl⟩ := later_mem.mp hx
    show (q.2.2 ++ ((going q.2.1).filter (fun k => decide (e k ≠ X.line q.2.1))).map _).length ≤ _ * (q.1 + 1 + 1)
    rw [List.length_append, List.length_map, Nat.mul_succ _ (q.1 + 1)]
    have h1 := List.length_filter_le (fun k => decide (e k ≠ X.line q.2.1)) (going q.2.1)
    have h2 := List.length_filter_le (fun k => isRw (q.2.1.getD k .non)) (List.range q.2.1.length)
    rw [List.length_range, (Re.lo xp hq).len] at h2
    have h3 : q.2.2.length ≤ X.logs.length * (q.1 + 1) := ih
    have h4 : (going q.2.1).length ≤ X.logs.length := by
      unfold going
      rw [(Re.lo xp hq).len]
      exact h2
    omega
theorem SI.len (xp : XP X) (h : SI X lv kn kn' num spot) {b : Nat} (hb : X.long + X.wid ^ X.nn ≤ b) {k : Nat} {e : Mom} (he : e ∈ lv.getD k []) : flen e ≤ X.logs.length * (b + 1) := by
  obtain ⟨h1, _, h3⟩ := h.en k e he
  refine Nat.le_trans (Re.flen_le xp h1) (Nat.mul_le_mul_left _ ?_)
  have := h3.le
  omega
end Exq
end DL
set_option Elab.async false
set_option linter.all false
set_option maxRecDepth 100000
set_option maxHeartbeats 4000000
namespace DL
open PySem PySem.Spec PyProof.Rows L2
theorem lcGo2_map {g : DTG} {tt : DTT} {wi2 : DTI} {g2 : DTG} {tt2 : DTT} {te : DTE} {vs2 : List Nat} {Gd : Ow → Prop} {env : Env} {O : Ow} (h : D → List D) (m C : Nat) (hG : Gd O) : ∀ {xs : List D} {c : Nat} {q : List D → Ow → Prop}, c + xs.length * m ≤ C →
    (∀ x ∈ xs, ∀ (c : Nat), c + m ≤ C → ∀ (K : Nat → List D → Ow → Prop), (∀ n o, n ≤ m → SubO O o → K n (h x) o) → g x env O fun env2 _ => tt env2 O fun b O3 => if b = true then wi2 env2 O3 fun ys Gd2 O4 => c + ys.length ≤ sizeLine ∧ lcGo g2 tt2 te Gd2 ys (wipeD env2 vs2) O4 (K ys.length) else K 0 [] O3) →
    q (xs.flatMap h) O → lcGo2 g tt wi2 g2 tt2 te vs2 Gd c xs env O q
  | [], c, q, _, _, hq => ⟨hG, hq⟩
  | x :: xs, c, q, hc, hx, hq => by
    rw [List.length_cons, Nat.succ_mul] at hc
    refine ⟨hG, hx x List.mem_cons_self c (by omega) (fun n zs O5 => ∃ o2, SubO o2 O5 ∧ lcGo2 g tt wi2 g2 tt2 te vs2 Gd (c + n) xs env o2 fun ws O6 => q (zs ++ ws) O6) fun n o hn sb => ⟨O, sb, ?_⟩⟩
    refine lcGo2_map h m C hG (by omega) (fun x' h' => hx x' (List.mem_cons_of_mem _ h')) ?_
    rw [List.flatMap_cons] at hq
    exact hq
theorem eqv_nil (xs : List D) : PyData.eqv (py (.lst xs)) (py (.lst [])) = xs.isEmpty := by
  cases xs <;> simp [py, pys, PyData.eqv, PyData.eqvAll]
theorem i_eqNil {O : Ow} {q : DQ} {xs : List D} (hx : good (.lst xs) = true) (h : q (.bl xs.isEmpty) O) : dEq (.lst xs) (.lst []) O q := i_eqG hx (by decide +kernel) (by rw [eqv_nil]; exact h)
/-- one statement behind another, with what holds between them -/
theorem i_seqJ {a b : DTS} {E : DEnds} {env : DL.Env} {O : Ow} (R : DL.Env → Ow → Prop) (h1 : ∀ N : DL.Env → Ow → Prop, (∀ e o, R e o → N e o) → a { nx := N, rt := E.rt, bk := E.bk, ct := E.ct } env O) (h2 : ∀ e o, R e o → b E e o) : dSeq a b E env O := h1 _ h2
end DL
set_option Elab.async false
set_option linter.all false
set_option maxRecDepth 100000
set_option maxHeartbeats 4000000
namespace K62
open PySem PySem.Spec PyProof.Rows L2 DL
open ClX (CRead CVal)
def top (i : Nat) : Stmt := PySem.Challenge.pw_strongbit_k62_what_is_a_log.main.body.getD i (.Pass ⟨0, 0, 0, 0⟩)
abbrev s_is_integer : Stmt := top 2
abbrev s_is_bit : Stmt := top 3
abbrev s_is_next : Stmt := top 22
abbrev s_is_row_of : Stmt := top 23
abbrev s_checked_rows : Stmt := top 24
abbrev s_words_from : Stmt := top 25
abbrev s_End___init__ : Stmt := inClass (top 26) 1
abbrev s_End_hearer : Stmt := inClass (top 26) 3
abbrev s_End_sender : Stmt := inClass (top 26) 4
abbrev s_law_take : Stmt := top 29
abbrev s_law_bag : Stmt := top 28
abbrev s_law_of : Stmt := top 30
abbrev s_law_follow : Stmt := top 31
abbrev s_law_drawn_rows : Stmt := top 32
abbrev s_law_voting_place : Stmt := top 33
abbrev s_law_voting_rows : Stmt := top 34
abbrev s_law_rows : Stmt := top 35
abbrev s_is_row : Stmt := top 8
abbrev s_is_log : Stmt := top 10
abbrev s_first_places : Stmt := top 11
abbrev s_later_places : Stmt := top 12
abbrev s_Search___init__ : Stmt := inClass (top 13) 0
abbrev s_Search_put : Stmt := inClass (top 13) 1
abbrev s_Search_is_new : Stmt := inClass (top 13) 2
abbrev s_explained : Stmt := top 14
abbrev s_law_walk : Stmt := top 36
abbrev s_law_way : Stmt := top 37
abbrev s_law_is_due : Stmt := top 38
abbrev s_law_bent : Stmt := top 39
abbrev s_law : Stmt := top 40
def dd_is_integer : DefX := ⟨fun K => (He.ga K "is_integer"), ⟨("is_integer", none), "is_integer", "is_integer", defArgs s_is_integer, defBody s_is_integer, defScope s_is_integer, [], []⟩⟩
def dd_is_bit : DefX := ⟨fun K => (He.ga K "is_bit"), ⟨("is_bit", none), "is_bit", "is_bit", defArgs s_is_bit, defBody s_is_bit, defScope s_is_bit, [], []⟩⟩
def dd_is_next : DefX := ⟨fun K => (He.ga K "is_next"), ⟨("is_next", none), "is_next", "is_next", defArgs s_is_next, defBody s_is_next, defScope s_is_next, [], []⟩⟩
def dd_is_row_of : DefX := ⟨fun K => (He.ga K "is_row_of"), ⟨("is_row_of", none), "is_row_of", "is_row_of", defArgs s_is_row_of, defBody s_is_row_of, defScope s_is_row_of, [], []⟩⟩
def dd_checked_rows : DefX := ⟨fun K => (He.ga K "checked_rows"), ⟨("checked_rows", none), "checked_rows", "checked_rows", defArgs s_checked_rows, defBody s_checked_rows, defScope s_checked_rows, [], []⟩⟩
def dd_words_from : DefX := ⟨fun K => (He.ga K "words_from"), ⟨("words_from", none), "words_from", "words_from", defArgs s_words_from, defBody s_words_from, defScope s_words_from, [], []⟩⟩
def dd_End___init__ : DefX := ⟨fun K => (He.ma K (He.ga K "End") "__init__"), ⟨("End", some "__init__"), "__init__", "End.__init__", defArgs s_End___init__, defBody s_End___init__, defScope s_End___init__, [], []⟩⟩
def dd_End_hearer : DefX := ⟨fun K => (ga2 K "End" "hearer"), ⟨("End", none), "hearer", "End.hearer", defArgs s_End_hearer, defBody s_End_hearer, defScope s_End_hearer, [], []⟩⟩
def dd_End_sender : DefX := ⟨fun K => (ga2 K "End" "sender"), ⟨("End", none), "sender", "End.sender", defArgs s_End_sender, defBody s_End_sender, defScope s_End_sender, [], []⟩⟩
def dd_law_take : DefX := ⟨fun K => (He.ga K "_law_take"), ⟨("_law_take", none), "_law_take", "_law_take", defArgs s_law_take, defBody s_law_take, defScope s_law_take, [], []⟩⟩
def dd_law_bag : DefX := ⟨fun K => (He.ga K "_law_bag"), ⟨("_law_bag", none), "_law_bag", "_law_bag", defArgs s_law_bag, defBody s_law_bag, defScope s_law_bag, [], []⟩⟩
def dd_law_of : DefX := ⟨fun K => (He.ga K "_law_of"), ⟨("_law_of", none), "_law_of", "_law_of", defArgs s_law_of, defBody s_law_of, defScope s_law_of, [], []⟩⟩
def dd_law_follow : DefX := ⟨fun K => (He.ga K "_law_follow"), ⟨("_law_follow", none), "_law_follow", "_law_follow", defArgs s_law_follow, defBody s_law_follow, defScope s_law_follow, [], []⟩⟩
def dd_law_drawn_rows : DefX := ⟨fun K => (He.ga K "_law_drawn_rows"), ⟨("_law_drawn_rows", none), "_law_drawn_rows", "_law_drawn_rows", defArgs s_law_drawn_rows, defBody s_law_drawn_rows, defScope s_law_drawn_rows, [], []⟩⟩
def dd_law_voting_place : DefX := ⟨fun K => (He.ga K "_law_voting_place"), ⟨("_law_voting_place", none), "_law_voting_place", "_law_voting_place", defArgs s_law_voting_place, defBody s_law_voting_place, defScope s_law_voting_place, [], []⟩⟩
def dd_law_voting_rows : DefX := ⟨fun K => (He.ga K "_law_voting_rows"), ⟨("_law_voting_rows", none), "_law_voting_rows", "_law_voting_rows", defArgs s_law_voting_rows, defBody s_law_voting_rows, defScope s_law_voting_rows, [], []⟩⟩
def dd_law_rows : DefX := ⟨fun K => (He.ga K "_law_rows"), ⟨("_law_rows", none), "_law_rows", "_law_rows", defArgs s_law_rows, defBody s_law_rows, defScope s_law_rows, [], []⟩⟩
def dd_is_row : DefX := ⟨fun K => (He.ga K "is_row"), ⟨("is_row", none), "is_row", "is_row", defArgs s_is_row, defBody s_is_row, defScope s_is_row, [], []⟩⟩
def dd_is_log : DefX := ⟨fun K => (He.ga K "is_log"), ⟨("is_log", none), "is_log", "is_log", defArgs s_is_log, defBody s_is_log, defScope s_is_log, [], []⟩⟩
def dd_first_places : DefX := ⟨fun K => (He.ga K "first_places"), ⟨("first_places", none), "first_places", "first_places", defArgs s_first_places, defBody s_first_places, defScope s_first_places, [], []⟩⟩
def dd_later_places : DefX := ⟨fun K => (He.ga K "later_places"), ⟨("later_places", none), "later_places", "later_places", defArgs s_later_places, defBody s_later_places, defScope s_later_places, [], []⟩⟩
def dd_Search___init__ : DefX := ⟨fun K => (He.ma K (He.ga K "Search") "__init__"), ⟨("Search", some "__init__"), "__init__", "Search.__init__", defArgs s_Search___init__, defBody s_Search___init__, defScope s_Search___init__, [], []⟩⟩
def dd_Search_put : DefX := ⟨fun K => (He.ma K (He.ga K "Search") "put"), ⟨("Search", some "put"), "put", "Search.put", defArgs s_Search_put, defBody s_Search_put, defScope s_Search_put, [], []⟩⟩
def dd_Search_is_new : DefX := ⟨fun K => (He.ma K (He.ga K "Search") "is_new"), ⟨("Search", some "is_new"), "is_new", "Search.is_new", defArgs s_Search_is_new, defBody s_Search_is_new, defScope s_Search_is_new, [], []⟩⟩
def dd_explained : DefX := ⟨fun K => (He.ga K "explained"), ⟨("explained", none), "explained", "explained", defArgs s_explained, defBody s_explained, defScope s_explained, [], []⟩⟩
def dd_law_walk : DefX := ⟨fun K => (He.ga K "_law_walk"), ⟨("_law_walk", none), "_law_walk", "_law_walk", defArgs s_law_walk, defBody s_law_walk, defScope s_law_walk, [], []⟩⟩
def dd_law_way : DefX := ⟨fun K => (He.ga K "_law_way"), ⟨("_law_way", none), "_law_way", "_law_way", defArgs s_law_way, defBody s_law_way, defScope s_law_way, [], []⟩⟩
def dd_law_is_due : DefX := ⟨fun K => (He.ga K "_law_is_due"), ⟨("_law_is_due", none), "_law_is_due", "_law_is_due", defArgs s_law_is_due, defBody s_law_is_due, defScope s_law_is_due, [], []⟩⟩
def dd_law_bent : DefX := ⟨fun K => (He.ga K "_law_bent"), ⟨("_law_bent", none), "_law_bent", "_law_bent", defArgs s_law_bent, defBody s_law_bent, defScope s_law_bent, [], []⟩⟩
def dd_law : DefX := ⟨fun K => (He.ga K "law"), ⟨("law", none), "law", "law", defArgs s_law, defBody s_law, defScope s_law, [], []⟩⟩
def fns : List DefX := [dd_is_integer, dd_is_bit, dd_is_next, dd_is_row_of, dd_checked_rows, dd_words_from, dd_End___init__, dd_End_hearer, dd_End_sender, dd_law_take, dd_law_bag, dd_law_of, dd_law_follow, dd_law_drawn_rows, dd_law_voting_place, dd_law_voting_rows, dd_law_rows, dd_is_row, dd_is_log, dd_first_places, dd_later_places, dd_Search___init__, dd_Search_put, dd_Search_is_new, dd_explained, dd_law_walk, dd_law_way, dd_law_is_due, dd_law_bent, dd_law]
def fas : List Fac := [clsB "End", clsB "Search", strB "HEARER" "hearer", gloB "HEARER_WORDS", tupX "HEARER_WORDS" [.str "taken", .str "lost"], intX "MOST_BIT" 5000, strB "SENDER" "sender", gloB "SENDER_WORDS", tupX "SENDER_WORDS" [.str "done", .str "again"], cvalB "End" "MOST" 100, freeB "abs", freeB "bool", freeB "enumerate", freeB "int", freeB "isinstance", freeB "len", freeB "list", freeB "max", freeB "min", freeB "range", freeB "repr", freeB "str", freeB "tuple", gloB "End", gloB "Search", gloB "_law_bag", gloB "_law_bent", gloB "_law_drawn_rows", gloB "_law_follow", gloB "_law_is_due", gloB "_law_of", gloB "_law_rows", gloB "_law_take", gloB "_law_voting_place", gloB "_law_voting_rows", gloB "_law_walk", gloB "_law_way", gloB "checked_rows", gloB "explained", gloB "first_places", gloB "is_bit", gloB "is_integer", gloB "is_log", gloB "is_next", gloB "is_row", gloB "is_row_of", gloB "later_places", gloB "words_from", methB "Search" "is_new", methB "Search" "put", mkrB "End", mkrB "Search", noatB "End" "hearer_rows", noatB "End" "sender_rows", noatB "End" "table", noatB "Search" "known", noatB "Search" "levels", noatB "Search" "longest", propB "End" "hearer", propB "End" "sender", gloB "law"]
abbrev R : PySem.W.OpenRow := PySem.W.OpenLaw.row PySem.Challenge.rw_strongbit_k62_what_is_a_log
abbrev hk : PySem.W.Hook := hookF [mainGlobals, cStatics] [] 4 fas fns
def ob (s : PySem.W.SharedT) : He.AlD := obsFG [mainGlobals, cStatics] [] 4 fas fns (HandSHeadRun.getT s)
theorem ob_eq (s : PySem.W.SharedT) : ob s = hk.obs s.abs := obsFG_eq (HandSHeadRun.getT_eq s)
def loose : List Str := [("_wall" : Str), ("is_integer" : Str), ("is_bit" : Str), ("BadEnd" : Str), ("MOST_BIT" : Str), ("is_row" : Str), ("is_log" : Str), ("first_places" : Str), ("later_places" : Str), ("Search" : Str), ("explained" : Str), ("machine_text" : Str), ("HEARER" : Str), ("SENDER" : Str), ("HEARER_WORDS" : Str), ("SENDER_WORDS" : Str), ("is_next" : Str), ("is_row_of" : Str), ("checked_rows" : Str), ("words_from" : Str), ("End" : Str), ("_law_bag" : Str), ("_law_take" : Str), ("_law_of" : Str), ("_law_follow" : Str), ("_law_drawn_rows" : Str), ("_law_voting_place" : Str), ("_law_voting_rows" : Str), ("_law_rows" : Str), ("_law_walk" : Str), ("_law_way" : Str), ("_law_is_due" : Str), ("_law_bent" : Str)]
theorem runS (w : World) : HandSHeadRun.RunEq R (PySem.W.view R.prog [40]) (hookF [mainGlobals, cStatics] [] 4 [] []) (fun s => obsFG [mainGlobals, cStatics] [] 4 [] [] (HandSHeadRun.getT s)) 20000 loose w := by
  intro os
  kernel_rfl
open HandSHeadRun PySem.W in
theorem runO (w : World) (os : OsState) : (HandSHeadRun.endF (stepQ (denQ tabQ) R.prog w) 20000 R.prog w os).map ob = some (hk.val w) := by
  kernel_rfl
theorem run (w : World) : HandSHeadRun.RunEq R (PySem.W.view R.prog [40]) hk ob 20000 loose w := by
  intro os
  have a := runS w os
  have c := runO w os
  revert a c
  generalize HandSHeadRun.endF _ _ _ _ _ = X
  intro a c
  cases X with
  | none => cases c
  | some s =>
    rw [Option.map_some] at a c ⊢
    injection a with a
    injection c with c
    injection a with a1 a2
    injection a2 with a2 a3
    rw [a1, a2, c]
open PySem PySem.W PySem.Calls PyProof.Rows in
set_option maxRecDepth 100000 in
set_option maxHeartbeats 0 in
theorem headH (said : R.wellSaid = true) (hw : R.toRowW.promised) (call : WalkO (view R.prog [40]) loose (XL (view R.prog [40]) []) hk.says R.toRowW (HandSHeadRun.topDef R.prog 40) [] fun f vs => PySem.call f vs) : R.Holds :=
  HandSHeadRun.head_any (r := R) (q := view R.prog [40]) (H := hk) (ob := ob) (M := 20000) (loose := loose) (d := HandSHeadRun.topDef R.prog 40) (kwd := []) ob_eq
    (by kernel_rfl) (fun s => by kernel_rfl) run (by kernel_rfl) (by kernel_rfl) (by kernel_rfl) (by rfl) said (by decide +kernel) ⟨rfl, rfl, rfl, rfl, rfl, by decide +kernel⟩ hw call
open PySem PySem.W PySem.Calls PyProof.Rows in
set_option maxRecDepth 100000 in
set_option maxHeartbeats 0 in
theorem lawH (hw : R.toRowW.promised) (call : WalkO (view R.prog [40]) loose (XL (view R.prog [40]) []) hk.says R.toRowW (HandSHeadRun.topDef R.prog 40) [] fun f vs => PySem.call f vs) : PySem.Challenge.rw_strongbit_k62_what_is_a_log.Holds := by
  w_on; o_law
  exact headH (by assumption) hw call
end K62
set_option Elab.async false
set_option linter.all false
set_option maxRecDepth 100000
set_option maxHeartbeats 4000000
namespace K62
open PySem PySem.Spec PyProof.Rows L2 DL
open ClX (CRead CVal)
local macro_rules | `(tactic| walk_at "d1") => `(tactic| first | ((with_reducible apply i_var); exact rfl) | ((with_reducible apply i_gtup); exact rfl) | ((with_reducible apply i_augI); exact rfl) | ((with_reducible apply i_ixT); exact rfl) | ((with_reducible apply i_ixL); exact rfl) | with_reducible refine i_seq ?_ | with_reducible refine i_asg ?_ | with_reducible refine i_gname ?_ | with_reducible refine i_c ?_ | with_reducible refine i_op ?_ | with_reducible refine i_cb ?_ | with_reducible refine i_cons ?_ | with_reducible refine i_nil ?_ | with_reducible refine i_expr ?_ | with_reducible refine i_ret ?_ | with_reducible refine i_retN ?_ | with_reducible refine i_next ?_ | with_reducible refine i_for ?_ | with_reducible refine i_par ?_ | with_reducible refine i_test ?_ | with_reducible refine i_tup ?_ | with_reducible refine i_lst ?_ | ((with_reducible refine i_sz ?_ ?_); (focus exact Nat.le_of_ble_eq_true rfl)) | with_reducible refine i_lstO ?_ | with_reducible refine i_break ?_ | with_reducible refine i_cont ?_ | with_reducible refine i_gnil ?_ | with_reducible refine i_gcons ?_ | with_reducible refine i_tru ?_ | with_reducible refine i_and ?_ | with_reducible refine i_or ?_ | with_reducible refine i_not ?_ | with_reducible refine i_andV ?_ | with_reducible refine i_orV ?_ | with_reducible refine i_notV ?_ | with_reducible refine i_neg ?_ | with_reducible refine i_chain ?_ | with_reducible refine i_call ?_ | with_reducible refine i_callK ?_ | with_reducible refine i_append ?_ | with_reducible refine i_gsub ?_ | with_reducible refine i_sl ?_ | with_reducible refine i_slT ?_ | with_reducible refine i_slL ?_ | with_reducible refine i_oN ?_ | with_reducible refine i_oS ?_ | with_reducible refine i_lc ?_ | with_reducible refine i_lc2 ?_ | with_reducible refine i_lc2O ?_ | with_reducible refine i_lcO ?_ | with_reducible refine i_yes ?_ | with_reducible refine i_listRg1 ?_ | with_reducible refine i_rg1 ?_ | with_reducible refine i_rg2 ?_ | with_reducible refine i_seqI ?_ | with_reducible refine i_seqT ?_ | with_reducible refine i_seqL ?_ | with_reducible refine i_lt ?_ | with_reducible refine i_le ?_ | with_reducible refine i_gt ?_ | with_reducible refine i_ge ?_ | with_reducible refine i_sub ?_ | with_reducible refine i_addI ?_ | with_reducible refine i_int ?_ | with_reducible refine i_intb ?_ | with_reducible refine i_abs ?_ | with_reducible refine i_min2 ?_ | with_reducible refine i_max2 ?_ | with_reducible refine i_isN ?_ | with_reducible refine i_notN ?_ | with_reducible refine i_lenL ?_ | with_reducible refine i_lenT ?_ | ((with_reducible apply i_ixO); (focus (first | assumption | exact setO_same | (rw [setO_ne (by assumption)]; first | assumption | exact setO_same))); exact rfl) | ((with_reducible apply i_lenO); (focus (first | assumption | exact setO_same | (rw [setO_ne (by assumption)]; first | assumption | exact setO_same)))) | ((with_reducible apply i_appK); (focus (first | assumption | exact setO_same | (rw [setO_ne (by assumption)]; first | assumption | exact setO_same)))) | ((with_reducible apply i_subK); (focus (first | assumption | exact setO_same | (rw [setO_ne (by assumption)]; first | assumption | exact setO_same))); exact rfl) | ((with_reducible apply i_slO); (focus (first | assumption | exact setO_same | (rw [setO_ne (by assumption)]; first | assumption | exact setO_same)))) | ((with_reducible apply i_seqO); (focus (first | assumption | exact setO_same | (rw [setO_ne (by assumption)]; first | assumption | exact setO_same)))) | ((with_reducible apply i_appK2); (focus (first | assumption | exact setO_same | (rw [setO_ne (by assumption)]; first | assumption | exact setO_same)))) | with_reducible refine i_ice ?_ | with_reducible refine i_iceL ?_ | ((with_reducible apply i_iceK); (focus (first | assumption | exact setO_same | (rw [setO_ne (by assumption)]; first | assumption | exact setO_same)))) | with_reducible refine i_fld ?_ | ((with_reducible apply i_fldK); (focus (first | assumption | exact setO_same | (rw [setO_ne (by assumption)]; first | assumption | exact setO_same))); exact rfl) | with_reducible refine i_sfld ?_ | with_reducible refine i_make ?_ | with_reducible refine i_callK0 ?_ | with_reducible refine i_enum2 ?_ | with_reducible refine i_enumL ?_ | with_reducible refine i_enumT ?_ | with_reducible refine i_par3 ?_ | with_reducible refine i_dsp2 ?_ | ((with_reducible apply i_isi (b := true)); exact rfl; exact rfl; exact rfl) | ((with_reducible apply i_isi (b := false)); exact rfl; exact rfl; exact rfl) | with_reducible refine i_eqI ?_ | with_reducible refine i_neI ?_ | with_reducible refine i_truB ?_ | ((with_reducible apply i_fldI); exact rfl) | with_reducible refine i_iceI ?_ | with_reducible refine i_join ?_ | with_reducible refine i_dict0 ?_ | with_reducible refine i_isiI ?_ | with_reducible refine i_ownIn ?_ | with_reducible refine i_ownEq ?_ | with_reducible refine i_ownLen ?_ | with_reducible refine i_ownStr ?_ | with_reducible refine i_strS ?_ | with_reducible refine i_fmt ?_ | with_reducible refine i_pop ?_ | with_reducible refine i_listRg2 ?_ | with_reducible refine i_listRg2O ?_ | ((with_reducible apply i_popK); (focus (first | assumption | exact setO_same | (rw [setO_ne (by assumption)]; first | assumption | exact setO_same)))) | with_reducible refine i_raise ?_ | with_reducible refine i_tryAs ?_ | with_reducible refine i_xf ?_ | ((with_reducible apply i_xfK); exact rfl) | with_reducible refine i_js ?_ | with_reducible refine i_js0 ?_ | with_reducible refine i_makeK0 ?_ | with_reducible refine i_own ?_ | with_reducible refine i_ownT ?_ | with_reducible refine i_lenZ ?_ | with_reducible refine i_sortZ ?_ | with_reducible refine i_setL ?_ | with_reducible refine i_setLT ?_ | with_reducible refine i_sc ?_ | with_reducible refine i_setQ ?_ | with_reducible refine i_sc2 ?_ | with_reducible refine i_lenB ?_ | with_reducible refine i_bl ?_ | with_reducible refine i_tm ?_ | with_reducible refine i_lcnt ?_ | with_reducible refine i_setTI ?_ | ((with_reducible apply i_augL); exact rfl) | with_reducible refine i_scB ?_ | with_reducible refine i_key ?_ | with_reducible refine i_revL ?_ | with_reducible refine i_revT ?_ | with_reducible refine i_zip ?_ | with_reducible refine i_ltAI ?_ | with_reducible refine i_ltAS ?_ | with_reducible refine i_inRg1 ?_ | with_reducible refine i_inRg2 ?_ | with_reducible refine i_listRg1O ?_ | with_reducible refine i_tryM ?_ | with_reducible refine i_tryN ?_ | with_reducible refine i_upd ?_ | with_reducible refine i_mat ?_ | with_reducible refine i_matK ?_ | with_reducible refine i_mc0 ?_ | ((with_reducible apply i_mcY); (focus exact rfl)) | ((with_reducible apply i_mcN); (focus exact Nat.ne_of_beq_eq_false rfl)) | with_reducible refine i_ltT ?_ | with_reducible refine i_xi ?_ | with_reducible refine i_split ?_ | with_reducible refine i_count ?_ | with_reducible refine i_m0 ?_ | with_reducible refine i_m0K ?_ | with_reducible refine i_starA ?_ | with_reducible refine i_cm ?_ | with_reducible refine i_cmK ?_ | ((with_reducible apply i_makeL); exact rfl) | with_reducible refine i_int2I ?_ | with_reducible refine i_int2B ?_ | with_reducible refine i_clear ?_ | ((with_reducible apply i_clearK); (focus (first | assumption | exact setO_same | (rw [setO_ne (by assumption)]; first | assumption | exact setO_same)))) | with_reducible refine i_meth ?_ | with_reducible refine i_methM ?_ | ((with_reducible apply i_methKwO); (focus (first | assumption | exact setO_same | (rw [setO_ne (by assumption)]; first | assumption | exact setO_same))); exact rfl) | with_reducible refine i_extend ?_ | with_reducible refine i_lam ?_ | with_reducible refine i_dput ?_ | with_reducible refine i_dict0N ?_ | with_reducible refine i_dict1 ?_ | with_reducible refine i_disp2 ?_ | with_reducible refine i_disp3 ?_ | with_reducible refine i_dispN ?_ | with_reducible refine i_goC ?_ | ((with_reducible apply i_goK); exact rfl) | with_reducible refine i_goN ?_ | with_reducible refine i_setd ?_ | with_reducible refine i_idxL ?_ | with_reducible refine i_ixLK ?_ | with_reducible refine i_dc ?_ | with_reducible refine i_dct ?_ | with_reducible refine i_ckw ?_ | with_reducible refine i_iceA ?_ | with_reducible refine i_get2 ?_ | with_reducible refine i_get1 ?_ | with_reducible refine i_prop ?_ | with_reducible refine i_propI ?_ | ((with_reducible apply i_methI); exact rfl) | ((with_reducible apply i_methO); (focus (first | assumption | exact setO_same | (rw [setO_ne (by assumption)]; first | assumption | exact setO_same))); exact rfl))
local macro_rules | `(tactic| walk_at "dl") => `(tactic| repeat (walk_at "d1"))
local macro_rules | `(tactic| walk_at "dw") => `(tactic| repeat (first | with_reducible refine i_if ?_ | with_reducible refine i_ifE ?_ | walk_at "d1"))
structure Txt (K : Frag) (mg : Str → Option Value) : Prop where
  c_End : Cls K (He.ga K "End")
  c_Search : Cls K (He.ga K "Search")
  g_HEARER : ∃ u, mg "HEARER" = some u ∧ RelV (.str "hearer") u
  d_HEARER : ∀ F, RV K F (.str "hearer") (.str "hearer")
  g_HEARER_WORDS : ∃ u, mg "HEARER_WORDS" = some u ∧ RelV (.ref (He.ga K "HEARER_WORDS")) u
  d_HEARER_WORDS : ∀ F, RV K F (.tup [.str "taken", .str "lost"]) (.ref (He.ga K "HEARER_WORDS"))
  g_MOST_BIT : ∃ u, mg "MOST_BIT" = some u ∧ RelV (.int 5000) u
  d_MOST_BIT : ∀ F, RV K F (.int 5000) (.int 5000)
  g_SENDER : ∃ u, mg "SENDER" = some u ∧ RelV (.str "sender") u
  d_SENDER : ∀ F, RV K F (.str "sender") (.str "sender")
  g_SENDER_WORDS : ∃ u, mg "SENDER_WORDS" = some u ∧ RelV (.ref (He.ga K "SENDER_WORDS")) u
  d_SENDER_WORDS : ∀ F, RV K F (.tup [.str "done", .str "again"]) (.ref (He.ga K "SENDER_WORDS"))
  cr_End : ClX.CRead K (He.ga K "End") (.type "type")
  cv_End_MOST : ∃ u, ClX.CVal K (He.ga K "End") (.type "type") "MOST" (.int 100) u
  b_abs : mg "abs" = none
  b_bool : mg "bool" = none
  b_enumerate : mg "enumerate" = none
  b_int : mg "int" = none
  b_isinstance : mg "isinstance" = none
  b_len : mg "len" = none
  b_list : mg "list" = none
  b_max : mg "max" = none
  b_min : mg "min" = none
  b_range : mg "range" = none
  b_repr : mg "repr" = none
  b_str : mg "str" = none
  b_tuple : mg "tuple" = none
  g_End : mg "End" = some (.ref (He.ga K "End"))
  g_Search : mg "Search" = some (.ref (He.ga K "Search"))
  g_law_bag : mg "_law_bag" = some (.ref (He.ga K "_law_bag"))
  g_law_bent : mg "_law_bent" = some (.ref (He.ga K "_law_bent"))
  g_law_drawn_rows : mg "_law_drawn_rows" = some (.ref (He.ga K "_law_drawn_rows"))
  g_law_follow : mg "_law_follow" = some (.ref (He.ga K "_law_follow"))
  g_law_is_due : mg "_law_is_due" = some (.ref (He.ga K "_law_is_due"))
  g_law_of : mg "_law_of" = some (.ref (He.ga K "_law_of"))
  g_law_rows : mg "_law_rows" = some (.ref (He.ga K "_law_rows"))
  g_law_take : mg "_law_take" = some (.ref (He.ga K "_law_take"))
  g_law_voting_place : mg "_law_voting_place" = some (.ref (He.ga K "_law_voting_place"))
  g_law_voting_rows : mg "_law_voting_rows" = some (.ref (He.ga K "_law_voting_rows"))
  g_law_walk : mg "_law_walk" = some (.ref (He.ga K "_law_walk"))
  g_law_way : mg "_law_way" = some (.ref (He.ga K "_law_way"))
  g_checked_rows : mg "checked_rows" = some (.ref (He.ga K "checked_rows"))
  g_explained : mg "explained" = some (.ref (He.ga K "explained"))
  g_first_places : mg "first_places" = some (.ref (He.ga K "first_places"))
  g_is_bit : mg "is_bit" = some (.ref (He.ga K "is_bit"))
  g_is_integer : mg "is_integer" = some (.ref (He.ga K "is_integer"))
  g_is_log : mg "is_log" = some (.ref (He.ga K "is_log"))
  g_is_next : mg "is_next" = some (.ref (He.ga K "is_next"))
  g_is_row : mg "is_row" = some (.ref (He.ga K "is_row"))
  g_is_row_of : mg "is_row_of" = some (.ref (He.ga K "is_row_of"))
  g_later_places : mg "later_places" = some (.ref (He.ga K "later_places"))
  g_words_from : mg "words_from" = some (.ref (He.ga K "words_from"))
  m_Search_is_new : Meth K (He.ga K "Search") "is_new" (He.ma K (He.ga K "Search") "is_new")
  m_Search_put : Meth K (He.ga K "Search") "put" (He.ma K (He.ga K "Search") "put")
  mk_End : Mk K (He.ga K "End") (He.ma K (He.ga K "End") "__init__")
  mk_Search : Mk K (He.ga K "Search") (He.ma K (He.ga K "Search") "__init__")
  n_End_hearer_rows : NoAttr K (He.ga K "End") "hearer_rows"
  n_End_sender_rows : NoAttr K (He.ga K "End") "sender_rows"
  n_End_table : NoAttr K (He.ga K "End") "table"
  n_Search_known : NoAttr K (He.ga K "Search") "known"
  n_Search_levels : NoAttr K (He.ga K "Search") "levels"
  n_Search_longest : NoAttr K (He.ga K "Search") "longest"
  p_End_hearer : PropOf K (He.ga K "End") "hearer" (He.ma K (He.ga K "End") "hearer") (ga2 K "End" "hearer")
  p_End_sender : PropOf K (He.ga K "End") "sender" (He.ma K (He.ga K "End") "sender") (ga2 K "End" "sender")
section
variable {P : Program} {w : World} {K : Frag} {mg : Str → Option Value} {base : Heap}
def intB : D → Bool
  | .int _ => true
  | _ => false
def f_is_integer : DF := fun ds O q _ => ∃ d, ds = [d] ∧ pd d = true ∧ q (.bl (intB d)) O
abbrev N_is_integer : List Str := ["thing"]
abbrev P_is_integer : List Str := ["thing"]
theorem sc_is_integer : FnScope N_is_integer P_is_integer (defScope s_is_integer) := ⟨rfl, rfl, rfl, by decide +kernel, rfl, by decide +kernel, by decide +kernel⟩
theorem bd_is_integer : Bd0 "is_integer" "is_integer" s_is_integer P_is_integer := fun _ _ _ _ _ _ us hl => match us, hl with | [_], _ => rfl
abbrev Fn_is_integer (P : Program) (w : World) (K : Frag) (mg : Str → Option Value) (base : Heap) : Prop := Fn P w K mg base "is_integer" "is_integer" s_is_integer [] [] P_is_integer 1 1 f_is_integer (He.ga K "is_integer")
theorem ok_is_integer {P : Program} {w : World} {K : Frag} {mg : Str → Option Value} {base : Heap} (F : HasD K "is_integer" "is_integer" s_is_integer [] [] (He.ga K "is_integer")) (T : Txt K mg) : Fn_is_integer P w K mg base := by
  have sc := sc_is_integer
  refine fn_E (k := 0) F sc rfl fun cdv A outer s H E O0 H0 F0 ds O q xx hl hf S => ⟨_,
      (ds_one (ds_ret (de_and (so_isi S rfl T.b_isinstance (da_cons (de_var (pv 0)) (da_cons (so_ty (n := "int") rfl T.b_int) da_nil))) (de_one (de_not (so_isi S rfl T.b_isinstance (da_cons (de_var (pv 0)) (da_cons (so_ty (n := "bool") rfl T.b_bool) da_nil))))))))
      , ?_⟩
  obtain ⟨d, rfl, h0, hq⟩ := hf
  cases d <;> simp [pd] at h0 <;> (walk_at "dl"; exact rt_same hq)
def f_is_bit : DF := fun ds O q _ => ∃ d, ds = [d] ∧ good d = true ∧ q (.bl (bitB d)) O
abbrev N_is_bit : List Str := ["thing"]
abbrev P_is_bit : List Str := ["thing"]
theorem sc_is_bit : FnScope N_is_bit P_is_bit (defScope s_is_bit) := ⟨rfl, rfl, rfl, by decide +kernel, rfl, by decide +kernel, by decide +kernel⟩
theorem bd_is_bit : Bd0 "is_bit" "is_bit" s_is_bit P_is_bit := fun _ _ _ _ _ _ us hl => match us, hl with | [_], _ => rfl
abbrev Fn_is_bit (P : Program) (w : World) (K : Frag) (mg : Str → Option Value) (base : Heap) : Prop := Fn P w K mg base "is_bit" "is_bit" s_is_bit [] [] P_is_bit 1 2 f_is_bit (He.ga K "is_bit")
structure C_is_bit (P : Program) (w : World) (K : Frag) (mg : Str → Option Value) (base : Heap) : Prop where
  is_integer : Fn_is_integer P w K mg base
theorem ok_is_bit {P : Program} {w : World} {K : Frag} {mg : Str → Option Value} {base : Heap} (F : HasD K "is_bit" "is_bit" s_is_bit [] [] (He.ga K "is_bit")) (T : Txt K mg) (C : C_is_bit P w K mg base) : Fn_is_bit P w K mg base := by
  have sc := sc_is_bit
  refine fn_E (k := 1) F sc rfl fun cdv A outer s H E O0 H0 F0 ds O q xx hl hf S => ⟨_,
      (ds_one (ds_ret (de_and (so_callF S C.is_integer (by decide) T.g_is_integer bd_is_integer rfl (da_cons (de_var (pv 0)) da_nil)) (de_one (so_in S (de_var (pv 0)) (de_tup (da_cons de_int (da_cons de_int da_nil))))))))
      , ?_⟩
  obtain ⟨d, rfl, h0, hq⟩ := hf
  walk_at "dl"
  refine ⟨rfl, d, rfl, good_pd h0, ?_⟩
  cases d <;> dsimp only [intB] <;> walk_at "dl" <;> try exact rt_same hq
  refine ⟨_, _, asP_pd rfl, asPs_T (by rfl), good_sh (good_int _), by decide, ?_⟩
  refine rt_same (q := q) ?_
  rename_i i
  have e : (pys [D.int 0, D.int 1]).any (fun z => PyData.eqv z (py (.int i))) = bitB (.int i) := by
    simp only [pys, py, List.any_cons, List.any_nil, PyData.eqv, bitB, Bool.or_false]
    rw [Bool.beq_comm, Bool.beq_comm (a := (1 : Int))]
  show q (.bl _) O
  rw [if_neg (by decide), e]
  exact hq
def f_is_next : DF := fun ds O q _ => ∃ d n ws, ds = [d, .int n, .tup (ws.map D.str)] ∧ good d = true ∧ ws.all strGood = true ∧ q (.bl (plB n ws d)) O
abbrev N_is_next : List Str := ["thing", "many", "words"]
abbrev P_is_next : List Str := ["thing", "many", "words"]
theorem sc_is_next : FnScope N_is_next P_is_next (defScope s_is_next) := ⟨rfl, rfl, rfl, by decide +kernel, rfl, by decide +kernel, by decide +kernel⟩
theorem bd_is_next : Bd0 "is_next" "is_next" s_is_next P_is_next := fun _ _ _ _ _ _ us hl => match us, hl with | [_, _, _], _ => rfl
abbrev Fn_is_next (P : Program) (w : World) (K : Frag) (mg : Str → Option Value) (base : Heap) : Prop := Fn P w K mg base "is_next" "is_next" s_is_next [] [] P_is_next 3 2 f_is_next (He.ga K "is_next")
structure C_is_next (P : Program) (w : World) (K : Frag) (mg : Str → Option Value) (base : Heap) : Prop where
  is_integer : Fn_is_integer P w K mg base
theorem ok_is_next {P : Program} {w : World} {K : Frag} {mg : Str → Option Value} {base : Heap} (F : HasD K "is_next" "is_next" s_is_next [] [] (He.ga K "is_next")) (T : Txt K mg) (C : C_is_next P w K mg base) : Fn_is_next P w K mg base := by
  have sc := sc_is_next
  refine fn_E (k := 1) F sc rfl fun cdv A outer s H E O0 H0 F0 ds O q xx hl hf S => ⟨_,
      (ds_cons (ds_if (st_tru S (so_callF S C.is_integer (by decide) T.g_is_integer bd_is_integer rfl (da_cons (de_var (pv 0)) da_nil)))
       (ds_one (ds_ret (so_chain op_le sim_le op_lt sim_lt de_int (de_var (pv 0)) (de_var (pv 1)))))
       ds_nil)
      (ds_one (ds_ret (de_and (so_isi S rfl T.b_isinstance (da_cons (de_var (pv 0)) (da_cons (so_ty (n := "str") rfl T.b_str) da_nil))) (de_one (so_in S (de_var (pv 0)) (de_var (pv 2))))))))
      , ?_⟩
  obtain ⟨d, n, ws, rfl, h0, h1, hq⟩ := hf
  walk_at "dw"
  refine ⟨rfl, d, rfl, good_pd h0, ?_⟩
  refine ⟨_, rfl, ?_⟩
  cases d <;> dsimp only [intB]
  case ref => simp [good, pd] at h0
  case ty => simp [good, pd] at h0
  case ins => simp [good, pd] at h0
  case int i =>
    refine iteT ?_
    walk_at "dl"
    have hq' : q (.bl (decide (0 ≤ i) && decide (i < n))) O := hq
    by_cases hi : 0 ≤ i
    · rw [decide_eq_true hi] at hq' ⊢
      rw [Bool.true_and] at hq'
      walk_at "dl"
      exact rt_same hq'
    · rw [decide_eq_false hi] at hq' ⊢
      rw [Bool.false_and] at hq'
      exact rt_same hq'
  case str x =>
    refine iteF ?_
    walk_at "dl"
    refine i_inStr (good_of_str h0) h1 (rt_same ?_)
    exact hq
  all_goals
    refine iteF ?_
    walk_at "dl"
    exact rt_same hq
/-- a value that may be asked about: comparable data, or of a kind that is no tuple -/
def AnyD (O : Ow) (d : D) : Prop := good d = true ∨ ∃ a, tyN O d = some a ∧ a ≠ "tuple"
theorem tyN_tuple {O : Ow} {d : D} {a : String} (e : tyN O d = some a) (h : a ≠ "tuple") : kitT a "tuple" = false ∧ ∀ n ws, rowB n ws d = false := by
  refine ⟨?_, fun n ws => ?_⟩
  · have := tyN_mem e
    simp only [tyKnown, List.mem_cons, List.mem_nil_iff, or_false] at this
    rcases this with rfl | rfl | rfl | rfl | rfl | rfl | rfl <;> first | rfl | exact absurd rfl h
  · cases d <;> simp only [tyN] at e <;> try rfl
    cases e; exact absurd rfl h
def f_is_row_of : DF := fun ds O q _ => ∃ d n ws, ds = [d, .int n, .tup (ws.map D.str)] ∧ AnyD O d ∧ ws.all strGood = true ∧ q (.bl (rowB n ws d)) O
abbrev N_is_row_of : List Str := ["thing", "many", "words", "put", "on_strong", "on_weak"]
abbrev P_is_row_of : List Str := ["thing", "many", "words"]
theorem sc_is_row_of : FnScope N_is_row_of P_is_row_of (defScope s_is_row_of) := ⟨rfl, rfl, rfl, by decide +kernel, rfl, by decide +kernel, by decide +kernel⟩
theorem bd_is_row_of : Bd0 "is_row_of" "is_row_of" s_is_row_of P_is_row_of := fun _ _ _ _ _ _ us hl => match us, hl with | [_, _, _], _ => rfl
abbrev Fn_is_row_of (P : Program) (w : World) (K : Frag) (mg : Str → Option Value) (base : Heap) : Prop := Fn P w K mg base "is_row_of" "is_row_of" s_is_row_of [] [] P_is_row_of 3 3 f_is_row_of (He.ga K "is_row_of")
structure C_is_row_of (P : Program) (w : World) (K : Frag) (mg : Str → Option Value) (base : Heap) : Prop where
  is_bit : Fn_is_bit P w K mg base
  is_next : Fn_is_next P w K mg base
theorem ok_is_row_of {P : Program} {w : World} {K : Frag} {mg : Str → Option Value} {base : Heap} (F : HasD K "is_row_of" "is_row_of" s_is_row_of [] [] (He.ga K "is_row_of")) (T : Txt K mg) (C : C_is_row_of P w K mg base) : Fn_is_row_of P w K mg base := by
  have sc := sc_is_row_of
  refine fn_E (k := 2) F sc rfl fun cdv A outer s H E O0 H0 F0 ds O q xx hl hf S => ⟨_,
      (ds_cons (ds_if (PW.pt (dw_or (dt_not (st_tru S (so_isi S rfl T.b_isinstance (da_cons (de_var (pv 0)) (da_cons (so_ty (n := "tuple") rfl T.b_tuple) da_nil))))) (dw_or1 (st_ne S (so_len S rfl T.b_len (da_cons (de_var (pv 0)) da_nil)) de_int))))
       (ds_one (ds_ret de_bl))
       ds_nil)
      (ds_cons (ds_asg (ps_asg (de_var (pv 0)) (dg_tup rfl rfl (dgs_cons (dg_name (pg_name (i := 3) sc.nd rfl (by first | exact Or.inl rfl | exact Or.inr rfl))) (dgs_cons (dg_name (pg_name (i := 4) sc.nd rfl (by first | exact Or.inl rfl | exact Or.inr rfl))) (dgs_cons (dg_name (pg_name (i := 5) sc.nd rfl (by first | exact Or.inl rfl | exact Or.inr rfl))) dgs_nil))))))
      (ds_one (ds_ret (de_and (so_callF S C.is_bit (by decide) T.g_is_bit bd_is_bit rfl (da_cons (de_var (pv 3)) da_nil)) (de_and (so_callF S C.is_next (by decide) T.g_is_next bd_is_next rfl (da_cons (de_var (pv 4)) (da_cons (de_var (pv 1)) (da_cons (de_var (pv 2)) da_nil)))) (de_one (so_callF S C.is_next (by decide) T.g_is_next bd_is_next rfl (da_cons (de_var (pv 5)) (da_cons (de_var (pv 1)) (da_cons (de_var (pv 2)) da_nil)))))))))))
      , ?_⟩
  obtain ⟨d, n, ws, rfl, h0, h1, hq⟩ := hf
  rcases h0 with h0 | ⟨a, e, ha⟩
  case inr =>
    obtain ⟨h2, h3⟩ := tyN_tuple e ha
    walk_at "dw"
    refine i_isi e rfl h2 ?_
    walk_at "dw"
    refine iteT ?_
    walk_at "dl"
    rw [h3] at hq
    exact rt_same hq
  walk_at "dw"
  cases d
  case ref => simp [good, pd] at h0
  case ty => simp [good, pd] at h0
  case ins => simp [good, pd] at h0
  case tup ts =>
    walk_at "dw"
    refine iteF ?_
    walk_at "dw"
    by_cases h3 : ((ts.length : Nat) : Int) = 3
    · rw [decide_eq_true h3]
      refine iteF ?_
      match ts, h3, h0, hq with
      | [a, b, c], _, h0, hq =>
        have ga := good_tup h0 a (by simp)
        have gb := good_tup h0 b (by simp)
        have gc := good_tup h0 c (by simp)
        have hq' : q (.bl (bitB a && plB n ws b && plB n ws c)) O := hq
        walk_at "dl"
        refine ⟨rfl, a, rfl, ga, ?_⟩
        cases ha : bitB a with
        | false =>
          rw [ha] at hq'
          exact rt_same hq'
        | true =>
          rw [ha, Bool.true_and] at hq'
          walk_at "dl"
          refine ⟨rfl, b, n, ws, rfl, gb, h1, ?_⟩
          cases hb : plB n ws b with
          | false =>
            rw [hb] at hq'
            exact rt_same hq'
          | true =>
            rw [hb, Bool.true_and] at hq'
            walk_at "dl"
            exact ⟨rfl, c, n, ws, rfl, gc, h1, rt_same hq'⟩
    · rw [decide_eq_false h3]
      refine iteT ?_
      walk_at "dl"
      have e : rowB n ws (.tup ts) = false := by
        unfold rowB
        split
        · rename_i e; cases e; exact absurd rfl h3
        · rfl
      rw [e] at hq
      exact rt_same hq
  all_goals
    walk_at "dl"
    refine iteT ?_
    walk_at "dl"
    exact rt_same hq
/-- a list or a tuple: data, or a list of one's own -/
def SeqD (O : Ow) (d : D) (rs : List D) : Prop := d = .lst rs ∨ d = .tup rs ∨ ∃ p, d = .ref p ∧ O p = some (.lst rs)
theorem SeqD.set {O : Ow} {d : D} {rs : List D} {x : Addr} {o : OD} (h : SeqD O d rs) (hx : ∀ ds, O x ≠ some (.lst ds)) : SeqD (setO O x o) d rs := by
  rcases h with h | h | ⟨p, h, e⟩
  · exact .inl h
  · exact .inr (.inl h)
  · refine .inr (.inr ⟨p, h, ?_⟩)
    have hne : p ≠ x := fun z => hx rs (by rw [← z]; exact e)
    rw [setO_ne hne]
    exact e
def f_checked_rows : DF := fun ds O q _ => ∃ (pt : Str) (th : D) (rs : List D) (lo hi : Int) (ws : List Str), ds = [.str pt, th, .int lo, .int hi, .tup (ws.map D.str)] ∧ SeqD O th rs ∧ lo ≤ rs.length ∧ (rs.length : Int) ≤ hi ∧ hi ≤ 100 ∧
  (∀ r ∈ rs, good r = true) ∧ ws.all strGood = true ∧ Mach ws rs ∧ q (.tup rs) O
abbrev N_checked_rows : List Str := ["part", "thing", "least", "most", "words", "index", "row"]
abbrev P_checked_rows : List Str := ["part", "thing", "least", "most", "words"]
theorem sc_checked_rows : FnScope N_checked_rows P_checked_rows (defScope s_checked_rows) := ⟨rfl, rfl, rfl, by decide +kernel, rfl, by decide +kernel, by decide +kernel⟩
theorem bd_checked_rows : Bd0 "checked_rows" "checked_rows" s_checked_rows P_checked_rows := fun _ _ _ _ _ _ us hl => match us, hl with | [_, _, _, _, _], _ => rfl
abbrev Fn_checked_rows (P : Program) (w : World) (K : Frag) (mg : Str → Option Value) (base : Heap) : Prop := Fn P w K mg base "checked_rows" "checked_rows" s_checked_rows [] [] P_checked_rows 5 4 f_checked_rows (He.ga K "checked_rows")
structure C_checked_rows (P : Program) (w : World) (K : Frag) (mg : Str → Option Value) (base : Heap) : Prop where
  is_row_of : Fn_is_row_of P w K mg base
theorem ok_checked_rows {P : Program} {w : World} {K : Frag} {mg : Str → Option Value} {base : Heap} (F : HasD K "checked_rows" "checked_rows" s_checked_rows [] [] (He.ga K "checked_rows")) (T : Txt K mg) (C : C_checked_rows P w K mg base) : Fn_checked_rows P w K mg base := by
  have sc := sc_checked_rows
  refine fn_E (k := 3) F sc rfl fun cdv A outer s H E O0 H0 F0 ds O q xx hl hf S => ⟨_,
      (ds_cons (ds_if (PW.pt (dw_or (dt_not (st_tru S (so_isiT S rfl T.b_isinstance (da_cons (de_var (pv 1)) (da_cons (de_tup (da_cons (so_ty (n := "list") rfl T.b_list) (da_cons (so_ty (n := "tuple") rfl T.b_tuple) da_nil))) da_nil))))) (dw_or1 (dt_not (st_chain op_le sim_le op_le sim_le (de_var (pv 2)) (so_len S rfl T.b_len (da_cons (de_var (pv 1)) da_nil)) (de_var (pv 3)))))))
       (ds_one ds_never)
       ds_nil)
      (ds_cons (ds_for (ps_for S.po rfl (di_enum S rfl T.b_enumerate (de_var (pv 1))) (dg_tup rfl rfl (dgs_cons (dg_name (pg_name (i := 5) sc.nd rfl (by first | exact Or.inl rfl | exact Or.inr rfl))) (dgs_cons (dg_name (pg_name (i := 6) sc.nd rfl (by first | exact Or.inl rfl | exact Or.inr rfl))) dgs_nil)))
       (ds_one (ds_if (dt_not (st_tru S (so_callF S C.is_row_of (by decide) T.g_is_row_of bd_is_row_of rfl (da_cons (de_var (pv 6)) (da_cons (so_len S rfl T.b_len (da_cons (de_var (pv 1)) da_nil)) (da_cons (de_var (pv 4)) da_nil))))))
        (ds_one ds_never)
        ds_nil))))
      (ds_one (ds_ret (so_tuple S rfl T.b_tuple (da_cons (de_var (pv 1)) da_nil))))))
      , ?_⟩
  obtain ⟨pt, th, rs, lo, hi, ws, rfl, hth, h0, h1, h2, hg, hw, hm, hq⟩ := hf
  rcases hth with rfl | rfl | ⟨p, rfl, hp⟩
  · walk_at "dw"
    refine i_isiT (b := true) rfl rfl rfl rfl ?_
    walk_at "dw"
    refine iteF ?_
    walk_at "dw"
    rw [decide_eq_true (show lo ≤ ((rs.length : Nat) : Int) from h0)]
    walk_at "dw"
    rw [decide_eq_true (show ((rs.length : Nat) : Int) ≤ hi from h1)]
    refine iteF ?_
    walk_at "dl"
    (try refine ⟨rs, rfl, ?_⟩)
    refine forGo_inv (fun i env O' => ∃ x5 x6, env = [some (.str pt), some (.lst rs), some (.int lo), some (.int hi), some (.tup (ws.map D.str)), x5, x6] ∧ O' = O) ⟨_, _, rfl, rfl⟩ (fun _ _ _ _ _ => trivial) ?_ ?_
    · rintro N i x env O' hx ⟨x5, x6, rfl, rfl⟩ hN
      rw [enumD_get] at hx
      cases hd : rs[i]? with
      | none => rw [hd] at hx; cases hx
      | some r =>
        rw [hd] at hx
        cases hx
        have hr := List.mem_of_getElem? hd
        walk_at "dw"
        refine ⟨rfl, r, _, ws, rfl, .inl (hg r hr), hw, ?_⟩
        rw [hm r hr]
        walk_at "dw"
        refine iteF ?_
        exact hN _ _ _ (.refl _) ⟨_, _, rfl, rfl⟩
    · rintro env O' ⟨x5, x6, rfl, rfl⟩
      walk_at "dl"
      exact ⟨rs, rfl, rt_same hq⟩
  · walk_at "dw"
    refine i_isiT (b := true) rfl rfl rfl rfl ?_
    walk_at "dw"
    refine iteF ?_
    walk_at "dw"
    rw [decide_eq_true (show lo ≤ ((rs.length : Nat) : Int) from h0)]
    walk_at "dw"
    rw [decide_eq_true (show ((rs.length : Nat) : Int) ≤ hi from h1)]
    refine iteF ?_
    walk_at "dl"
    refine forGo_inv (fun i env O' => ∃ x5 x6, env = [some (.str pt), some (.tup rs), some (.int lo), some (.int hi), some (.tup (ws.map D.str)), x5, x6] ∧ O' = O) ⟨_, _, rfl, rfl⟩ (fun _ _ _ _ _ => trivial) ?_ ?_
    · rintro N i x env O' hx ⟨x5, x6, rfl, rfl⟩ hN
      rw [enumD_get] at hx
      cases hd : rs[i]? with
      | none => rw [hd] at hx; cases hx
      | some r =>
        rw [hd] at hx
        cases hx
        have hr := List.mem_of_getElem? hd
        walk_at "dw"
        refine ⟨rfl, r, _, ws, rfl, .inl (hg r hr), hw, ?_⟩
        rw [hm r hr]
        walk_at "dw"
        refine iteF ?_
        exact hN _ _ _ (.refl _) ⟨_, _, rfl, rfl⟩
    · rintro env O' ⟨x5, x6, rfl, rfl⟩
      walk_at "dl"
      exact ⟨rs, rfl, rt_same hq⟩
  · walk_at "dw"
    refine i_isiT (a := "list") (b := true) (by simp [tyN, hp]) rfl rfl rfl ?_
    walk_at "dw"
    refine iteF ?_
    walk_at "dw"
    rw [decide_eq_true (show lo ≤ ((rs.length : Nat) : Int) from h0)]
    walk_at "dw"
    rw [decide_eq_true (show ((rs.length : Nat) : Int) ≤ hi from h1)]
    refine iteF ?_
    walk_at "dl"
    (try refine ⟨rs, asL_ref hp, ?_⟩)
    refine forGo_inv (fun i env O' => ∃ x5 x6, env = [some (.str pt), some (.ref p), some (.int lo), some (.int hi), some (.tup (ws.map D.str)), x5, x6] ∧ O' = O) ⟨_, _, rfl, rfl⟩ (fun _ _ _ _ ⟨_, _, _, e⟩ => e ▸ rfl) ?_ ?_
    · rintro N i x env O' hx ⟨x5, x6, rfl, rfl⟩ hN
      rw [enumD_get] at hx
      cases hd : rs[i]? with
      | none => rw [hd] at hx; cases hx
      | some r =>
        rw [hd] at hx
        cases hx
        have hr := List.mem_of_getElem? hd
        walk_at "dw"
        refine ⟨rfl, r, _, ws, rfl, .inl (hg r hr), hw, ?_⟩
        rw [hm r hr]
        walk_at "dw"
        refine iteF ?_
        exact hN _ _ _ (.refl _) ⟨_, _, rfl, rfl⟩
    · rintro env O' ⟨x5, x6, rfl, rfl⟩
      walk_at "dl"
      exact ⟨rs, asL_ref hp, rt_same hq⟩
def f_words_from : DF := fun ds O q _ => ∃ (rs : List D) (first : Int) (ws : List Str) (bad : Str) (L : List Int), ds = [.tup rs, .int first] ∧ Mach ws rs ∧ rs.length ≤ 100 ∧ 0 ≤ first ∧ first < rs.length ∧ Closed rs first bad L ∧ ws.all strGood = true ∧
  ∀ fs : List Str, fs.all strGood = true → bad ∉ fs → q (.lst (fs.map D.str)) O
abbrev N_words_from : List Str := ["rows", "first", "found", "waiting", "at", "put", "places", "place"]
abbrev P_words_from : List Str := ["rows", "first"]
theorem sc_words_from : FnScope N_words_from P_words_from (defScope s_words_from) := ⟨rfl, rfl, rfl, by decide +kernel, rfl, by decide +kernel, by decide +kernel⟩
theorem bd_words_from : Bd0 "words_from" "words_from" s_words_from P_words_from := fun _ _ _ _ _ _ us hl => match us, hl with | [_, _], _ => rfl
abbrev Fn_words_from (P : Program) (w : World) (K : Frag) (mg : Str → Option Value) (base : Heap) : Prop := Fn P w K mg base "words_from" "words_from" s_words_from [] [] P_words_from 2 1 f_words_from (He.ga K "words_from")
theorem ok_words_from {P : Program} {w : World} {K : Frag} {mg : Str → Option Value} {base : Heap} (F : HasD K "words_from" "words_from" s_words_from [] [] (He.ga K "words_from")) (T : Txt K mg) : Fn_words_from P w K mg base := by
  have sc := sc_words_from
  refine fn_E (k := 0) F sc rfl fun cdv A outer s H E O0 H0 F0 ds O q xx hl hf S => ⟨_,
      (ds_cons (ds_par3 (ps_par3 (i := 2) (j := 3) (l := 4) rfl sc.nd rfl rfl rfl (by decide) (by decide) (by decide) rfl rfl rfl (da_cons (de_lstO da_nil) (da_cons (de_lstO (da_cons (de_var (pv 1)) da_nil)) (da_cons de_int da_nil))) (by rfl)))
      (ds_cons (ds_while (ps_while S.po (st_lt S (de_var (pv 4)) (so_len S rfl T.b_len (da_cons (de_var (pv 3)) da_nil)))
       (ds_cons (ds_asg (ps_asg (so_ix S (de_var (pv 0)) (so_ix S (de_var (pv 3)) (de_var (pv 4)) (fun _ _ => rfl)) (fun _ _ => rfl)) (dg_star S rfl (pg_name (i := 5) sc.nd rfl (by first | exact Or.inl rfl | exact Or.inr rfl)) (pg_name (i := 6) sc.nd rfl (by first | exact Or.inl rfl | exact Or.inr rfl)))))
       (ds_cons (ds_for (ps_for S.po rfl (di_seq S (de_var (pv 6))) (dg_name (pg_name (i := 7) sc.nd rfl (by first | exact Or.inl rfl | exact Or.inr rfl)))
        (ds_one (ds_if (st_tru S (so_isi S rfl T.b_isinstance (da_cons (de_var (pv 7)) (da_cons (so_ty (n := "str") rfl T.b_str) da_nil))))
         (ds_one (ds_expr (so_append S (de_var (pv 2)) (da_cons (de_var (pv 7)) da_nil))))
         (ds_one (ds_if (st_notin S (de_var (pv 7)) (de_var (pv 3)))
          (ds_one (ds_expr (so_append S (de_var (pv 3)) (da_cons (de_var (pv 7)) da_nil))))
          ds_nil))))))
       (ds_one (ss_augI (ps_aug (i := 4) sc.nd rfl (by first | exact Or.inl rfl | exact Or.inr rfl) de_int ip_add)))))))
      (ds_one (ds_ret (de_ice (de_var (pv 2)))))))
      , ?_⟩
  obtain ⟨rs, first, ws, bad, L, rfl, hm, h1, h2, h3, hc, hws, hq⟩ := hf
  walk_at "dl"
  intro pf hpf
  walk_at "dl"
  intro pw hpw
  walk_at "dl"
  have hpw0 : O pw = none := by
    have hne : pw ≠ pf := fun z => by rw [z, setO_same] at hpw; cases hpw
    rw [setO_ne hne] at hpw; exact hpw
  refine wh_inv (fun m env O' => ∃ (fs : List Str) (wt : List Int) (a : Nat) (x5 x6 x7 : Option D), env = [some (.tup rs), some (.int first), some (.ref pf), some (.ref pw), some (.int (a : Nat)), x5, x6, x7] ∧
    Two O O' pf pw (.lst (fs.map D.str)) (.lst (wt.map D.int)) ∧ wt.Nodup ∧ (∀ i ∈ wt, i ∈ L ∧ 0 ≤ i ∧ i < (rs.length : Int)) ∧ a ≤ wt.length ∧ bad ∉ fs ∧ fs.all strGood = true ∧ fs.length ≤ 2 * a ∧ m + a = rs.length) rs.length
    ⟨[], [first], 0, none, none, none, rfl, .mk' hpf hpw, by simp, by simp; exact ⟨hc.mem, h2, h3⟩, by simp, by simp, by simp, by simp, by simp⟩ ?_
  rintro m N env O' ⟨fs, wt, a, x5, x6, x7, rfl, tw, nd, hin, ha, hbad, hfs, hfl, hma⟩ hN
  have hlen := nodup_len rs.length nd fun i hi => (hin i hi).2
  have at1 := tw.at1
  have at2 := tw.at2
  walk_at "dl"
  refine if_d (fun hlt => ?_) (fun hge => ?_)
  · have ha' : a < wt.length := by simpa using hlt
    have hi := hin wt[a] (List.getElem_mem ha')
    generalize hiw : wt[a] = i at hi
    have e1 : atI (wt.map D.int) (a : Nat) = some (.int i) := atI_nat (by simp [ha', hiw])
    obtain ⟨r, hr, e2⟩ := atI_in (ds := rs) hi.2.1 hi.2.2
    have hnx := hc.next i hi.1 r hr
    have hwd := hc.word i hi.1 r hr
    obtain ⟨b, p1, p2, rfl, hb, hp1, hp2⟩ := rowB_cases (hm r (List.mem_of_getElem? hr))
    walk_at "dl"
    refine i_ixO at2 e1 ?_
    refine i_ixT e2 ?_
    refine i_star (by simp) ?_
    walk_at "dl"
    simp only [nextsB, noWord, Bool.and_eq_true] at hnx hwd
    refine forGo_inv (fun j env O' => ∃ (fs : List Str) (wt : List Int) (x7 : Option D), env = [some (.tup rs), some (.int first), some (.ref pf), some (.ref pw), some (.int (a : Nat)), some (.int b), some (.lst [p1, p2]), x7] ∧
      Two O O' pf pw (.lst (fs.map D.str)) (.lst (wt.map D.int)) ∧ wt.Nodup ∧ (∀ i ∈ wt, i ∈ L ∧ 0 ≤ i ∧ i < (rs.length : Int)) ∧ a < wt.length ∧ bad ∉ fs ∧ fs.all strGood = true ∧ fs.length ≤ 2 * a + j)
      ⟨fs, wt, _, rfl, tw, nd, hin, ha', hbad, hfs, hfl⟩ (fun _ _ _ _ _ => trivial) ?_ ?_
    · rintro N2 j x env O2 hx ⟨fs, wt, y7, rfl, tw, nd, hin, ha', hbad, hfs, hfl⟩ hN2
      have hpx : plB rs.length ws x = true ∧ (∀ i, x = .int i → i ∈ L) ∧ ∀ s, x = .str s → s ≠ bad := by
        match j, hx with
        | 0, hx =>
          cases hx
          refine ⟨hp1, fun i e => ?_, fun s e => ?_⟩
          · subst e; simpa using hnx.1
          · subst e; simpa using hwd.1
        | 1, hx =>
          cases hx
          refine ⟨hp2, fun i e => ?_, fun s e => ?_⟩
          · subst e; simpa using hnx.2
          · subst e; simpa using hwd.2
      have at1 := tw.at1
      have at2 := tw.at2
      have hlen := nodup_len rs.length nd fun i hi => (hin i hi).2
      have hj : j < 2 := (List.getElem?_eq_some_iff.mp hx).1
      rcases plB_cases hpx.1 with ⟨i, rfl, hi0, hi1⟩ | ⟨t, rfl, ht⟩
      · walk_at "dw"
        refine iteF ?_
        walk_at "dw"
        refine i_notinO at2 ?_
        cases hct : wt.contains i with
        | true =>
          refine iteF ?_
          exact hN2 _ _ _ (.refl _) ⟨fs, wt, _, rfl, tw, nd, hin, ha', hbad, hfs, by omega⟩
        | false =>
          refine iteT ?_
          walk_at "dl"
          · rw [List.length_map, sizeLine_eq]; omega
          have hni : i ∉ wt := fun z => by rw [List.contains_iff_mem.mpr z] at hct; cases hct
          refine hN2 _ _ _ (.refl _) ⟨fs, wt ++ [i], _, rfl, ?_, ?_, ?_, ?_, hbad, hfs, by omega⟩
          · have := tw.set2 (b' := .lst ((wt ++ [i]).map D.int))
            simpa using this
          · rw [List.nodup_append]
            exact ⟨nd, by simp, fun a ha b hb => by simp at hb; subst hb; exact fun z => hni (z ▸ ha)⟩
          · intro k hk
            rcases List.mem_append.mp hk with hk | hk
            · exact hin k hk
            · simp at hk; subst hk; exact ⟨hpx.2.1 _ rfl, hi0, hi1⟩
          · simp; omega
      · walk_at "dw"
        refine iteT ?_
        walk_at "dl"
        · rw [List.length_map, sizeLine_eq]; omega
        refine hN2 _ _ _ (.refl _) ⟨fs ++ [t], wt, _, rfl, ?_, nd, hin, ha', ?_, ?_, ?_⟩
        · have := tw.set1 (a' := .lst ((fs ++ [t]).map D.str))
          simpa using this
        · simp; exact ⟨hbad, Ne.symm (hpx.2.2 _ rfl)⟩
        · rw [List.all_append, hfs]; simpa using List.all_eq_true.mp hws t ht
        · simp; omega
    · rintro env O2 ⟨fs, wt, y7, rfl, tw, nd, hin, ha', hbad, hfs, hfl⟩
      walk_at "dl"
      have hlen := nodup_len rs.length nd fun i hi => (hin i hi).2
      refine hN _ _ _ (m - 1) (by omega) (.refl _) ⟨fs, wt, a + 1, _, _, _, rfl, tw, nd, hin, ha', hbad, hfs, ?_, by omega⟩
      have : fs.length ≤ 2 * a + 2 := hfl
      omega
  · walk_at "dl"
    exact ⟨O, (tw.sub hpf hpw0).del hpf, hq fs hfs hbad⟩
def wdD (w : Str) : D → D
  | .tup [i, r] => .tup [.str w, i, r]
  | d => d
def tabD (w : Str) (rs : List D) : List D := (enumD rs).map (wdD w)
theorem tabD_len (w : Str) (rs : List D) : (tabD w rs).length = rs.length := by simp [tabD, enumD_len]
def fld2 (hs ss : List D) : List (Str × D) := [("hearer_rows", .tup hs), ("sender_rows", .tup ss)]
def fld3 (hs ss : List D) (p : Addr) : List (Str × D) := [("hearer_rows", .tup hs), ("sender_rows", .tup ss), ("table", .ref p)]
def wHear : List Str := ["taken", "lost"]
def wSend : List Str := ["done", "again"]
/-- sound machines -/
structure Sound (hs ss : List D) : Prop where
  h1 : 2 ≤ hs.length
  h2 : hs.length ≤ 100
  s1 : 1 ≤ ss.length
  s2 : ss.length ≤ 100
  hm : Mach wHear hs
  sm : Mach wSend ss
  cl : ∃ L, Closed hs 1 "taken" L
theorem plB_good {n : Int} {ws : List Str} (hw : ws.all strGood = true) {d : D} (h : plB n ws d = true) : good d = true := by
  rcases plB_cases h with ⟨i, rfl, _⟩ | ⟨s, rfl, hs⟩
  · exact good_int _
  · exact good_str (List.all_eq_true.mp hw s hs)
theorem plB_dp {n : Int} {ws : List Str} {d : D} (h : plB n ws d = true) : (py d).depth = 0 := by
  rcases plB_cases h with ⟨i, rfl, _⟩ | ⟨s, rfl, hs⟩ <;> simp [py, PyData.depth]
theorem rowB_good {n : Int} {ws : List Str} (hw : ws.all strGood = true) {d : D} (h : rowB n ws d = true) : good d = true := by
  obtain ⟨b, p, q, rfl, _, h1, h2⟩ := rowB_cases h
  have g1 := plB_good hw h1
  have g2 := plB_good hw h2
  have e1 := plB_dp h1
  have e2 := plB_dp h2
  simp only [good, SeqAt.shaped, Bool.and_eq_true, decide_eq_true_eq] at g1 g2 ⊢
  simp only [pd, pds, py, pys, PyData.canLay0, PyData.canLayAll0, PyData.depth, PyData.depthAll, g1.1, g1.2.1, g2.1, g2.2.1, e1, e2]
  decide
theorem wHear_good : wHear.all strGood = true := by decide +kernel
theorem wSend_good : wSend.all strGood = true := by decide +kernel
theorem enumD_mem {rs : List D} {x : D} (h : x ∈ enumD rs) : ∃ (i : Nat) (r : D), x = .tup [.int (i : Nat), r] ∧ r ∈ rs := by
  obtain ⟨i, hi⟩ := List.mem_iff_getElem?.mp h
  rw [enumD_get] at hi
  cases e : rs[i]? with
  | none => rw [e] at hi; cases hi
  | some r => rw [e] at hi; cases hi; exact ⟨i, r, rfl, List.mem_of_getElem? e⟩
def f_End___init__ (K : Frag) : DF := fun ds O q _ => ∃ x dx hD sD hs ss, ds = [.ref x, hD, sD] ∧ O x = some (.ins (He.ga K "End") dx []) ∧ SeqD O hD hs ∧ SeqD O sD ss ∧ Sound hs ss ∧
  ∀ O' p, O' x = some (.ins (He.ga K "End") dx (fld3 hs ss p)) → O' p = some (.lst (tabD "hearer" hs ++ tabD "sender" ss)) → O p = none → SubO (delO O x) O' → q .non O'
abbrev N_End___init__ : List Str := ["self", "hearer", "sender", "index", "row"]
abbrev P_End___init__ : List Str := ["self", "hearer", "sender"]
theorem sc_End___init__ : FnScope N_End___init__ P_End___init__ (defScope s_End___init__) := ⟨rfl, rfl, rfl, by decide +kernel, rfl, by decide +kernel, by decide +kernel⟩
theorem bd_End___init__ : Bd0 "__init__" "End.__init__" s_End___init__ P_End___init__ := fun _ _ _ _ _ _ us hl => match us, hl with | [_, _, _], _ => rfl
abbrev Fn_End___init__ (P : Program) (w : World) (K : Frag) (mg : Str → Option Value) (base : Heap) : Prop := Fn P w K mg base "__init__" "End.__init__" s_End___init__ [] [] P_End___init__ 3 5 (f_End___init__ K) (He.ma K (He.ga K "End") "__init__")
structure C_End___init__ (P : Program) (w : World) (K : Frag) (mg : Str → Option Value) (base : Heap) : Prop where
  checked_rows : Fn_checked_rows P w K mg base
  words_from : Fn_words_from P w K mg base
theorem ok_End___init__ {P : Program} {w : World} {K : Frag} {mg : Str → Option Value} {base : Heap} (F : HasD K "__init__" "End.__init__" s_End___init__ [] [] (He.ma K (He.ga K "End") "__init__")) (T : Txt K mg) (C : C_End___init__ P w K mg base) : Fn_End___init__ P w K mg base := by
  have sc := sc_End___init__
  refine fn_E (k := 4) F sc rfl fun cdv A outer s H E O0 H0 F0 ds O q xx hl hf S => ⟨_,
      (ds_cons (ds_fld S T.c_End T.n_End_hearer_rows (de_var (pv 0)) (so_callF S C.checked_rows (by decide) T.g_checked_rows bd_checked_rows rfl (da_cons (so_gc rfl T.g_HEARER T.d_HEARER) (da_cons (de_var (pv 1)) (da_cons de_int (da_cons (so_cvalE T.cr_End T.cv_End_MOST (pe_glob rfl T.g_End rfl) (fun _ => .int _)) (da_cons (so_gc rfl T.g_HEARER_WORDS T.d_HEARER_WORDS) da_nil)))))))
      (ds_cons (ds_fld S T.c_End T.n_End_sender_rows (de_var (pv 0)) (so_callF S C.checked_rows (by decide) T.g_checked_rows bd_checked_rows rfl (da_cons (so_gc rfl T.g_SENDER T.d_SENDER) (da_cons (de_var (pv 2)) (da_cons de_int (da_cons (so_cvalE T.cr_End T.cv_End_MOST (pe_glob rfl T.g_End rfl) (fun _ => .int _)) (da_cons (so_gc rfl T.g_SENDER_WORDS T.d_SENDER_WORDS) da_nil)))))))
      (ds_cons (ds_if (st_in S de_str (so_callF S C.words_from (by decide) T.g_words_from bd_words_from rfl (da_cons (de_fld S T.c_End T.n_End_hearer_rows (de_var (pv 0))) (da_cons de_int da_nil))))
       (ds_one ds_never)
       ds_nil)
      (ds_cons (ds_fld S T.c_End T.n_End_table (de_var (pv 0)) (de_lcO (simG_tup rfl (simGs_cons owSame_name (simG_name (vs := [3, 4]) (i := 3) (by decide)) (simGs_cons owSame_name (simG_name (vs := [3, 4]) (i := 4) (by decide)) simGs_nil))) (pe_lc (own := [("index", 3), ("row", 4)]) (g := (gTup _ 2 (gCons (gName 3) (gCons (gName 4) gNil)))) rfl sc.nd (di_enum S rfl T.b_enumerate (de_fld S T.c_End T.n_End_hearer_rows (de_var (pv 0)))) (blkOk_by (own := [("index", 3), ("row", 4)]) (N := N_End___init__) (sc := defScope s_End___init__) (by decide +kernel)) (fun _ _ _ _ _ => (pg_tup rfl (pgs_cons (pg_name (i := 3) sc.nd rfl (by first | exact Or.inl rfl | exact Or.inr rfl)) (pgs_cons (pg_name (i := 4) sc.nd rfl (by first | exact Or.inl rfl | exact Or.inr rfl)) pgs_nil)))) (fun _ _ _ _ _ => dts_nil) (fun _ _ _ _ _ => (de_tup (da_cons (so_gc rfl T.g_HEARER T.d_HEARER) (da_cons (de_var (pv 3)) (da_cons (de_var (pv 4)) da_nil))))))))
      (ds_one (ds_fldExt S T.c_End T.n_End_table (de_var (pv 0)) (de_lcO (simG_tup rfl (simGs_cons owSame_name (simG_name (vs := [3, 4]) (i := 3) (by decide)) (simGs_cons owSame_name (simG_name (vs := [3, 4]) (i := 4) (by decide)) simGs_nil))) (pe_lc (own := [("index", 3), ("row", 4)]) (g := (gTup _ 2 (gCons (gName 3) (gCons (gName 4) gNil)))) rfl sc.nd (di_enum S rfl T.b_enumerate (de_fld S T.c_End T.n_End_sender_rows (de_var (pv 0)))) (blkOk_by (own := [("index", 3), ("row", 4)]) (N := N_End___init__) (sc := defScope s_End___init__) (by decide +kernel)) (fun _ _ _ _ _ => (pg_tup rfl (pgs_cons (pg_name (i := 3) sc.nd rfl (by first | exact Or.inl rfl | exact Or.inr rfl)) (pgs_cons (pg_name (i := 4) sc.nd rfl (by first | exact Or.inl rfl | exact Or.inr rfl)) pgs_nil)))) (fun _ _ _ _ _ => dts_nil) (fun _ _ _ _ _ => (de_tup (da_cons (so_gc rfl T.g_SENDER T.d_SENDER) (da_cons (de_var (pv 3)) (da_cons (de_var (pv 4)) da_nil)))))))))))))
      , ?_⟩
  obtain ⟨x, dx, hD, sD, hs, ss, rfl, hx, hhD, hsD, so, hq⟩ := hf
  have hgood := fun r hr => rowB_good wHear_good (so.hm r hr)
  have sgood := fun r hr => rowB_good wSend_good (so.sm r hr)
  walk_at "dl"
  refine ⟨rfl, "hearer", hD, hs, 2, 100, wHear, rfl, hhD, by have := so.h1; omega, by have := so.h2; omega, by decide, hgood, wHear_good, so.hm, ?_⟩
  walk_at "dl"
  refine i_setfK hx (by simp) ?_
  walk_at "dl"
  refine ⟨rfl, "sender", sD, ss, 1, 100, wSend, rfl, hsD.set (fun ds z => by rw [hx] at z; cases z), by have := so.s1; omega, by have := so.s2; omega, by decide, sgood, wSend_good, so.sm, ?_⟩
  walk_at "dl"
  refine i_setfK setO_same (by simp [putD]) ?_
  rw [setO_setO]
  have e2 : putD "sender_rows" (.tup ss) (putD "hearer_rows" (.tup hs) []) = fld2 hs ss := by rfl
  rw [e2]
  obtain ⟨L, hL⟩ := so.cl
  walk_at "dw"
  refine ⟨rfl, hs, 1, wHear, "taken", L, rfl, so.hm, so.h2, by decide, by have := so.h1; omega, hL, wHear_good, fun fs hfs hbad => ?_⟩
  refine i_inStrL (by decide +kernel) hfs ?_
  rw [show fs.contains "taken" = false by simpa using hbad]
  refine iteF ?_
  walk_at "dl"
  have lh := so.h2
  have ls := so.s2
  refine ⟨by rw [enumD_len, sizeLine_eq]; omega, ?_⟩
  refine lcGo_map (wdD "hearer") trivial (fun y hy k z hk => ?_) (fun p hp => ?_)
  · obtain ⟨i, r, rfl, hr⟩ := enumD_mem hy
    walk_at "dl"
    refine iteT ?_
    walk_at "dl"
    exact hk _ (.refl _)
  have hpx : p ≠ x := fun z => by rw [z, setO_same] at hp; cases hp
  have hxp := hpx.symm
  have hp0 : O p = none := by rw [setO_ne hpx] at hp; exact hp
  walk_at "dl"
  refine i_setfK (fs := fld2 hs ss) (dx := dx) (by rw [setO_ne hxp, setO_same]) (by simp [fld2]) ?_
  have e3 : putD "table" (.ref p) (fld2 hs ss) = fld3 hs ss p := by rfl
  rw [e3]
  generalize hO3 : setO (setO (setO O x (.ins (He.ga K "End") dx (fld2 hs ss))) p (.lst ((enumD hs).map (wdD "hearer")))) x (.ins (He.ga K "End") dx (fld3 hs ss p)) = O3
  have g1 : O3 x = some (.ins (He.ga K "End") dx (fld3 hs ss p)) := by rw [← hO3, setO_same]
  have g2 : O3 p = some (.lst (tabD "hearer" hs)) := by rw [← hO3, setO_ne hpx, setO_same]; rfl
  have g3 : ∀ r, r ≠ x → r ≠ p → O3 r = O r := fun r h1 h2 => by rw [← hO3, setO_ne h1, setO_ne h2, setO_ne h1]
  refine ⟨.ref x, rfl, dx, fld3 hs ss p, p, g1, rfl, ?_⟩
  walk_at "dl"
  refine ⟨by rw [enumD_len, sizeLine_eq]; omega, ?_⟩
  refine lcGo_map (wdD "sender") trivial (fun y hy k z hk => ?_) (fun b hb => ?_)
  · obtain ⟨i, r, rfl, hr⟩ := enumD_mem hy
    walk_at "dl"
    refine iteT ?_
    walk_at "dl"
    exact hk _ (.refl _)
  have hbx : x ≠ b := fun z => by rw [← z, g1] at hb; cases hb
  have hbp : p ≠ b := fun z => by rw [← z, g2] at hb; cases hb
  refine ⟨_, _, dx, fld3 hs ss p, by rw [setO_ne hbp]; exact g2, setO_same, ?_, by rw [setO_ne hbx]; exact g1, by simp [fld3], ?_⟩
  · rw [tabD_len, List.length_map, enumD_len, sizeLine_eq]; omega
  have e4 : putD "table" (.ref p) (fld3 hs ss p) = fld3 hs ss p := by rfl
  rw [e4]
  refine rt_same (hq _ p setO_same ?_ hp0 fun r o e => ?_)
  · rw [setO_ne hpx, setO_same]; rfl
  · have h1 : r ≠ x := fun z => by subst z; unfold delO at e; rw [if_pos rfl] at e; cases e
    rw [delO_ne h1] at e
    have h2 : r ≠ p := fun z => by rw [z, hp0] at e; cases e
    have h3 : r ≠ b := fun z => by rw [z, ← g3 b (Ne.symm hbx) (Ne.symm hbp), hb] at e; cases e
    rw [setO_ne h1, setO_ne h2, setO_ne h3, g3 r h1 h2]
    exact e
abbrev N_End_hearer : List Str := ["self"]
abbrev P_End_hearer : List Str := ["self"]
theorem sc_End_hearer : FnScope N_End_hearer P_End_hearer (defScope s_End_hearer) := ⟨rfl, rfl, rfl, by decide +kernel, rfl, by decide +kernel, by decide +kernel⟩
theorem bd_End_hearer : Bd0 "hearer" "End.hearer" s_End_hearer P_End_hearer := fun _ _ _ _ _ _ us hl => match us, hl with | [_], _ => rfl
abbrev Fn_End_hearer (P : Program) (w : World) (K : Frag) (mg : Str → Option Value) (base : Heap) : Prop := Get P w K mg base (He.ga K "End") "hearer_rows" (ga2 K "End" "hearer")
theorem ok_End_hearer {P : Program} {w : World} {K : Frag} {mg : Str → Option Value} {base : Heap} (F : HasD K "hearer" "End.hearer" s_End_hearer [] [] (ga2 K "End" "hearer")) (T : Txt K mg) : Fn_End_hearer P w K mg base := get_E F sc_End_hearer rfl T.c_End T.n_End_hearer_rows bd_End_hearer
abbrev N_End_sender : List Str := ["self"]
abbrev P_End_sender : List Str := ["self"]
theorem sc_End_sender : FnScope N_End_sender P_End_sender (defScope s_End_sender) := ⟨rfl, rfl, rfl, by decide +kernel, rfl, by decide +kernel, by decide +kernel⟩
theorem bd_End_sender : Bd0 "sender" "End.sender" s_End_sender P_End_sender := fun _ _ _ _ _ _ us hl => match us, hl with | [_], _ => rfl
abbrev Fn_End_sender (P : Program) (w : World) (K : Frag) (mg : Str → Option Value) (base : Heap) : Prop := Get P w K mg base (He.ga K "End") "sender_rows" (ga2 K "End" "sender")
theorem ok_End_sender {P : Program} {w : World} {K : Frag} {mg : Str → Option Value} {base : Heap} (F : HasD K "sender" "End.sender" s_End_sender [] [] (ga2 K "End" "sender")) (T : Txt K mg) : Fn_End_sender P w K mg base := get_E F sc_End_sender rfl T.c_End T.n_End_sender_rows bd_End_sender
/-- an end as data -/
abbrev endD (C : Addr) (hs ss : List D) : D := .ins C ["hearer_rows", "sender_rows", "table"] [.tup hs, .tup ss, .lst (tabD "hearer" hs ++ tabD "sender" ss)]
/-- End(hearer, sender) of sound machines -/
theorem i_End {K : Frag} {xx : DX} {O : Ow} {q : DQ} {hD sD : D} {hs ss : List D} (hh : SeqD O hD hs) (hS : SeqD O sD ss) (so : Sound hs ss) (h : q (endD (He.ga K "End") hs ss) O) :
    ([hD, sD] ++ ([] : List D)).length + 1 = 3 ∧ ∀ x dx, O x = none → O dx = none → dx ≠ x →
      f_End___init__ K (.ref x :: ([hD, sD] ++ [])) (setO O x (.ins (He.ga K "End") dx [])) (fun d O2 => d = .non ∧ iceI (He.ga K "End") q (.ref x) O2) xx := by
  refine ⟨rfl, fun x dx hx _ _ => ⟨x, dx, hD, sD, hs, ss, rfl, setO_same, hh.set (fun _ z => by rw [hx] at z; cases z), hS.set (fun _ z => by rw [hx] at z; cases z), so, fun O' p e1 e2 e3 hsub => ⟨rfl, dx, _, e1, O, ?_, ?_⟩⟩⟩
  · rw [delO_set hx] at hsub
    intro r o e
    have h1 : r ≠ x := fun z => by rw [z, hx] at e; cases e
    have h2 : r ≠ p := fun z => by
      have hpx : p ≠ x := fun z => by rw [z, e1] at e2; cases e2
      rw [setO_ne hpx] at e3
      rw [z, e3] at e; cases e
    unfold cutO
    rw [if_neg]
    · exact hsub r o e
    · rintro (z | z)
      · exact h1 z
      · simp only [frzP, fld3, e2, Bool.or_false] at z
        exact h2 (by simpa using z)
  · simp only [fld3, List.map_cons, List.map_nil, frzD, e2]
    exact h
end
end K62
set_option Elab.async false
set_option linter.all false
set_option maxRecDepth 100000
set_option maxHeartbeats 4000000
namespace K62
open PySem PySem.Spec PyProof.Rows L2 DL
open ClX (CRead CVal)
local macro_rules | `(tactic| walk_at "d1") => `(tactic| first | ((with_reducible apply i_var); exact rfl) | ((with_reducible apply i_gtup); exact rfl) | ((with_reducible apply i_augI); exact rfl) | ((with_reducible apply i_ixT); exact rfl) | ((with_reducible apply i_ixL); exact rfl) | with_reducible refine i_seq ?_ | with_reducible refine i_asg ?_ | with_reducible refine i_gname ?_ | with_reducible refine i_c ?_ | with_reducible refine i_op ?_ | with_reducible refine i_cb ?_ | with_reducible refine i_cons ?_ | with_reducible refine i_nil ?_ | with_reducible refine i_expr ?_ | with_reducible refine i_ret ?_ | with_reducible refine i_retN ?_ | with_reducible refine i_next ?_ | with_reducible refine i_for ?_ | with_reducible refine i_par ?_ | with_reducible refine i_test ?_ | with_reducible refine i_tup ?_ | with_reducible refine i_lst ?_ | ((with_reducible refine i_sz ?_ ?_); (focus exact Nat.le_of_ble_eq_true rfl)) | with_reducible refine i_lstO ?_ | with_reducible refine i_break ?_ | with_reducible refine i_cont ?_ | with_reducible refine i_gnil ?_ | with_reducible refine i_gcons ?_ | with_reducible refine i_tru ?_ | with_reducible refine i_and ?_ | with_reducible refine i_or ?_ | with_reducible refine i_not ?_ | with_reducible refine i_andV ?_ | with_reducible refine i_orV ?_ | with_reducible refine i_notV ?_ | with_reducible refine i_neg ?_ | with_reducible refine i_chain ?_ | with_reducible refine i_call ?_ | with_reducible refine i_callK ?_ | with_reducible refine i_append ?_ | with_reducible refine i_gsub ?_ | with_reducible refine i_sl ?_ | with_reducible refine i_slT ?_ | with_reducible refine i_slL ?_ | with_reducible refine i_oN ?_ | with_reducible refine i_oS ?_ | with_reducible refine i_lc ?_ | with_reducible refine i_lc2 ?_ | with_reducible refine i_lc2O ?_ | with_reducible refine i_lcO ?_ | with_reducible refine i_yes ?_ | with_reducible refine i_listRg1 ?_ | with_reducible refine i_rg1 ?_ | with_reducible refine i_rg2 ?_ | with_reducible refine i_seqI ?_ | with_reducible refine i_seqT ?_ | with_reducible refine i_seqL ?_ | with_reducible refine i_lt ?_ | with_reducible refine i_le ?_ | with_reducible refine i_gt ?_ | with_reducible refine i_ge ?_ | with_reducible refine i_sub ?_ | with_reducible refine i_addI ?_ | with_reducible refine i_int ?_ | with_reducible refine i_intb ?_ | with_reducible refine i_abs ?_ | with_reducible refine i_min2 ?_ | with_reducible refine i_max2 ?_ | with_reducible refine i_isN ?_ | with_reducible refine i_notN ?_ | with_reducible refine i_lenL ?_ | with_reducible refine i_lenT ?_ | ((with_reducible apply i_ixO); (focus (first | assumption | exact setO_same | (rw [setO_ne (by assumption)]; first | assumption | exact setO_same))); exact rfl) | ((with_reducible apply i_lenO); (focus (first | assumption | exact setO_same | (rw [setO_ne (by assumption)]; first | assumption | exact setO_same)))) | ((with_reducible apply i_appK); (focus (first | assumption | exact setO_same | (rw [setO_ne (by assumption)]; first | assumption | exact setO_same)))) | ((with_reducible apply i_subK); (focus (first | assumption | exact setO_same | (rw [setO_ne (by assumption)]; first | assumption | exact setO_same))); exact rfl) | ((with_reducible apply i_slO); (focus (first | assumption | exact setO_same | (rw [setO_ne (by assumption)]; first | assumption | exact setO_same)))) | ((with_reducible apply i_seqO); (focus (first | assumption | exact setO_same | (rw [setO_ne (by assumption)]; first | assumption | exact setO_same)))) | ((with_reducible apply i_appK2); (focus (first | assumption | exact setO_same | (rw [setO_ne (by assumption)]; first | assumption | exact setO_same)))) | with_reducible refine i_ice ?_ | with_reducible refine i_iceL ?_ | ((with_reducible apply i_iceK); (focus (first | assumption | exact setO_same | (rw [setO_ne (by assumption)]; first | assumption | exact setO_same)))) | with_reducible refine i_fld ?_ | ((with_reducible apply i_fldK); (focus (first | assumption | exact setO_same | (rw [setO_ne (by assumption)]; first | assumption | exact setO_same))); exact rfl) | with_reducible refine i_sfld ?_ | with_reducible refine i_make ?_ | with_reducible refine i_callK0 ?_ | with_reducible refine i_enum2 ?_ | with_reducible refine i_enumL ?_ | with_reducible refine i_enumT ?_ | with_reducible refine i_par3 ?_ | with_reducible refine i_dsp2 ?_ | ((with_reducible apply i_isi (b := true)); exact rfl; exact rfl; exact rfl) | ((with_reducible apply i_isi (b := false)); exact rfl; exact rfl; exact rfl) | with_reducible refine i_eqI ?_ | with_reducible refine i_neI ?_ | with_reducible refine i_truB ?_ | ((with_reducible apply i_fldI); exact rfl) | with_reducible refine i_iceI ?_ | with_reducible refine i_join ?_ | with_reducible refine i_dict0 ?_ | with_reducible refine i_isiI ?_ | with_reducible refine i_ownIn ?_ | with_reducible refine i_ownEq ?_ | with_reducible refine i_ownLen ?_ | with_reducible refine i_ownStr ?_ | with_reducible refine i_strS ?_ | with_reducible refine i_fmt ?_ | with_reducible refine i_pop ?_ | with_reducible refine i_listRg2 ?_ | with_reducible refine i_listRg2O ?_ | ((with_reducible apply i_popK); (focus (first | assumption | exact setO_same | (rw [setO_ne (by assumption)]; first | assumption | exact setO_same)))) | with_reducible refine i_raise ?_ | with_reducible refine i_tryAs ?_ | with_reducible refine i_xf ?_ | ((with_reducible apply i_xfK); exact rfl) | with_reducible refine i_js ?_ | with_reducible refine i_js0 ?_ | with_reducible refine i_makeK0 ?_ | with_reducible refine i_own ?_ | with_reducible refine i_ownT ?_ | with_reducible refine i_lenZ ?_ | with_reducible refine i_sortZ ?_ | with_reducible refine i_setL ?_ | with_reducible refine i_setLT ?_ | with_reducible refine i_sc ?_ | with_reducible refine i_setQ ?_ | with_reducible refine i_sc2 ?_ | with_reducible refine i_lenB ?_ | with_reducible refine i_bl ?_ | with_reducible refine i_tm ?_ | with_reducible refine i_lcnt ?_ | with_reducible refine i_setTI ?_ | ((with_reducible apply i_augL); exact rfl) | with_reducible refine i_scB ?_ | with_reducible refine i_key ?_ | with_reducible refine i_revL ?_ | with_reducible refine i_revT ?_ | with_reducible refine i_zip ?_ | with_reducible refine i_ltAI ?_ | with_reducible refine i_ltAS ?_ | with_reducible refine i_inRg1 ?_ | with_reducible refine i_inRg2 ?_ | with_reducible refine i_listRg1O ?_ | with_reducible refine i_tryM ?_ | with_reducible refine i_tryN ?_ | with_reducible refine i_upd ?_ | with_reducible refine i_mat ?_ | with_reducible refine i_matK ?_ | with_reducible refine i_mc0 ?_ | ((with_reducible apply i_mcY); (focus exact rfl)) | ((with_reducible apply i_mcN); (focus exact Nat.ne_of_beq_eq_false rfl)) | with_reducible refine i_ltT ?_ | with_reducible refine i_xi ?_ | with_reducible refine i_split ?_ | with_reducible refine i_count ?_ | with_reducible refine i_m0 ?_ | with_reducible refine i_m0K ?_ | with_reducible refine i_starA ?_ | with_reducible refine i_cm ?_ | with_reducible refine i_cmK ?_ | ((with_reducible apply i_makeL); exact rfl) | with_reducible refine i_int2I ?_ | with_reducible refine i_int2B ?_ | with_reducible refine i_clear ?_ | ((with_reducible apply i_clearK); (focus (first | assumption | exact setO_same | (rw [setO_ne (by assumption)]; first | assumption | exact setO_same)))) | with_reducible refine i_meth ?_ | with_reducible refine i_methM ?_ | ((with_reducible apply i_methKwO); (focus (first | assumption | exact setO_same | (rw [setO_ne (by assumption)]; first | assumption | exact setO_same))); exact rfl) | with_reducible refine i_extend ?_ | with_reducible refine i_lam ?_ | with_reducible refine i_dput ?_ | with_reducible refine i_dict0N ?_ | with_reducible refine i_dict1 ?_ | with_reducible refine i_disp2 ?_ | with_reducible refine i_disp3 ?_ | with_reducible refine i_dispN ?_ | with_reducible refine i_goC ?_ | ((with_reducible apply i_goK); exact rfl) | with_reducible refine i_goN ?_ | with_reducible refine i_setd ?_ | with_reducible refine i_idxL ?_ | with_reducible refine i_ixLK ?_ | with_reducible refine i_dc ?_ | with_reducible refine i_dct ?_ | with_reducible refine i_ckw ?_ | with_reducible refine i_iceA ?_ | with_reducible refine i_get2 ?_ | with_reducible refine i_get1 ?_ | with_reducible refine i_prop ?_ | with_reducible refine i_propI ?_ | ((with_reducible apply i_methI); exact rfl) | ((with_reducible apply i_methO); (focus (first | assumption | exact setO_same | (rw [setO_ne (by assumption)]; first | assumption | exact setO_same))); exact rfl))
local macro_rules | `(tactic| walk_at "dl") => `(tactic| repeat (walk_at "d1"))
local macro_rules | `(tactic| walk_at "dw") => `(tactic| repeat (first | with_reducible refine i_if ?_ | with_reducible refine i_ifE ?_ | walk_at "d1"))
section
theorem good_ints (ws : List Int) : good (.lst (ws.map D.int)) = true := good_lstI fun d hd => by
  obtain ⟨i, _, rfl⟩ := List.mem_map.mp hd
  exact ⟨good_int i, by simp [py, PyData.depth]⟩
end
section
variable {P : Program} {w : World} {K : Frag} {mg : Str → Option Value} {base : Heap}
abbrev f_law_take : DF := f_take
abbrev f_law_bag : DF := f_bag
abbrev N_law_take : List Str := ["_law_bag_here", "_law_many", "_law_digit", "_law_mixed"]
abbrev P_law_take : List Str := ["_law_bag_here", "_law_many"]
theorem sc_law_take : FnScope N_law_take P_law_take (defScope s_law_take) := ⟨rfl, rfl, rfl, by decide +kernel, rfl, by decide +kernel, by decide +kernel⟩
theorem bd_law_take : Bd0 "_law_take" "_law_take" s_law_take P_law_take := fun _ _ _ _ _ _ us hl => match us, hl with | [_, _], _ => rfl
abbrev Fn_law_take (P : Program) (w : World) (K : Frag) (mg : Str → Option Value) (base : Heap) : Prop := Fn P w K mg base "_law_take" "_law_take" s_law_take [] [] P_law_take 2 1 f_law_take (He.ga K "_law_take")
theorem ok_law_take {P : Program} {w : World} {K : Frag} {mg : Str → Option Value} {base : Heap} (F : HasD K "_law_take" "_law_take" s_law_take [] [] (He.ga K "_law_take")) (T : Txt K mg) : Fn_law_take P w K mg base := by
  have sc := sc_law_take
  refine fn_E (k := 0) F sc rfl fun cdv A outer s H E O0 H0 F0 ds O q xx hl hf S => ⟨_,
      (ds_cons (ds_if (st_gt S (so_ix S (de_var (pv 0)) de_int (fun _ _ => rfl)) de_int)
       (ds_cons (ds_set (ps_set (i := 2) sc.nd rfl (by first | exact Or.inl rfl | exact Or.inr rfl) (so_mod S (so_int S rfl T.b_int (da_cons (so_ix S (de_var (pv 0)) de_int (fun _ _ => rfl)) da_nil)) (de_var (pv 1)))))
       (ds_cons (ds_asg (ps_asg (so_fdiv S (so_ix S (de_var (pv 0)) de_int (fun _ _ => rfl)) (de_var (pv 1))) (dg_sub (pg_sub (de_var (pv 0)) de_int set_list))))
       (ds_one (ds_ret (de_var (pv 2))))))
       ds_nil)
      (ds_cons (ds_asg (ps_asg (so_add S (so_ix S (de_var (pv 0)) de_int (fun _ _ => rfl)) de_int) (dg_sub (pg_sub (de_var (pv 0)) de_int set_list))))
      (ds_cons (ds_set (ps_set (i := 3) sc.nd rfl (by first | exact Or.inl rfl | exact Or.inr rfl) (so_mod S (so_int S rfl T.b_int (da_cons (so_pow S (so_add S (so_ix S (de_var (pv 0)) de_int (fun _ _ => rfl)) (so_mul S de_int (so_ix S (de_var (pv 0)) de_int (fun _ _ => rfl)))) de_int) da_nil)) de_int)))
      (ds_cons (ds_set (ps_set (i := 3) sc.nd rfl (by first | exact Or.inl rfl | exact Or.inr rfl) (so_mod S (so_int S rfl T.b_int (da_cons (so_pow S (so_add S (de_var (pv 3)) (so_mul S de_int (so_ix S (de_var (pv 0)) de_int (fun _ _ => rfl)))) de_int) da_nil)) de_int)))
      (ds_one (ds_ret (so_mod S (so_int S rfl T.b_int (da_cons (so_fdiv S (de_var (pv 3)) de_int) da_nil)) (de_var (pv 1)))))))))
      , ?_⟩
  obtain ⟨p, n, m, rfl, ⟨a, b, c, hp, h2, h3, h4, h5⟩, h6, h0, h1, hq⟩ := hf
  walk_at "dw"
  refine if_d (fun ha => ?_) (fun ha => ?_)
  · walk_at "dl"
    refine i_mod h0 ?_
    walk_at "dl"
    refine i_fdiv ⟨h0, by omega⟩ ?_
    walk_at "dl"
    exact rt_same (hq _ _ (Int.emod_nonneg _ (by omega)) (Int.emod_lt_of_pos _ h0) ⟨_, _, _, setO_same, h2, h3, h4, by omega⟩)
  · walk_at "dl"
    refine i_mulI (.inl (by omega)) ?_
    walk_at "dl"
    have hpos : 0 ≤ b + 1000541 * (c + 1) := by omega
    have hb : (b + 1000541 * (c + 1)).natAbs < 2 ^ 91 := by omega
    refine i_pow (powW (m := 91) hb (by decide) (by decide) (by decide)) ?_
    walk_at "dl"
    refine i_mod (by decide) ?_
    generalize hx : (b + 1000541 * (c + 1)) ^ (3 : Int).toNat % 2305843009213693921 = x
    have hx1 : 0 ≤ x := by subst hx; exact Int.emod_nonneg _ (by decide)
    have hx2 : x < 2305843009213693921 := by subst hx; exact Int.emod_lt_of_pos _ (by decide)
    walk_at "dl"
    refine i_mulI (.inl (by omega)) ?_
    walk_at "dl"
    refine i_pow (powW (m := 91) (by omega) (by decide) (by decide) (by decide)) ?_
    walk_at "dl"
    refine i_mod (by decide) ?_
    walk_at "dl"
    refine i_fdiv ⟨by decide, by decide⟩ ?_
    walk_at "dl"
    refine i_mod h0 ?_
    exact rt_same (hq _ _ (Int.emod_nonneg _ (by omega)) (Int.emod_lt_of_pos _ h0) ⟨_, _, _, setO_same, h2, h3, by omega, by omega⟩)
abbrev N_law_bag : List Str := ["_law_script", "_law_at", "_law_cell", "_law_great"]
abbrev P_law_bag : List Str := ["_law_script", "_law_at"]
theorem sc_law_bag : FnScope N_law_bag P_law_bag (defScope s_law_bag) := ⟨rfl, rfl, rfl, by decide +kernel, rfl, by decide +kernel, by decide +kernel⟩
theorem bd_law_bag : Bd0 "_law_bag" "_law_bag" s_law_bag P_law_bag := fun _ _ _ _ _ _ us hl => match us, hl with | [_, _], _ => rfl
abbrev Fn_law_bag (P : Program) (w : World) (K : Frag) (mg : Str → Option Value) (base : Heap) : Prop := Fn P w K mg base "_law_bag" "_law_bag" s_law_bag [] [] P_law_bag 2 1 f_law_bag (He.ga K "_law_bag")
theorem ok_law_bag {P : Program} {w : World} {K : Frag} {mg : Str → Option Value} {base : Heap} (F : HasD K "_law_bag" "_law_bag" s_law_bag [] [] (He.ga K "_law_bag")) (T : Txt K mg) : Fn_law_bag P w K mg base := by
  have sc := sc_law_bag
  refine fn_E (k := 0) F sc rfl fun cdv A outer s H E O0 H0 F0 ds O q xx hl hf S => ⟨_,
      (ds_cons (ds_set (ps_set (i := 2) sc.nd rfl (by first | exact Or.inl rfl | exact Or.inr rfl) (de_if (st_lt S (de_var (pv 1)) (so_len S rfl T.b_len (da_cons (de_var (pv 0)) da_nil))) (so_int S rfl T.b_int (da_cons (so_ix S (de_var (pv 0)) (de_var (pv 1)) (fun _ _ => rfl)) da_nil)) de_int)))
      (ds_cons (ds_set (ps_set (i := 3) sc.nd rfl (by first | exact Or.inl rfl | exact Or.inr rfl) (de_if (st_ge S (so_abs S rfl T.b_abs (da_cons (de_var (pv 2)) da_nil)) (so_pow S de_int de_int)) (so_abs S rfl T.b_abs (da_cons (de_var (pv 2)) da_nil)) de_int)))
      (ds_one (ds_ret (de_lstO (da_cons (de_var (pv 3)) (da_cons (so_mod S (so_int S rfl T.b_int (da_cons (so_mul S (so_add S (so_add S (so_mod S (de_var (pv 2)) de_int) (so_mul S de_int (de_var (pv 1)))) de_int) de_int) da_nil)) de_int) (da_cons de_int da_nil))))))))
      , ?_⟩
  obtain ⟨ns, at_, rfl, h0, h1, hq⟩ := hf
  walk_at "dl"
  refine join (fun d => ∃ c : Int, d = .int c) ?_ fun q' hq' => ?_
  case refine_2 =>
    walk_at "dw"
    refine if_d (fun ha => ?_) (fun ha => ?_)
    · obtain ⟨d, e1, e⟩ := atI_in h0 ha
      obtain ⟨c, _, rfl⟩ := map_get e1
      walk_at "dl"
      refine i_ixL e ?_
      walk_at "dl"
      exact hq' _ ⟨_, rfl⟩
    · walk_at "dl"
      exact hq' _ ⟨_, rfl⟩
  rintro _ ⟨cell, rfl⟩
  walk_at "dl"
  refine join (fun d => ∃ c : Int, d = .int c) ?_ fun q' hq' => ?_
  case refine_2 =>
    walk_at "dw"
    refine i_pow (powW (m := 40) (by decide) (by decide) (by decide) (by decide)) ?_
    walk_at "dl"
    refine if_d (fun ha => ?_) (fun ha => ?_)
    · walk_at "dl"
      exact hq' _ ⟨_, rfl⟩
    · walk_at "dl"
      exact hq' _ ⟨_, rfl⟩
  rintro _ ⟨dig, rfl⟩
  walk_at "dl"
  refine i_mod (by decide) ?_
  have hx1 : 0 ≤ cell % 2305843009213693951 := Int.emod_nonneg _ (by decide)
  have hx2 : cell % 2305843009213693951 < 2305843009213693951 := Int.emod_lt_of_pos _ (by decide)
  generalize cell % 2305843009213693951 = x at hx1 hx2 ⊢
  walk_at "dl"
  refine i_mulI (.inl (by omega)) ?_
  walk_at "dl"
  refine i_mulI (.inr (by omega)) ?_
  walk_at "dl"
  refine i_mod (by decide) ?_
  generalize hy : _ % (2305843009213693951 : Int) = y
  have hy1 : 0 ≤ y := by subst hy; exact Int.emod_nonneg _ (by decide)
  have hy2 : y < 2305843009213693951 := by subst hy; exact Int.emod_lt_of_pos _ (by decide)
  walk_at "dl"
  exact fun p hp => rt_same (hq p _ hp ⟨_, _, _, setO_same, hy1, by omega, by decide, by decide⟩)
end
section
variable {P : Program} {w : World} {K : Frag} {mg : Str → Option Value} {base : Heap}
def f_law_of : DF := fun ds O q _ => ∃ p ts m, ds = [.ref p, .lst ts] ∧ Bag O p m ∧ m < 2 ^ 38 ∧ 0 < ts.length ∧ ts.length < 1000 ∧ ∀ t o, t ∈ ts → Bag (setO O p o) p (m + 1) → q t (setO O p o)
abbrev N_law_of : List Str := ["_law_bag_here", "_law_things"]
abbrev P_law_of : List Str := ["_law_bag_here", "_law_things"]
theorem sc_law_of : FnScope N_law_of P_law_of (defScope s_law_of) := ⟨rfl, rfl, rfl, by decide +kernel, rfl, by decide +kernel, by decide +kernel⟩
theorem bd_law_of : Bd0 "_law_of" "_law_of" s_law_of P_law_of := fun _ _ _ _ _ _ us hl => match us, hl with | [_, _], _ => rfl
abbrev Fn_law_of (P : Program) (w : World) (K : Frag) (mg : Str → Option Value) (base : Heap) : Prop := Fn P w K mg base "_law_of" "_law_of" s_law_of [] [] P_law_of 2 2 f_law_of (He.ga K "_law_of")
structure C_law_of (P : Program) (w : World) (K : Frag) (mg : Str → Option Value) (base : Heap) : Prop where
  law_take : Fn_law_take P w K mg base
theorem ok_law_of {P : Program} {w : World} {K : Frag} {mg : Str → Option Value} {base : Heap} (F : HasD K "_law_of" "_law_of" s_law_of [] [] (He.ga K "_law_of")) (T : Txt K mg) (C : C_law_of P w K mg base) : Fn_law_of P w K mg base := by
  have sc := sc_law_of
  refine fn_E (k := 1) F sc rfl fun cdv A outer s H E O0 H0 F0 ds O q xx hl hf S => ⟨_,
      (ds_one (ds_ret (so_ix S (de_var (pv 1)) (so_callF S C.law_take (by decide) T.g_law_take bd_law_take rfl (da_cons (de_var (pv 0)) (da_cons (so_len S rfl T.b_len (da_cons (de_var (pv 1)) da_nil)) da_nil))) (fun _ _ => rfl))))
      , ?_⟩
  obtain ⟨p, ts, m, rfl, hb, hm, h0, h1, hq⟩ := hf
  walk_at "dl"
  refine ⟨rfl, p, ts.length, m, rfl, hb, by omega, by omega, by omega, fun y o hy0 hy1 hb1 => ?_⟩
  obtain ⟨d, e1, e2⟩ := atI_in (ds := ts) hy0 hy1
  exact i_ixL e2 (rt_same (hq _ _ (List.mem_of_getElem? e1) hb1))
end
end K62
set_option Elab.async false
set_option linter.all false
set_option maxRecDepth 100000
set_option maxHeartbeats 4000000
namespace K62
open PySem PySem.Spec PyProof.Rows L2 DL
open ClX (CRead CVal)
local macro_rules | `(tactic| walk_at "d1") => `(tactic| first | ((with_reducible apply i_var); exact rfl) | ((with_reducible apply i_gtup); exact rfl) | ((with_reducible apply i_augI); exact rfl) | ((with_reducible apply i_ixT); exact rfl) | ((with_reducible apply i_ixL); exact rfl) | with_reducible refine i_seq ?_ | with_reducible refine i_asg ?_ | with_reducible refine i_gname ?_ | with_reducible refine i_c ?_ | with_reducible refine i_op ?_ | with_reducible refine i_cb ?_ | with_reducible refine i_cons ?_ | with_reducible refine i_nil ?_ | with_reducible refine i_expr ?_ | with_reducible refine i_ret ?_ | with_reducible refine i_retN ?_ | with_reducible refine i_next ?_ | with_reducible refine i_for ?_ | with_reducible refine i_par ?_ | with_reducible refine i_test ?_ | with_reducible refine i_tup ?_ | with_reducible refine i_lst ?_ | ((with_reducible refine i_sz ?_ ?_); (focus exact Nat.le_of_ble_eq_true rfl)) | with_reducible refine i_lstO ?_ | with_reducible refine i_break ?_ | with_reducible refine i_cont ?_ | with_reducible refine i_gnil ?_ | with_reducible refine i_gcons ?_ | with_reducible refine i_tru ?_ | with_reducible refine i_and ?_ | with_reducible refine i_or ?_ | with_reducible refine i_not ?_ | with_reducible refine i_andV ?_ | with_reducible refine i_orV ?_ | with_reducible refine i_notV ?_ | with_reducible refine i_neg ?_ | with_reducible refine i_chain ?_ | with_reducible refine i_call ?_ | with_reducible refine i_callK ?_ | with_reducible refine i_append ?_ | with_reducible refine i_gsub ?_ | with_reducible refine i_sl ?_ | with_reducible refine i_slT ?_ | with_reducible refine i_slL ?_ | with_reducible refine i_oN ?_ | with_reducible refine i_oS ?_ | with_reducible refine i_lc ?_ | with_reducible refine i_lc2 ?_ | with_reducible refine i_lc2O ?_ | with_reducible refine i_lcO ?_ | with_reducible refine i_yes ?_ | with_reducible refine i_listRg1 ?_ | with_reducible refine i_rg1 ?_ | with_reducible refine i_rg2 ?_ | with_reducible refine i_seqI ?_ | with_reducible refine i_seqT ?_ | with_reducible refine i_seqL ?_ | with_reducible refine i_lt ?_ | with_reducible refine i_le ?_ | with_reducible refine i_gt ?_ | with_reducible refine i_ge ?_ | with_reducible refine i_sub ?_ | with_reducible refine i_addI ?_ | with_reducible refine i_int ?_ | with_reducible refine i_intb ?_ | with_reducible refine i_abs ?_ | with_reducible refine i_min2 ?_ | with_reducible refine i_max2 ?_ | with_reducible refine i_isN ?_ | with_reducible refine i_notN ?_ | with_reducible refine i_lenL ?_ | with_reducible refine i_lenT ?_ | ((with_reducible apply i_ixO); (focus (first | assumption | exact setO_same | (rw [setO_ne (by assumption)]; first | assumption | exact setO_same))); exact rfl) | ((with_reducible apply i_lenO); (focus (first | assumption | exact setO_same | (rw [setO_ne (by assumption)]; first | assumption | exact setO_same)))) | ((with_reducible apply i_appK); (focus (first | assumption | exact setO_same | (rw [setO_ne (by assumption)]; first | assumption | exact setO_same)))) | ((with_reducible apply i_subK); (focus (first | assumption | exact setO_same | (rw [setO_ne (by assumption)]; first | assumption | exact setO_same))); exact rfl) | ((with_reducible apply i_slO); (focus (first | assumption | exact setO_same | (rw [setO_ne (by assumption)]; first | assumption | exact setO_same)))) | ((with_reducible apply i_seqO); (focus (first | assumption | exact setO_same | (rw [setO_ne (by assumption)]; first | assumption | exact setO_same)))) | ((with_reducible apply i_appK2); (focus (first | assumption | exact setO_same | (rw [setO_ne (by assumption)]; first | assumption | exact setO_same)))) | with_reducible refine i_ice ?_ | with_reducible refine i_iceL ?_ | ((with_reducible apply i_iceK); (focus (first | assumption | exact setO_same | (rw [setO_ne (by assumption)]; first | assumption | exact setO_same)))) | with_reducible refine i_fld ?_ | ((with_reducible apply i_fldK); (focus (first | assumption | exact setO_same | (rw [setO_ne (by assumption)]; first | assumption | exact setO_same))); exact rfl) | with_reducible refine i_sfld ?_ | with_reducible refine i_make ?_ | with_reducible refine i_callK0 ?_ | with_reducible refine i_enum2 ?_ | with_reducible refine i_enumL ?_ | with_reducible refine i_enumT ?_ | with_reducible refine i_par3 ?_ | with_reducible refine i_dsp2 ?_ | ((with_reducible apply i_isi (b := true)); exact rfl; exact rfl; exact rfl) | ((with_reducible apply i_isi (b := false)); exact rfl; exact rfl; exact rfl) | with_reducible refine i_eqI ?_ | with_reducible refine i_neI ?_ | with_reducible refine i_truB ?_ | ((with_reducible apply i_fldI); exact rfl) | with_reducible refine i_iceI ?_ | with_reducible refine i_join ?_ | with_reducible refine i_dict0 ?_ | with_reducible refine i_isiI ?_ | with_reducible refine i_ownIn ?_ | with_reducible refine i_ownEq ?_ | with_reducible refine i_ownLen ?_ | with_reducible refine i_ownStr ?_ | with_reducible refine i_strS ?_ | with_reducible refine i_fmt ?_ | with_reducible refine i_pop ?_ | with_reducible refine i_listRg2 ?_ | with_reducible refine i_listRg2O ?_ | ((with_reducible apply i_popK); (focus (first | assumption | exact setO_same | (rw [setO_ne (by assumption)]; first | assumption | exact setO_same)))) | with_reducible refine i_raise ?_ | with_reducible refine i_tryAs ?_ | with_reducible refine i_xf ?_ | ((with_reducible apply i_xfK); exact rfl) | with_reducible refine i_js ?_ | with_reducible refine i_js0 ?_ | with_reducible refine i_makeK0 ?_ | with_reducible refine i_own ?_ | with_reducible refine i_ownT ?_ | with_reducible refine i_lenZ ?_ | with_reducible refine i_sortZ ?_ | with_reducible refine i_setL ?_ | with_reducible refine i_setLT ?_ | with_reducible refine i_sc ?_ | with_reducible refine i_setQ ?_ | with_reducible refine i_sc2 ?_ | with_reducible refine i_lenB ?_ | with_reducible refine i_bl ?_ | with_reducible refine i_tm ?_ | with_reducible refine i_lcnt ?_ | with_reducible refine i_setTI ?_ | ((with_reducible apply i_augL); exact rfl) | with_reducible refine i_scB ?_ | with_reducible refine i_key ?_ | with_reducible refine i_revL ?_ | with_reducible refine i_revT ?_ | with_reducible refine i_zip ?_ | with_reducible refine i_ltAI ?_ | with_reducible refine i_ltAS ?_ | with_reducible refine i_inRg1 ?_ | with_reducible refine i_inRg2 ?_ | with_reducible refine i_listRg1O ?_ | with_reducible refine i_tryM ?_ | with_reducible refine i_tryN ?_ | with_reducible refine i_upd ?_ | with_reducible refine i_mat ?_ | with_reducible refine i_matK ?_ | with_reducible refine i_mc0 ?_ | ((with_reducible apply i_mcY); (focus exact rfl)) | ((with_reducible apply i_mcN); (focus exact Nat.ne_of_beq_eq_false rfl)) | with_reducible refine i_ltT ?_ | with_reducible refine i_xi ?_ | with_reducible refine i_split ?_ | with_reducible refine i_count ?_ | with_reducible refine i_m0 ?_ | with_reducible refine i_m0K ?_ | with_reducible refine i_starA ?_ | with_reducible refine i_cm ?_ | with_reducible refine i_cmK ?_ | ((with_reducible apply i_makeL); exact rfl) | with_reducible refine i_int2I ?_ | with_reducible refine i_int2B ?_ | with_reducible refine i_clear ?_ | ((with_reducible apply i_clearK); (focus (first | assumption | exact setO_same | (rw [setO_ne (by assumption)]; first | assumption | exact setO_same)))) | with_reducible refine i_meth ?_ | with_reducible refine i_methM ?_ | ((with_reducible apply i_methKwO); (focus (first | assumption | exact setO_same | (rw [setO_ne (by assumption)]; first | assumption | exact setO_same))); exact rfl) | with_reducible refine i_extend ?_ | with_reducible refine i_lam ?_ | with_reducible refine i_dput ?_ | with_reducible refine i_dict0N ?_ | with_reducible refine i_dict1 ?_ | with_reducible refine i_disp2 ?_ | with_reducible refine i_disp3 ?_ | with_reducible refine i_dispN ?_ | with_reducible refine i_goC ?_ | ((with_reducible apply i_goK); exact rfl) | with_reducible refine i_goN ?_ | with_reducible refine i_setd ?_ | with_reducible refine i_idxL ?_ | with_reducible refine i_ixLK ?_ | with_reducible refine i_dc ?_ | with_reducible refine i_dct ?_ | with_reducible refine i_ckw ?_ | with_reducible refine i_iceA ?_ | with_reducible refine i_get2 ?_ | with_reducible refine i_get1 ?_ | with_reducible refine i_prop ?_ | with_reducible refine i_propI ?_ | ((with_reducible apply i_methI); exact rfl) | ((with_reducible apply i_methO); (focus (first | assumption | exact setO_same | (rw [setO_ne (by assumption)]; first | assumption | exact setO_same))); exact rfl))
local macro_rules | `(tactic| walk_at "dl") => `(tactic| repeat (walk_at "d1"))
local macro_rules | `(tactic| walk_at "dw") => `(tactic| repeat (first | with_reducible refine i_if ?_ | with_reducible refine i_ifE ?_ | walk_at "d1"))
section
variable {P : Program} {w : World} {K : Frag} {mg : Str → Option Value} {base : Heap}
/-- what follows a row -/
def FolP (n : Int) (ws : List Str) (l : Str) (b : Bool) (d : D) : Prop := (∃ i : Int, d = .int i ∧ 0 ≤ i ∧ i < n ∧ (b = true → i % 2 = 1)) ∨ ∃ s, d = .str s ∧ s ∈ ws ∧ (b = true → s = l)
def f_law_follow : DF := fun ds O q _ => ∃ (p : Addr) (i n m : Int) (w1 w2 w3 : Str) (b : Bool), ds = [.ref p, .int i, .int n, .lst [.str w1, .str w2, .str w3], .bl b] ∧ Bag O p m ∧ m < 2 ^ 37 ∧ 1 ≤ n ∧ (b = true → 2 ≤ n) ∧ n ≤ 10 ∧ 0 ≤ i ∧ i < n ∧
  ∀ d O', Ex p O O' → Bag O' p (m + 2) → FolP n [w1, w2, w3] w3 b d → q d O'
/-- the rows that may follow -/
def rowsF (n : Int) (b : Bool) : List Int := (zs 0 n).filter fun i => !b || decide (i % 2 = 1)
theorem rowsF_mem {n : Int} {b : Bool} {i : Int} (h : i ∈ rowsF n b) : 0 ≤ i ∧ i < n ∧ (b = true → i % 2 = 1) := by
  obtain ⟨h1, h2⟩ := List.mem_filter.mp h
  obtain ⟨a, c⟩ := zs_mem h1
  refine ⟨a, c, fun e => ?_⟩
  subst e
  simpa using h2
theorem rowsF_ne {n : Int} {b : Bool} (h1 : 1 ≤ n) (h : b = true → 2 ≤ n) : 0 < (rowsF n b).length := by
  cases b with
  | true =>
    have := h rfl
    refine List.length_pos_of_mem (a := 1) (List.mem_filter.mpr ⟨?_, by simp⟩)
    unfold zs
    exact List.mem_map.mpr ⟨1, List.mem_range.mpr (by omega), by simp⟩
  | false =>
    refine List.length_pos_of_mem (a := 0) (List.mem_filter.mpr ⟨?_, by simp⟩)
    unfold zs
    exact List.mem_map.mpr ⟨0, List.mem_range.mpr (by omega), by simp⟩
theorem rowsF_len {n : Int} {b : Bool} (h : n ≤ 10) : (rowsF n b).length ≤ 10 := by
  refine Nat.le_trans (List.length_filter_le _ _) ?_
  rw [zs_len]; omega
theorem i_neInts {O : Ow} {q : DQ} {xs : List Int} (h : q (.bl (!xs.isEmpty)) O) : dNe (.lst (xs.map D.int)) (.lst []) O q := i_neG (good_ints _) (by decide +kernel) (by
  have e : PyData.eqv (py (.lst (xs.map D.int))) (py (.lst [])) = xs.isEmpty := by cases xs <;> simp [py, pys, PyData.eqv, PyData.eqvAll]
  rw [e]; exact h)
abbrev N_law_follow : List Str := ["_law_bag_here", "_law_index", "_law_many", "_law_words", "_law_is_bad", "_law_rows_here", "_law_row", "_law_later", "_law_way_here"]
abbrev P_law_follow : List Str := ["_law_bag_here", "_law_index", "_law_many", "_law_words", "_law_is_bad"]
theorem sc_law_follow : FnScope N_law_follow P_law_follow (defScope s_law_follow) := ⟨rfl, rfl, rfl, by decide +kernel, rfl, by decide +kernel, by decide +kernel⟩
theorem bd_law_follow : Bd0 "_law_follow" "_law_follow" s_law_follow P_law_follow := fun _ _ _ _ _ _ us hl => match us, hl with | [_, _, _, _, _], _ => rfl
abbrev Fn_law_follow (P : Program) (w : World) (K : Frag) (mg : Str → Option Value) (base : Heap) : Prop := Fn P w K mg base "_law_follow" "_law_follow" s_law_follow [] [] P_law_follow 5 3 f_law_follow (He.ga K "_law_follow")
structure C_law_follow (P : Program) (w : World) (K : Frag) (mg : Str → Option Value) (base : Heap) : Prop where
  law_of : Fn_law_of P w K mg base
  law_take : Fn_law_take P w K mg base
theorem ok_law_follow {P : Program} {w : World} {K : Frag} {mg : Str → Option Value} {base : Heap} (F : HasD K "_law_follow" "_law_follow" s_law_follow [] [] (He.ga K "_law_follow")) (T : Txt K mg) (C : C_law_follow P w K mg base) : Fn_law_follow P w K mg base := by
  have sc := sc_law_follow
  refine fn_E (k := 2) F sc rfl fun cdv A outer s H E O0 H0 F0 ds O q xx hl hf S => ⟨_,
      (ds_cons (ds_setLc (simG_name (vs := [6]) (i := 6) (by decide)) (ps_setLc (i := 5) (own := [("_law_row", 6)]) (g := (gName 6)) rfl sc.nd rfl rfl (sw_true rfl rfl rfl (by decide +kernel)) (di_range1 rfl T.b_range (da_cons (de_var (pv 2)) da_nil)) (blkOk_by (own := [("_law_row", 6)]) (N := N_law_follow) (sc := defScope s_law_follow) (by decide +kernel)) (fun _ _ _ _ _ => (pg_name (i := 6) sc.nd rfl (by first | exact Or.inl rfl | exact Or.inr rfl))) (fun _ _ _ _ _ => (dts_one (PW.pt (dw_or (dt_not (st_tru S.blk (de_var (pv 4)))) (dw_or1 (st_eq S.blk (so_mod S.blk (so_int S.blk rfl T.b_int (da_cons (de_var (pv 6)) da_nil)) de_int) de_int)))))) (fun _ _ _ _ _ => (de_var (pv 6)))))
      (ds_cons (ds_setLc (simG_name (vs := [6]) (i := 6) (by decide)) (ps_setLc (i := 7) (own := [("_law_row", 6)]) (g := (gName 6)) rfl sc.nd rfl rfl (sw_true rfl rfl rfl (by decide +kernel)) (di_seq S (de_var (pv 5))) (blkOk_by (own := [("_law_row", 6)]) (N := N_law_follow) (sc := defScope s_law_follow) (by decide +kernel)) (fun _ _ _ _ _ => (pg_name (i := 6) sc.nd rfl (by first | exact Or.inl rfl | exact Or.inr rfl))) (fun _ _ _ _ _ => (dts_one (st_gt S.blk (de_var (pv 6)) (de_var (pv 1))))) (fun _ _ _ _ _ => (de_var (pv 6)))))
      (ds_cons (ds_set (ps_set (i := 8) sc.nd rfl (by first | exact Or.inl rfl | exact Or.inr rfl) (so_callF S C.law_take (by decide) T.g_law_take bd_law_take rfl (da_cons (de_var (pv 0)) (da_cons de_int da_nil)))))
      (ds_cons (ds_if (st_eq S (de_var (pv 8)) de_int)
       (ds_one (ds_ret (so_callF S C.law_of (by decide) T.g_law_of bd_law_of rfl (da_cons (de_var (pv 0)) (da_cons (de_var (pv 5)) da_nil)))))
       ds_nil)
      (ds_cons (ds_if (PW.pt (dw_and (st_lt S (de_var (pv 8)) de_int) (dw_and1 (st_ne S (de_var (pv 7)) (de_lst da_nil)))))
       (ds_one (ds_ret (so_callF S C.law_of (by decide) T.g_law_of bd_law_of rfl (da_cons (de_var (pv 0)) (da_cons (de_var (pv 7)) da_nil)))))
       ds_nil)
      (ds_one (ds_ret (de_if (st_tru S (de_var (pv 4))) (so_ix S (de_var (pv 3)) (so_neg S de_int) (fun _ _ => rfl)) (so_callF S C.law_of (by decide) T.g_law_of bd_law_of rfl (da_cons (de_var (pv 0)) (da_cons (de_var (pv 3)) da_nil)))))))))))
      , ?_⟩
  obtain ⟨p, i, n, m, w1, w2, w3, b, rfl, hb, hm, n0, n2, n1, i0, i1, hq⟩ := hf
  walk_at "dl"
  refine ⟨⟨by omega, by omega⟩, ?_⟩
  rw [rgD_zs]
  refine ⟨line_ok (by rw [List.length_map, zs_len]; omega), ?_⟩
  refine lcGo_flt D.int (fun i => !b || decide (i % 2 = 1)) trivial (fun l hl k z g1 g0 => ?_) ?_
  · obtain ⟨l0, l1⟩ := zs_mem hl
    walk_at "dw"
    cases b with
    | false =>
      refine iteT (iteT ?_)
      walk_at "dl"
      exact g1 rfl _ (.refl _)
    | true =>
      refine iteF ?_
      walk_at "dw"
      refine i_mod (by decide) ?_
      walk_at "dw"
      by_cases e : l % 2 = 1
      · rw [decide_eq_true e]
        refine iteT ?_
        walk_at "dl"
        exact g1 (by rw [decide_eq_true e]; rfl) _ (.refl _)
      · rw [decide_eq_false e]
        refine iteF ?_
        exact g0 (by rw [decide_eq_false e]; rfl) _ (.refl _)
  change dSeq _ _ _ [some (.ref p), some (.int i), some (.int n), some (.lst [.str w1, .str w2, .str w3]), some (.bl b), some (.lst ((rowsF n b).map D.int)), _, _, _] _
  have r0 := rowsF_ne n0 n2
  have r1 := rowsF_len (b := b) n1
  walk_at "dl"
  refine ⟨line_ok (by rw [List.length_map]; omega), ?_⟩
  refine lcGo_flt D.int (fun l => decide (i < l)) trivial (fun l hl k z g1 g0 => ?_) ?_
  · walk_at "dw"
    by_cases e : i < l
    · rw [decide_eq_true e]
      refine iteT ?_
      walk_at "dl"
      exact g1 (decide_eq_true e) _ (.refl _)
    · rw [decide_eq_false e]
      refine iteF ?_
      exact g0 (decide_eq_false e) _ (.refl _)
  walk_at "dl"
  refine ⟨rfl, p, 7, m, rfl, hb, by omega, by decide, by decide, fun y o hy0 hy1 hb1 => ?_⟩
  have ex1 : Ex p O (setO O p o) := Ex.refl.set
  have key : ∀ (ts : List Int) (q' : DQ) (xx' : DX), 0 < ts.length → ts.length ≤ 10 → (∀ t ∈ ts, t ∈ rowsF n b) → (∀ d O', Ex p O O' → Bag O' p (m + 2) → FolP n [w1, w2, w3] w3 b d → q' d O') → f_law_of [.ref p, .lst (ts.map D.int)] (setO O p o) q' xx' := fun ts q' xx' h0 h1 h2 h3 => by
    refine ⟨p, _, m + 1, rfl, hb1, by omega, by rw [List.length_map]; omega, by rw [List.length_map]; omega, fun t o2 ht hb2 => ?_⟩
    obtain ⟨t', ht', rfl⟩ := List.mem_map.mp ht
    obtain ⟨a, c, e⟩ := rowsF_mem (h2 t' ht')
    exact h3 _ _ ex1.set (hb2.mono (by omega)) (.inl ⟨t', rfl, a, c, e⟩)
  walk_at "dw"
  refine if_d (fun e => ?_) (fun e => ?_)
  · walk_at "dl"
    exact ⟨rfl, key _ _ _ r0 r1 (fun t h => h) fun d O' h1 h2 h3 => rt_same (hq d O' h1 h2 h3)⟩
  walk_at "dw"
  by_cases y4 : y < 4
  · rw [decide_eq_true y4]
    refine iteT ?_
    walk_at "dw"
    refine i_neInts ?_
    cases hl2 : ((rowsF n b).filter fun l => decide (i < l)) with
    | nil =>
      refine iteF ?_
      walk_at "dw"
      cases b with
      | true =>
        refine iteT ?_
        walk_at "dl"
        exact rt_same (hq _ _ ex1 (hb1.mono (by omega)) (.inr ⟨w3, rfl, by simp, fun _ => rfl⟩))
      | false =>
        refine iteF ?_
        walk_at "dl"
        refine ⟨rfl, p, _, m + 1, rfl, hb1, by omega, by simp, by simp, fun t o2 ht hb2 => ?_⟩
        simp only [List.mem_cons, List.mem_nil_iff, or_false] at ht
        rcases ht with rfl | rfl | rfl
        · exact rt_same (hq _ _ ex1.set (hb2.mono (by omega)) (.inr ⟨_, rfl, by simp, fun z => by cases z⟩))
        · exact rt_same (hq _ _ ex1.set (hb2.mono (by omega)) (.inr ⟨_, rfl, by simp, fun z => by cases z⟩))
        · exact rt_same (hq _ _ ex1.set (hb2.mono (by omega)) (.inr ⟨_, rfl, by simp, fun z => by cases z⟩))
    | cons a L =>
      refine iteT ?_
      walk_at "dl"
      refine ⟨rfl, key (a :: L) _ _ (by simp) ?_ (fun t ht => ?_) fun d O' h1 h2 h3 => rt_same (hq d O' h1 h2 h3)⟩
      · rw [← hl2]
        exact Nat.le_trans (List.length_filter_le _ _) r1
      · rw [← hl2] at ht
        exact (List.mem_filter.mp ht).1
  · rw [decide_eq_false y4]
    refine iteF (iteF ?_)
    walk_at "dw"
    cases b with
    | true =>
      refine iteT ?_
      walk_at "dl"
      exact rt_same (hq _ _ ex1 (hb1.mono (by omega)) (.inr ⟨w3, rfl, by simp, fun _ => rfl⟩))
    | false =>
      refine iteF ?_
      walk_at "dl"
      refine ⟨rfl, p, _, m + 1, rfl, hb1, by omega, by simp, by simp, fun t o2 ht hb2 => ?_⟩
      simp only [List.mem_cons, List.mem_nil_iff, or_false] at ht
      rcases ht with rfl | rfl | rfl
      · exact rt_same (hq _ _ ex1.set (hb2.mono (by omega)) (.inr ⟨_, rfl, by simp, fun z => by cases z⟩))
      · exact rt_same (hq _ _ ex1.set (hb2.mono (by omega)) (.inr ⟨_, rfl, by simp, fun z => by cases z⟩))
      · exact rt_same (hq _ _ ex1.set (hb2.mono (by omega)) (.inr ⟨_, rfl, by simp, fun z => by cases z⟩))
end
end K62
set_option Elab.async false
set_option linter.all false
set_option maxRecDepth 100000
set_option maxHeartbeats 4000000
namespace K62
open PySem PySem.Spec PyProof.Rows L2 DL
open ClX (CRead CVal)
local macro_rules | `(tactic| walk_at "d1") => `(tactic| first | ((with_reducible apply i_var); exact rfl) | ((with_reducible apply i_gtup); exact rfl) | ((with_reducible apply i_augI); exact rfl) | ((with_reducible apply i_ixT); exact rfl) | ((with_reducible apply i_ixL); exact rfl) | with_reducible refine i_seq ?_ | with_reducible refine i_asg ?_ | with_reducible refine i_gname ?_ | with_reducible refine i_c ?_ | with_reducible refine i_op ?_ | with_reducible refine i_cb ?_ | with_reducible refine i_cons ?_ | with_reducible refine i_nil ?_ | with_reducible refine i_expr ?_ | with_reducible refine i_ret ?_ | with_reducible refine i_retN ?_ | with_reducible refine i_next ?_ | with_reducible refine i_for ?_ | with_reducible refine i_par ?_ | with_reducible refine i_test ?_ | with_reducible refine i_tup ?_ | with_reducible refine i_lst ?_ | ((with_reducible refine i_sz ?_ ?_); (focus exact Nat.le_of_ble_eq_true rfl)) | with_reducible refine i_lstO ?_ | with_reducible refine i_break ?_ | with_reducible refine i_cont ?_ | with_reducible refine i_gnil ?_ | with_reducible refine i_gcons ?_ | with_reducible refine i_tru ?_ | with_reducible refine i_and ?_ | with_reducible refine i_or ?_ | with_reducible refine i_not ?_ | with_reducible refine i_andV ?_ | with_reducible refine i_orV ?_ | with_reducible refine i_notV ?_ | with_reducible refine i_neg ?_ | with_reducible refine i_chain ?_ | with_reducible refine i_call ?_ | with_reducible refine i_callK ?_ | with_reducible refine i_append ?_ | with_reducible refine i_gsub ?_ | with_reducible refine i_sl ?_ | with_reducible refine i_slT ?_ | with_reducible refine i_slL ?_ | with_reducible refine i_oN ?_ | with_reducible refine i_oS ?_ | with_reducible refine i_lc ?_ | with_reducible refine i_lc2 ?_ | with_reducible refine i_lc2O ?_ | with_reducible refine i_lcO ?_ | with_reducible refine i_yes ?_ | with_reducible refine i_listRg1 ?_ | with_reducible refine i_rg1 ?_ | with_reducible refine i_rg2 ?_ | with_reducible refine i_seqI ?_ | with_reducible refine i_seqT ?_ | with_reducible refine i_seqL ?_ | with_reducible refine i_lt ?_ | with_reducible refine i_le ?_ | with_reducible refine i_gt ?_ | with_reducible refine i_ge ?_ | with_reducible refine i_sub ?_ | with_reducible refine i_addI ?_ | with_reducible refine i_int ?_ | with_reducible refine i_intb ?_ | with_reducible refine i_abs ?_ | with_reducible refine i_min2 ?_ | with_reducible refine i_max2 ?_ | with_reducible refine i_isN ?_ | with_reducible refine i_notN ?_ | with_reducible refine i_lenL ?_ | with_reducible refine i_lenT ?_ | ((with_reducible apply i_ixO); (focus (first | assumption | exact setO_same | (rw [setO_ne (by assumption)]; first | assumption | exact setO_same))); exact rfl) | ((with_reducible apply i_lenO); (focus (first | assumption | exact setO_same | (rw [setO_ne (by assumption)]; first | assumption | exact setO_same)))) | ((with_reducible apply i_appK); (focus (first | assumption | exact setO_same | (rw [setO_ne (by assumption)]; first | assumption | exact setO_same)))) | ((with_reducible apply i_subK); (focus (first | assumption | exact setO_same | (rw [setO_ne (by assumption)]; first | assumption | exact setO_same))); exact rfl) | ((with_reducible apply i_slO); (focus (first | assumption | exact setO_same | (rw [setO_ne (by assumption)]; first | assumption | exact setO_same)))) | ((with_reducible apply i_seqO); (focus (first | assumption | exact setO_same | (rw [setO_ne (by assumption)]; first | assumption | exact setO_same)))) | ((with_reducible apply i_appK2); (focus (first | assumption | exact setO_same | (rw [setO_ne (by assumption)]; first | assumption | exact setO_same)))) | with_reducible refine i_ice ?_ | with_reducible refine i_iceL ?_ | ((with_reducible apply i_iceK); (focus (first | assumption | exact setO_same | (rw [setO_ne (by assumption)]; first | assumption | exact setO_same)))) | with_reducible refine i_fld ?_ | ((with_reducible apply i_fldK); (focus (first | assumption | exact setO_same | (rw [setO_ne (by assumption)]; first | assumption | exact setO_same))); exact rfl) | with_reducible refine i_sfld ?_ | with_reducible refine i_make ?_ | with_reducible refine i_callK0 ?_ | with_reducible refine i_enum2 ?_ | with_reducible refine i_enumL ?_ | with_reducible refine i_enumT ?_ | with_reducible refine i_par3 ?_ | with_reducible refine i_dsp2 ?_ | ((with_reducible apply i_isi (b := true)); exact rfl; exact rfl; exact rfl) | ((with_reducible apply i_isi (b := false)); exact rfl; exact rfl; exact rfl) | with_reducible refine i_eqI ?_ | with_reducible refine i_neI ?_ | with_reducible refine i_truB ?_ | ((with_reducible apply i_fldI); exact rfl) | with_reducible refine i_iceI ?_ | with_reducible refine i_join ?_ | with_reducible refine i_dict0 ?_ | with_reducible refine i_isiI ?_ | with_reducible refine i_ownIn ?_ | with_reducible refine i_ownEq ?_ | with_reducible refine i_ownLen ?_ | with_reducible refine i_ownStr ?_ | with_reducible refine i_strS ?_ | with_reducible refine i_fmt ?_ | with_reducible refine i_pop ?_ | with_reducible refine i_listRg2 ?_ | with_reducible refine i_listRg2O ?_ | ((with_reducible apply i_popK); (focus (first | assumption | exact setO_same | (rw [setO_ne (by assumption)]; first | assumption | exact setO_same)))) | with_reducible refine i_raise ?_ | with_reducible refine i_tryAs ?_ | with_reducible refine i_xf ?_ | ((with_reducible apply i_xfK); exact rfl) | with_reducible refine i_js ?_ | with_reducible refine i_js0 ?_ | with_reducible refine i_makeK0 ?_ | with_reducible refine i_own ?_ | with_reducible refine i_ownT ?_ | with_reducible refine i_lenZ ?_ | with_reducible refine i_sortZ ?_ | with_reducible refine i_setL ?_ | with_reducible refine i_setLT ?_ | with_reducible refine i_sc ?_ | with_reducible refine i_setQ ?_ | with_reducible refine i_sc2 ?_ | with_reducible refine i_lenB ?_ | with_reducible refine i_bl ?_ | with_reducible refine i_tm ?_ | with_reducible refine i_lcnt ?_ | with_reducible refine i_setTI ?_ | ((with_reducible apply i_augL); exact rfl) | with_reducible refine i_scB ?_ | with_reducible refine i_key ?_ | with_reducible refine i_revL ?_ | with_reducible refine i_revT ?_ | with_reducible refine i_zip ?_ | with_reducible refine i_ltAI ?_ | with_reducible refine i_ltAS ?_ | with_reducible refine i_inRg1 ?_ | with_reducible refine i_inRg2 ?_ | with_reducible refine i_listRg1O ?_ | with_reducible refine i_tryM ?_ | with_reducible refine i_tryN ?_ | with_reducible refine i_upd ?_ | with_reducible refine i_mat ?_ | with_reducible refine i_matK ?_ | with_reducible refine i_mc0 ?_ | ((with_reducible apply i_mcY); (focus exact rfl)) | ((with_reducible apply i_mcN); (focus exact Nat.ne_of_beq_eq_false rfl)) | with_reducible refine i_ltT ?_ | with_reducible refine i_xi ?_ | with_reducible refine i_split ?_ | with_reducible refine i_count ?_ | with_reducible refine i_m0 ?_ | with_reducible refine i_m0K ?_ | with_reducible refine i_starA ?_ | with_reducible refine i_cm ?_ | with_reducible refine i_cmK ?_ | ((with_reducible apply i_makeL); exact rfl) | with_reducible refine i_int2I ?_ | with_reducible refine i_int2B ?_ | with_reducible refine i_clear ?_ | ((with_reducible apply i_clearK); (focus (first | assumption | exact setO_same | (rw [setO_ne (by assumption)]; first | assumption | exact setO_same)))) | with_reducible refine i_meth ?_ | with_reducible refine i_methM ?_ | ((with_reducible apply i_methKwO); (focus (first | assumption | exact setO_same | (rw [setO_ne (by assumption)]; first | assumption | exact setO_same))); exact rfl) | with_reducible refine i_extend ?_ | with_reducible refine i_lam ?_ | with_reducible refine i_dput ?_ | with_reducible refine i_dict0N ?_ | with_reducible refine i_dict1 ?_ | with_reducible refine i_disp2 ?_ | with_reducible refine i_disp3 ?_ | with_reducible refine i_dispN ?_ | with_reducible refine i_goC ?_ | ((with_reducible apply i_goK); exact rfl) | with_reducible refine i_goN ?_ | with_reducible refine i_setd ?_ | with_reducible refine i_idxL ?_ | with_reducible refine i_ixLK ?_ | with_reducible refine i_dc ?_ | with_reducible refine i_dct ?_ | with_reducible refine i_ckw ?_ | with_reducible refine i_iceA ?_ | with_reducible refine i_get2 ?_ | with_reducible refine i_get1 ?_ | with_reducible refine i_prop ?_ | with_reducible refine i_propI ?_ | ((with_reducible apply i_methI); exact rfl) | ((with_reducible apply i_methO); (focus (first | assumption | exact setO_same | (rw [setO_ne (by assumption)]; first | assumption | exact setO_same))); exact rfl))
local macro_rules | `(tactic| walk_at "dl") => `(tactic| repeat (walk_at "d1"))
local macro_rules | `(tactic| walk_at "dw") => `(tactic| repeat (first | with_reducible refine i_if ?_ | with_reducible refine i_ifE ?_ | walk_at "d1"))
section
variable {P : Program} {w : World} {K : Frag} {mg : Str → Option Value} {base : Heap}
/-- so many drawn rows -/
structure RowsP (n : Int) (w1 w2 w3 : Str) (bad : Bool) (rs : List D) : Prop where
  len : (rs.length : Int) = n
  row : ∀ (j : Nat) (r : D), rs[j]? = some r → ∃ (b : Int) (x y : D), r = .tup [.int b, x, y] ∧ (b = 0 ∨ b = 1) ∧ FolP n [w1, w2, w3] w3 (bad && decide ((j : Int) % 2 = 1)) x ∧ FolP n [w1, w2, w3] w3 (bad && decide ((j : Int) % 2 = 1)) y
def HearD (rs : List D) : Prop := ∃ n : Int, 2 ≤ n ∧ n ≤ 5 ∧ RowsP n "taken" "taken" "lost" true rs
def SendD (rs : List D) : Prop := ∃ n : Int, 1 ≤ n ∧ n ≤ 4 ∧ RowsP n "done" "done" "again" false rs
def f_law_drawn_rows : DF := fun ds O q _ => ∃ (p : Addr) (m : Int), ds = [.ref p] ∧ Bag O p m ∧ m < 2 ^ 36 ∧ ∀ hs ss O', Ex p O O' → Bag O' p (m + 100) → HearD hs → SendD ss → q (.lst [.lst hs, .lst ss]) O'
abbrev N_law_drawn_rows : List Str := ["_law_bag_here", "_law_found", "_law_words", "_law_low", "_law_many", "_law_rows_here", "_law_index", "_law_is_bad", "_law_put", "_law_follows", "_law_turn"]
abbrev P_law_drawn_rows : List Str := ["_law_bag_here"]
theorem sc_law_drawn_rows : FnScope N_law_drawn_rows P_law_drawn_rows (defScope s_law_drawn_rows) := ⟨rfl, rfl, rfl, by decide +kernel, rfl, by decide +kernel, by decide +kernel⟩
theorem bd_law_drawn_rows : Bd0 "_law_drawn_rows" "_law_drawn_rows" s_law_drawn_rows P_law_drawn_rows := fun _ _ _ _ _ _ us hl => match us, hl with | [_], _ => rfl
abbrev Fn_law_drawn_rows (P : Program) (w : World) (K : Frag) (mg : Str → Option Value) (base : Heap) : Prop := Fn P w K mg base "_law_drawn_rows" "_law_drawn_rows" s_law_drawn_rows [] [] P_law_drawn_rows 1 4 f_law_drawn_rows (He.ga K "_law_drawn_rows")
structure C_law_drawn_rows (P : Program) (w : World) (K : Frag) (mg : Str → Option Value) (base : Heap) : Prop where
  law_follow : Fn_law_follow P w K mg base
  law_take : Fn_law_take P w K mg base
theorem ok_law_drawn_rows {P : Program} {w : World} {K : Frag} {mg : Str → Option Value} {base : Heap} (F : HasD K "_law_drawn_rows" "_law_drawn_rows" s_law_drawn_rows [] [] (He.ga K "_law_drawn_rows")) (T : Txt K mg) (C : C_law_drawn_rows P w K mg base) : Fn_law_drawn_rows P w K mg base := by
  have sc := sc_law_drawn_rows
  refine fn_E (k := 3) F sc rfl fun cdv A outer s H E O0 H0 F0 ds O q xx hl hf S => ⟨_,
      (ds_cons (ds_set (ps_set (i := 1) sc.nd rfl (by first | exact Or.inl rfl | exact Or.inr rfl) (de_lstO da_nil)))
      (ds_cons (ds_for (ps_for S.po rfl (di_seq S (de_lst (da_cons (de_tup (da_cons (de_lst (da_cons de_str (da_cons de_str (da_cons de_str da_nil)))) (da_cons de_int da_nil))) (da_cons (de_tup (da_cons (de_lst (da_cons de_str (da_cons de_str (da_cons de_str da_nil)))) (da_cons de_int da_nil))) da_nil)))) (dg_tup rfl rfl (dgs_cons (dg_name (pg_name (i := 2) sc.nd rfl (by first | exact Or.inl rfl | exact Or.inr rfl))) (dgs_cons (dg_name (pg_name (i := 3) sc.nd rfl (by first | exact Or.inl rfl | exact Or.inr rfl))) dgs_nil)))
       (ds_cons (ds_asg (ps_asg (de_tup (da_cons (so_add S (de_var (pv 3)) (so_callF S C.law_take (by decide) T.g_law_take bd_law_take rfl (da_cons (de_var (pv 0)) (da_cons de_int da_nil)))) (da_cons (de_lstO da_nil) da_nil))) (dg_tup rfl rfl (dgs_cons (dg_name (pg_name (i := 4) sc.nd rfl (by first | exact Or.inl rfl | exact Or.inr rfl))) (dgs_cons (dg_name (pg_name (i := 5) sc.nd rfl (by first | exact Or.inl rfl | exact Or.inr rfl))) dgs_nil)))))
       (ds_cons (ds_for (ps_for S.po rfl (di_range1 rfl T.b_range (da_cons (de_var (pv 4)) da_nil)) (dg_name (pg_name (i := 6) sc.nd rfl (by first | exact Or.inl rfl | exact Or.inr rfl)))
        (ds_cons (ds_set (ps_set (i := 7) sc.nd rfl (by first | exact Or.inl rfl | exact Or.inr rfl) (de_and (so_eq S (de_var (pv 3)) de_int) (de_one (so_eq S (so_mod S (so_int S rfl T.b_int (da_cons (de_var (pv 6)) da_nil)) de_int) de_int)))))
        (ds_cons (ds_set (ps_set (i := 8) sc.nd rfl (by first | exact Or.inl rfl | exact Or.inr rfl) (so_int S rfl T.b_int (da_cons (so_gt S (so_callF S C.law_take (by decide) T.g_law_take bd_law_take rfl (da_cons (de_var (pv 0)) (da_cons de_int da_nil))) (so_int S rfl T.b_int (da_cons (so_gt S (de_var (pv 6)) de_int) da_nil))) da_nil))))
        (ds_cons (ds_setLc (simG_name (vs := [10]) (i := 10) (by decide)) (ps_setLc (i := 9) (own := [("_law_turn", 10)]) (g := (gName 10)) rfl sc.nd rfl rfl (sw_true rfl rfl rfl (by decide +kernel)) (di_range1 rfl T.b_range (da_cons de_int da_nil)) (blkOk_by (own := [("_law_turn", 10)]) (N := N_law_drawn_rows) (sc := defScope s_law_drawn_rows) (by decide +kernel)) (fun _ _ _ _ _ => (pg_name (i := 10) sc.nd rfl (by first | exact Or.inl rfl | exact Or.inr rfl))) (fun _ _ _ _ _ => dts_nil) (fun _ _ _ _ _ => (so_callF S.blk C.law_follow (by decide) T.g_law_follow bd_law_follow rfl (da_cons (de_var (pv 0)) (da_cons (de_var (pv 6)) (da_cons (de_var (pv 4)) (da_cons (de_var (pv 2)) (da_cons (de_var (pv 7)) da_nil)))))))))
        (ds_one (ds_expr (so_append S (de_var (pv 5)) (da_cons (de_tup (da_cons (de_var (pv 8)) (da_cons (so_ix S (de_var (pv 9)) de_int (fun _ _ => rfl)) (da_cons (so_ix S (de_var (pv 9)) de_int (fun _ _ => rfl)) da_nil)))) da_nil)))))))))
       (ds_one (ds_expr (so_append S (de_var (pv 1)) (da_cons (de_var (pv 5)) da_nil))))))))
      (ds_one (ds_ret (de_iceA (de_var (pv 1)))))))
      , ?_⟩
  obtain ⟨p, m, rfl, hb, hm, hq⟩ := hf
  walk_at "dl"
  intro pf hpf
  walk_at "dl"
  have nf : p ≠ pf := hb.ne hpf
  refine forGo_inv (fun i env O' => ∃ (x2 x3 x4 x5 x6 x7 x8 x9 x10 : Option D) (refs : List Addr), env = [some (.ref p), some (.ref pf), x2, x3, x4, x5, x6, x7, x8, x9, x10] ∧ Ex p O O' ∧ Bag O' p (m + 50 * i) ∧ O' pf = some (.lst (refs.map D.ref)) ∧ refs.length = i ∧
      ∀ (j : Nat) (r : Addr), refs[j]? = some r → O r = none ∧ r ≠ p ∧ r ≠ pf ∧ ∃ rs, O' r = some (.lst rs) ∧ (if j = 0 then HearD rs else SendD rs)) ⟨none, none, none, none, none, none, none, none, none, [], ?_, (Ex.refl).mine hpf, (hb.keep nf).mono (by omega), setO_same, rfl, fun j r h => by simp at h⟩ (fun _ _ _ _ _ => trivial) ?_ ?_
  · rfl
  · rintro N i y env O1 hy ⟨x2, x3, x4, x5, x6, x7, x8, x9, x10, refs, rfl, ex1, hb1, hf1, hl1, hr1⟩ hN
    have hi : i < 2 := (List.getElem?_eq_some_iff.mp hy).1
    obtain ⟨w1, w2, w3, lo, bad, rfl, hbad, lo1, lo2, hfin⟩ : ∃ (w1 w2 w3 : Str) (lo : Int) (bad : Bool), y = .tup [.lst [.str w1, .str w2, .str w3], .int lo] ∧ decide (lo = 2) = bad ∧ 1 ≤ lo ∧ lo ≤ 2 ∧ ∀ rs (n : Int), lo ≤ n → n ≤ lo + 3 → RowsP n w1 w2 w3 bad rs → if i = 0 then HearD rs else SendD rs := by
      rcases (show i = 0 ∨ i = 1 by omega) with rfl | rfl
      · cases hy
        exact ⟨_, _, _, 2, true, rfl, rfl, by decide, by decide, fun rs n h1 h2 h3 => ⟨n, h1, h2, h3⟩⟩
      · cases hy
        exact ⟨_, _, _, 1, false, rfl, rfl, by decide, by decide, fun rs n h1 h2 h3 => ⟨n, h1, h2, h3⟩⟩
    change dgTup _ _ (D.tup [.lst [.str w1, .str w2, .str w3], .int lo]) _ _ _
    walk_at "dl"
    refine ⟨rfl, p, 4, _, rfl, hb1, by omega, by decide, by decide, fun a o a0 a1 hb2 => ?_⟩
    walk_at "dl"
    intro pr hpr
    have n1 : p ≠ pr := hb2.ne hpr
    have ex2 : Ex p O (setO O1 p o) := ex1.set
    have hpr0 : O pr = none := ex2.gone n1.symm hpr
    have nfr : pf ≠ pr := fun z => by rw [← z, setO_ne nf.symm, hf1] at hpr; cases hpr
    have hb3 := hb2.keep (o := OD.lst []) n1
    have hf3 : setO (setO O1 p o) pr (.lst []) pf = some (.lst (refs.map D.ref)) := by rw [setO_ne nfr, setO_ne nf.symm]; exact hf1
    have hr3 : ∀ (j : Nat) (r : Addr), refs[j]? = some r → O r = none ∧ r ≠ p ∧ r ≠ pf ∧ r ≠ pr ∧ ∃ rs, setO O1 p o r = some (.lst rs) ∧ (if j = 0 then HearD rs else SendD rs) := fun j r h => by
      obtain ⟨a, b, c, rs, e, f⟩ := hr1 j r h
      have e2 : setO O1 p o r = some (.lst rs) := by rw [setO_ne b]; exact e
      exact ⟨a, b, c, fun z => (by rw [z, hpr] at e2; cases e2), rs, e2, f⟩
    have exr : Ex p (setO O1 p o) (setO (setO O1 p o) pr (.lst [])) := Ex.refl.mine hpr
    have atr : setO (setO O1 p o) pr (.lst []) pr = some (.lst []) := setO_same
    generalize setO (setO O1 p o) pr (.lst []) = O3 at hb3 hf3 exr atr ⊢
    have hf2 : setO O1 p o pf = some (.lst (refs.map D.ref)) := by rw [setO_ne nf.symm]; exact hf1
    clear hb1 hb2 ex1 hf1 hr1
    generalize setO O1 p o = O2 at hpr ex2 hr3 exr hf2 ⊢
    walk_at "dl"
    refine ⟨⟨by omega, by omega⟩, ?_⟩
    rw [rgD_zs]
    refine forGo_inv (fun j env O' => ∃ (x6 x7 x8 x9 x10 : Option D) (rs : List D), env = [some (.ref p), some (.ref pf), some (.lst [.str w1, .str w2, .str w3]), some (.int lo), some (.int (lo + a)), some (.ref pr), x6, x7, x8, x9, x10] ∧ Ex p O2 O' ∧ Bag O' p (m + 50 * i + 1 + 5 * j) ∧ O' pr = some (.lst rs) ∧ rs.length = j ∧
        ∀ (j : Nat) (r : D), rs[j]? = some r → ∃ (b : Int) (x y : D), r = .tup [.int b, x, y] ∧ (b = 0 ∨ b = 1) ∧ FolP (lo + a) [w1, w2, w3] w3 (bad && decide ((j : Int) % 2 = 1)) x ∧ FolP (lo + a) [w1, w2, w3] w3 (bad && decide ((j : Int) % 2 = 1)) y) ⟨x6, x7, x8, x9, x10, [], rfl, exr, hb3.mono (by omega), atr, rfl, fun j r h => by simp at h⟩ (fun _ _ _ _ _ => trivial) ?_ ?_
    · rintro N2 j y env O4 hy ⟨x6, x7, x8, x9, x10, rs, rfl, ex4, hb4, at4, hlj, hrow⟩ hN2
      obtain ⟨l, hl, rfl⟩ := map_get hy
      obtain ⟨l0, l1⟩ := zs_mem (List.mem_of_getElem? hl)
      have hjl : l = (j : Int) := by
        unfold zs at hl
        rw [List.getElem?_map] at hl
        obtain ⟨k, hk, rfl⟩ := Option.map_eq_some_iff.mp hl
        obtain ⟨h1, h2⟩ := List.getElem?_eq_some_iff.mp hk
        rw [List.getElem_range] at h2
        omega
      have hjb : (bad && decide (l % 2 = 1)) = (bad && decide ((j : Int) % 2 = 1)) := by rw [hjl]
      refine i_seqJ (fun e o => e = [some (.ref p), some (.ref pf), some (.lst [.str w1, .str w2, .str w3]), some (.int lo), some (.int (lo + a)), some (.ref pr), some (.int l), some (.bl (bad && decide ((j : Int) % 2 = 1))), x8, x9, x10] ∧ o = O4) (fun N hN => ?_) ?_
      · walk_at "dl"
        rw [hbad]
        cases bad with
        | false => exact hN _ _ ⟨by rw [Bool.false_and]; rfl, rfl⟩
        | true =>
          walk_at "dl"
          refine i_mod (by decide) ?_
          walk_at "dl"
          exact hN _ _ ⟨by rw [hjl, Bool.true_and]; rfl, rfl⟩
      rintro e o' ⟨rfl, rfl⟩
      generalize hbj : (bad && decide ((j : Int) % 2 = 1)) = bj
      have hbj2 : bj = true → 2 ≤ lo + a := fun e => by
        subst e
        simp only [Bool.and_eq_true, decide_eq_true_eq] at hbj
        rw [hbj.1, decide_eq_true_eq] at hbad
        omega
      walk_at "dl"
      refine ⟨rfl, p, 4, _, rfl, hb4, by omega, by decide, by decide, fun c o2 c0 c1 hb5 => ?_⟩
      walk_at "dl"
      refine ⟨⟨by decide, by decide⟩, by rw [sizeLine_eq]; decide, ?_⟩
      have ex5 : Ex p o' (setO o' p o2) := Ex.refl.set
      have at5 : setO o' p o2 pr = some (.lst rs) := by rw [setO_ne n1.symm]; exact at4
      generalize setO o' p o2 = O5 at hb5 ex5 at5 ⊢
      refine lcGo_inv (fun k ys O' => Ex p O5 O' ∧ Bag O' p (m + 50 * i + 2 + 5 * j + 2 * k) ∧ ys.length = k ∧ ∀ d ∈ ys, FolP (lo + a) [w1, w2, w3] w3 bj d) ⟨.refl, hb5.mono (by omega), rfl, fun d hd => by simp at hd⟩ (fun _ _ _ _ => trivial) ?_ ?_
      · rintro k d ys O6 kk z hx ⟨e6, hb6, l6, f6⟩ hk
        have hk2 : k < 2 := (List.getElem?_eq_some_iff.mp hx).1
        walk_at "dl"
        refine iteT ?_
        walk_at "dl"
        refine ⟨rfl, p, l, lo + a, _, w1, w2, w3, bj, rfl, hb6, by omega, by omega, hbj2, by omega, l0, l1, fun d' O' h1 h2 h3 => ?_⟩
        refine hk _ _ _ (.refl _) ⟨e6.trans h1, h2.mono (by push_cast; omega), by rw [List.length_append, l6]; rfl, fun d hd => ?_⟩
        rcases List.mem_append.mp hd with h | h
        · exact f6 d h
        · rw [List.mem_singleton.mp h]; exact h3
      rintro ys O6 ⟨e6, hb6, l6, f6⟩
      have hb6 := hb6.mono (m' := m + 50 * i + 2 + 5 * j + 4) (by have e : (rgD 0 2).length = 2 := rfl; rw [e]; omega)
      match ys, l6 with
      | [y1, y2], _ =>
      have at6 := e6.at n1.symm at5
      walk_at "dl"
      · rw [sizeLine_eq]; omega
      refine hN2 _ _ _ (.refl _) ⟨_, _, _, _, _, rs ++ [_], rfl, ?_, ?_, setO_same, by rw [List.length_append, hlj]; rfl, fun j' r hr => ?_⟩
      · exact ((ex4.trans (ex5.trans e6))).mine hpr
      · exact (hb6.keep n1).mono (by push_cast; omega)
      · rcases Nat.lt_or_ge j' rs.length with z | z
        · rw [List.getElem?_append_left z] at hr
          exact hrow j' r hr
        · rw [List.getElem?_append_right z] at hr
          have hj' : j' = j := by
            have := (List.getElem?_eq_some_iff.mp hr).1
            simp at this
            omega
          subst hj'
          rw [show j' - rs.length = 0 by omega] at hr
          cases hr
          refine ⟨_, y1, y2, rfl, ?_, ?_, ?_⟩
          · split <;> simp <;> omega
          · rw [hbj]; exact f6 _ (by simp)
          · rw [hbj]; exact f6 _ (by simp)
    · rintro env O4 ⟨x6, x7, x8, x9, x10, rs, rfl, ex4, hb4, at4, hlj, hrow⟩
      have hzl : ((zs 0 (lo + a)).map D.int).length = (lo + a).toNat := by rw [List.length_map, zs_len, Int.sub_zero]
      rw [hzl] at hlj hb4
      have at4f := ex4.at nf.symm hf2
      walk_at "dl"
      · rw [sizeLine_eq, List.length_map]; omega
      have hR : RowsP (lo + a) w1 w2 w3 bad rs := ⟨by omega, hrow⟩
      refine hN _ _ _ (.refl _) ⟨_, _, _, _, _, _, _, _, _, refs ++ [pr], rfl, ?_, ?_, ?_, by rw [List.length_append, hl1]; rfl, fun j r hr => ?_⟩
      · exact (ex2.trans ex4).mine hpf
      · exact (hb4.keep nf).mono (by push_cast; omega)
      · rw [setO_same, List.map_append]; rfl
      · rcases Nat.lt_or_ge j refs.length with z | z
        · rw [List.getElem?_append_left z] at hr
          obtain ⟨b1, b2, b3, b4, rs', b5, b6⟩ := hr3 j r hr
          exact ⟨b1, b2, b3, rs', by rw [setO_ne b3]; exact ex4.at b2 b5, b6⟩
        · rw [List.getElem?_append_right z] at hr
          have hj' : j = i := by
            have := (List.getElem?_eq_some_iff.mp hr).1
            simp at this
            omega
          subst hj'
          rw [show j - refs.length = 0 by omega] at hr
          cases hr
          exact ⟨hpr0, n1.symm, nfr.symm, rs, by rw [setO_ne nfr.symm]; exact at4, hfin rs _ (by omega) (by omega) hR⟩
  · rintro env O1 ⟨x2, x3, x4, x5, x6, x7, x8, x9, x10, refs, rfl, ex1, hb1, hf1, hl1, hr1⟩
    match refs, hl1 with
    | [r1, r2], _ =>
    obtain ⟨a1, a2, a3, hs, a4, a5⟩ := hr1 0 r1 rfl
    obtain ⟨b1, b2, b3, ss, b4, b5⟩ := hr1 1 r2 rfl
    walk_at "dl"
    refine i_iceB [pf, r1, r2] 2 (fun a ha => ?_) ?_
    · simp only [List.mem_cons, List.mem_nil_iff, or_false] at ha
      rcases ha with rfl | rfl | rfl
      · exact ⟨_, hf1⟩
      · exact ⟨_, a4⟩
      · exact ⟨_, b4⟩
    · have i1 : inA [pf, r1, r2] pf = true := by simp [inA]
      have i2 : inA [pf, r1, r2] r1 = true := by simp [inA]
      have i3 : inA [pf, r1, r2] r2 = true := by simp [inA]
      simp only [dv, i1, i2, i3, if_true, hf1, a4, b4, List.map_cons, List.map_nil, List.map_id']
      refine rt_same (hq hs ss _ (ex1.cut fun a ha => ?_) ((hb1.cut ?_).mono (by simp)) a5 b5)
      · simp only [inA, List.contains_iff_mem, List.mem_cons, List.mem_nil_iff, or_false] at ha
        rcases ha with rfl | rfl | rfl
        · exact hpf
        · exact a1
        · exact b1
      · have : p ∉ [pf, r1, r2] := by simp [nf, Ne.symm a2, Ne.symm b2]
        simpa [inA] using this
end
end K62
set_option Elab.async false
set_option linter.all false
set_option maxRecDepth 100000
set_option maxHeartbeats 4000000
namespace K62
open PySem PySem.Spec PyProof.Rows L2 DL
open ClX (CRead CVal)
local macro_rules | `(tactic| walk_at "d1") => `(tactic| first | ((with_reducible apply i_var); exact rfl) | ((with_reducible apply i_gtup); exact rfl) | ((with_reducible apply i_augI); exact rfl) | ((with_reducible apply i_ixT); exact rfl) | ((with_reducible apply i_ixL); exact rfl) | with_reducible refine i_seq ?_ | with_reducible refine i_asg ?_ | with_reducible refine i_gname ?_ | with_reducible refine i_c ?_ | with_reducible refine i_op ?_ | with_reducible refine i_cb ?_ | with_reducible refine i_cons ?_ | with_reducible refine i_nil ?_ | with_reducible refine i_expr ?_ | with_reducible refine i_ret ?_ | with_reducible refine i_retN ?_ | with_reducible refine i_next ?_ | with_reducible refine i_for ?_ | with_reducible refine i_par ?_ | with_reducible refine i_test ?_ | with_reducible refine i_tup ?_ | with_reducible refine i_lst ?_ | ((with_reducible refine i_sz ?_ ?_); (focus exact Nat.le_of_ble_eq_true rfl)) | with_reducible refine i_lstO ?_ | with_reducible refine i_break ?_ | with_reducible refine i_cont ?_ | with_reducible refine i_gnil ?_ | with_reducible refine i_gcons ?_ | with_reducible refine i_tru ?_ | with_reducible refine i_and ?_ | with_reducible refine i_or ?_ | with_reducible refine i_not ?_ | with_reducible refine i_andV ?_ | with_reducible refine i_orV ?_ | with_reducible refine i_notV ?_ | with_reducible refine i_neg ?_ | with_reducible refine i_chain ?_ | with_reducible refine i_call ?_ | with_reducible refine i_callK ?_ | with_reducible refine i_append ?_ | with_reducible refine i_gsub ?_ | with_reducible refine i_sl ?_ | with_reducible refine i_slT ?_ | with_reducible refine i_slL ?_ | with_reducible refine i_oN ?_ | with_reducible refine i_oS ?_ | with_reducible refine i_lc ?_ | with_reducible refine i_lc2 ?_ | with_reducible refine i_lc2O ?_ | with_reducible refine i_lcO ?_ | with_reducible refine i_yes ?_ | with_reducible refine i_listRg1 ?_ | with_reducible refine i_rg1 ?_ | with_reducible refine i_rg2 ?_ | with_reducible refine i_seqI ?_ | with_reducible refine i_seqT ?_ | with_reducible refine i_seqL ?_ | with_reducible refine i_lt ?_ | with_reducible refine i_le ?_ | with_reducible refine i_gt ?_ | with_reducible refine i_ge ?_ | with_reducible refine i_sub ?_ | with_reducible refine i_addI ?_ | with_reducible refine i_int ?_ | with_reducible refine i_intb ?_ | with_reducible refine i_abs ?_ | with_reducible refine i_min2 ?_ | with_reducible refine i_max2 ?_ | with_reducible refine i_isN ?_ | with_reducible refine i_notN ?_ | with_reducible refine i_lenL ?_ | with_reducible refine i_lenT ?_ | ((with_reducible apply i_ixO); (focus (first | assumption | exact setO_same | (rw [setO_ne (by assumption)]; first | assumption | exact setO_same))); exact rfl) | ((with_reducible apply i_lenO); (focus (first | assumption | exact setO_same | (rw [setO_ne (by assumption)]; first | assumption | exact setO_same)))) | ((with_reducible apply i_appK); (focus (first | assumption | exact setO_same | (rw [setO_ne (by assumption)]; first | assumption | exact setO_same)))) | ((with_reducible apply i_subK); (focus (first | assumption | exact setO_same | (rw [setO_ne (by assumption)]; first | assumption | exact setO_same))); exact rfl) | ((with_reducible apply i_slO); (focus (first | assumption | exact setO_same | (rw [setO_ne (by assumption)]; first | assumption | exact setO_same)))) | ((with_reducible apply i_seqO); (focus (first | assumption | exact setO_same | (rw [setO_ne (by assumption)]; first | assumption | exact setO_same)))) | ((with_reducible apply i_appK2); (focus (first | assumption | exact setO_same | (rw [setO_ne (by assumption)]; first | assumption | exact setO_same)))) | with_reducible refine i_ice ?_ | with_reducible refine i_iceL ?_ | ((with_reducible apply i_iceK); (focus (first | assumption | exact setO_same | (rw [setO_ne (by assumption)]; first | assumption | exact setO_same)))) | with_reducible refine i_fld ?_ | ((with_reducible apply i_fldK); (focus (first | assumption | exact setO_same | (rw [setO_ne (by assumption)]; first | assumption | exact setO_same))); exact rfl) | with_reducible refine i_sfld ?_ | with_reducible refine i_make ?_ | with_reducible refine i_callK0 ?_ | with_reducible refine i_enum2 ?_ | with_reducible refine i_enumL ?_ | with_reducible refine i_enumT ?_ | with_reducible refine i_par3 ?_ | with_reducible refine i_dsp2 ?_ | ((with_reducible apply i_isi (b := true)); exact rfl; exact rfl; exact rfl) | ((with_reducible apply i_isi (b := false)); exact rfl; exact rfl; exact rfl) | with_reducible refine i_eqI ?_ | with_reducible refine i_neI ?_ | with_reducible refine i_truB ?_ | ((with_reducible apply i_fldI); exact rfl) | with_reducible refine i_iceI ?_ | with_reducible refine i_join ?_ | with_reducible refine i_dict0 ?_ | with_reducible refine i_isiI ?_ | with_reducible refine i_ownIn ?_ | with_reducible refine i_ownEq ?_ | with_reducible refine i_ownLen ?_ | with_reducible refine i_ownStr ?_ | with_reducible refine i_strS ?_ | with_reducible refine i_fmt ?_ | with_reducible refine i_pop ?_ | with_reducible refine i_listRg2 ?_ | with_reducible refine i_listRg2O ?_ | ((with_reducible apply i_popK); (focus (first | assumption | exact setO_same | (rw [setO_ne (by assumption)]; first | assumption | exact setO_same)))) | with_reducible refine i_raise ?_ | with_reducible refine i_tryAs ?_ | with_reducible refine i_xf ?_ | ((with_reducible apply i_xfK); exact rfl) | with_reducible refine i_js ?_ | with_reducible refine i_js0 ?_ | with_reducible refine i_makeK0 ?_ | with_reducible refine i_own ?_ | with_reducible refine i_ownT ?_ | with_reducible refine i_lenZ ?_ | with_reducible refine i_sortZ ?_ | with_reducible refine i_setL ?_ | with_reducible refine i_setLT ?_ | with_reducible refine i_sc ?_ | with_reducible refine i_setQ ?_ | with_reducible refine i_sc2 ?_ | with_reducible refine i_lenB ?_ | with_reducible refine i_bl ?_ | with_reducible refine i_tm ?_ | with_reducible refine i_lcnt ?_ | with_reducible refine i_setTI ?_ | ((with_reducible apply i_augL); exact rfl) | with_reducible refine i_scB ?_ | with_reducible refine i_key ?_ | with_reducible refine i_revL ?_ | with_reducible refine i_revT ?_ | with_reducible refine i_zip ?_ | with_reducible refine i_ltAI ?_ | with_reducible refine i_ltAS ?_ | with_reducible refine i_inRg1 ?_ | with_reducible refine i_inRg2 ?_ | with_reducible refine i_listRg1O ?_ | with_reducible refine i_tryM ?_ | with_reducible refine i_tryN ?_ | with_reducible refine i_upd ?_ | with_reducible refine i_mat ?_ | with_reducible refine i_matK ?_ | with_reducible refine i_mc0 ?_ | ((with_reducible apply i_mcY); (focus exact rfl)) | ((with_reducible apply i_mcN); (focus exact Nat.ne_of_beq_eq_false rfl)) | with_reducible refine i_ltT ?_ | with_reducible refine i_xi ?_ | with_reducible refine i_split ?_ | with_reducible refine i_count ?_ | with_reducible refine i_m0 ?_ | with_reducible refine i_m0K ?_ | with_reducible refine i_starA ?_ | with_reducible refine i_cm ?_ | with_reducible refine i_cmK ?_ | ((with_reducible apply i_makeL); exact rfl) | with_reducible refine i_int2I ?_ | with_reducible refine i_int2B ?_ | with_reducible refine i_clear ?_ | ((with_reducible apply i_clearK); (focus (first | assumption | exact setO_same | (rw [setO_ne (by assumption)]; first | assumption | exact setO_same)))) | with_reducible refine i_meth ?_ | with_reducible refine i_methM ?_ | ((with_reducible apply i_methKwO); (focus (first | assumption | exact setO_same | (rw [setO_ne (by assumption)]; first | assumption | exact setO_same))); exact rfl) | with_reducible refine i_extend ?_ | with_reducible refine i_lam ?_ | with_reducible refine i_dput ?_ | with_reducible refine i_dict0N ?_ | with_reducible refine i_dict1 ?_ | with_reducible refine i_disp2 ?_ | with_reducible refine i_disp3 ?_ | with_reducible refine i_dispN ?_ | with_reducible refine i_goC ?_ | ((with_reducible apply i_goK); exact rfl) | with_reducible refine i_goN ?_ | with_reducible refine i_setd ?_ | with_reducible refine i_idxL ?_ | with_reducible refine i_ixLK ?_ | with_reducible refine i_dc ?_ | with_reducible refine i_dct ?_ | with_reducible refine i_ckw ?_ | with_reducible refine i_iceA ?_ | with_reducible refine i_get2 ?_ | with_reducible refine i_get1 ?_ | with_reducible refine i_prop ?_ | with_reducible refine i_propI ?_ | ((with_reducible apply i_methI); exact rfl) | ((with_reducible apply i_methO); (focus (first | assumption | exact setO_same | (rw [setO_ne (by assumption)]; first | assumption | exact setO_same))); exact rfl))
local macro_rules | `(tactic| walk_at "dl") => `(tactic| repeat (walk_at "d1"))
local macro_rules | `(tactic| walk_at "dw") => `(tactic| repeat (first | with_reducible refine i_if ?_ | with_reducible refine i_ifE ?_ | walk_at "d1"))
section
variable {P : Program} {w : World} {K : Frag} {mg : Str → Option Value} {base : Heap}
/-- what follows a place -/
def vP (v n r : Int) (p : T3) (e : Int) (w1 w2 : Str) : D :=
  let h1 := if 0 ≤ p.2.2 ∧ e = 0 then p.2.2 + 1 else p.2.2
  if p.2.1 + 1 < v then tri (p.1, p.2.1 + 1, h1)
  else
    let h2 : Int := if h1 < 0 ∨ n ≤ h1 then -1 else 0
    if p.1 + 1 < r then tri (p.1 + 1, 0, h2) else .str (if h2 < 0 then w2 else w1)
def f_law_voting_place : DF := fun ds O q _ => ∃ (v n r e : Int) (p : T3) (w1 w2 : Str), ds = [.tup [.int v, .int n, .int r], tri p, .int e, .tup [.str w1, .str w2]] ∧ q (vP v n r p e w1 w2) O
abbrev N_law_voting_place : List Str := ["_law_numbers", "_law_place", "_law_bit", "_law_words", "_law_votes", "_law_enough", "_law_times", "_law_turn", "_law_bits", "_law_heard"]
abbrev P_law_voting_place : List Str := ["_law_numbers", "_law_place", "_law_bit", "_law_words"]
theorem sc_law_voting_place : FnScope N_law_voting_place P_law_voting_place (defScope s_law_voting_place) := ⟨rfl, rfl, rfl, by decide +kernel, rfl, by decide +kernel, by decide +kernel⟩
theorem bd_law_voting_place : Bd0 "_law_voting_place" "_law_voting_place" s_law_voting_place P_law_voting_place := fun _ _ _ _ _ _ us hl => match us, hl with | [_, _, _, _], _ => rfl
abbrev Fn_law_voting_place (P : Program) (w : World) (K : Frag) (mg : Str → Option Value) (base : Heap) : Prop := Fn P w K mg base "_law_voting_place" "_law_voting_place" s_law_voting_place [] [] P_law_voting_place 4 1 f_law_voting_place (He.ga K "_law_voting_place")
theorem ok_law_voting_place {P : Program} {w : World} {K : Frag} {mg : Str → Option Value} {base : Heap} (F : HasD K "_law_voting_place" "_law_voting_place" s_law_voting_place [] [] (He.ga K "_law_voting_place")) (T : Txt K mg) : Fn_law_voting_place P w K mg base := by
  have sc := sc_law_voting_place
  refine fn_E (k := 0) F sc rfl fun cdv A outer s H E O0 H0 F0 ds O q xx hl hf S => ⟨_,
      (ds_cons (ds_asg (ps_asg (de_var (pv 0)) (dg_tup rfl rfl (dgs_cons (dg_name (pg_name (i := 4) sc.nd rfl (by first | exact Or.inl rfl | exact Or.inr rfl))) (dgs_cons (dg_name (pg_name (i := 5) sc.nd rfl (by first | exact Or.inl rfl | exact Or.inr rfl))) (dgs_cons (dg_name (pg_name (i := 6) sc.nd rfl (by first | exact Or.inl rfl | exact Or.inr rfl))) dgs_nil))))))
      (ds_cons (ds_asg (ps_asg (de_var (pv 1)) (dg_tup rfl rfl (dgs_cons (dg_name (pg_name (i := 7) sc.nd rfl (by first | exact Or.inl rfl | exact Or.inr rfl))) (dgs_cons (dg_name (pg_name (i := 8) sc.nd rfl (by first | exact Or.inl rfl | exact Or.inr rfl))) (dgs_cons (dg_name (pg_name (i := 9) sc.nd rfl (by first | exact Or.inl rfl | exact Or.inr rfl))) dgs_nil))))))
      (ds_cons (ds_if (PW.pt (dw_and (st_ge S (de_var (pv 9)) de_int) (dw_and1 (st_eq S (de_var (pv 2)) de_int))))
       (ds_one (ds_set (ps_set (i := 9) sc.nd rfl (by first | exact Or.inl rfl | exact Or.inr rfl) (so_add S (de_var (pv 9)) de_int))))
       ds_nil)
      (ds_cons (ds_if (st_lt S (so_add S (de_var (pv 8)) de_int) (de_var (pv 4)))
       (ds_one (ds_ret (de_tup (da_cons (de_var (pv 7)) (da_cons (so_add S (de_var (pv 8)) de_int) (da_cons (de_var (pv 9)) da_nil))))))
       ds_nil)
      (ds_cons (ds_set (ps_set (i := 9) sc.nd rfl (by first | exact Or.inl rfl | exact Or.inr rfl) (de_if (PW.pt (dw_or (st_lt S (de_var (pv 9)) de_int) (dw_or1 (st_ge S (de_var (pv 9)) (de_var (pv 5)))))) (so_neg S de_int) de_int)))
      (ds_one (ds_ret (de_if (st_lt S (so_add S (de_var (pv 7)) de_int) (de_var (pv 6))) (de_tup (da_cons (so_add S (de_var (pv 7)) de_int) (da_cons de_int (da_cons (de_var (pv 9)) da_nil)))) (so_ix S (de_var (pv 3)) (so_int S rfl T.b_int (da_cons (so_lt S (de_var (pv 9)) de_int) da_nil)) (fun _ _ => rfl))))))))))
      , ?_⟩
  obtain ⟨v, n, r, e, ⟨t, b, h⟩, w1, w2, rfl, hq⟩ := hf
  walk_at "dw"
  have tail : ∀ h1 : Int, h1 = (if 0 ≤ h ∧ e = 0 then h + 1 else h) → (dSeq
              (dIf (dTest (dOp dLt (dOp dAdd (dVar 8) (dC (D.int 1))) (dVar 4)))
                (dRet (dTup (dCons (dVar 7) (dCons (dOp dAdd (dVar 8) (dC (D.int 1))) (dCons (dVar 9) dNil))))) dNext)
              (dSeq
                (dAsg
                  (dIfE (dOr (dTest (dOp dLt (dVar 9) (dC (D.int 0)))) (dTest (dOp dGe (dVar 9) (dVar 5))))
                    (dNeg (dC (D.int 1))) (dC (D.int 0)))
                  (dgName 9))
                (dRet
                  (dIfE (dTest (dOp dLt (dOp dAdd (dVar 7) (dC (D.int 1))) (dVar 6)))
                    (dTup (dCons (dOp dAdd (dVar 7) (dC (D.int 1))) (dCons (dC (D.int 0)) (dCons (dVar 9) dNil))))
                    (dOp dIx (dVar 3) (dCB dInt1 (dCons (dOp dLt (dVar 9) (dC (D.int 0))) dNil))))))
              { nx := fun x O' => rtK q D.non O', rt := rtK q }) [some (.tup [.int v, .int n, .int r]), some (tri (t, b, h)), some (.int e), some (.tup [.str w1, .str w2]), some (.int v), some (.int n), some (.int r), some (.int t), some (.int b), some (.int h1)] O := by
    intro h1 eh
    have hv : vP v n r (t, b, h) e w1 w2 = (if b + 1 < v then tri (t, b + 1, h1) else if t + 1 < r then tri (t + 1, 0, if h1 < 0 ∨ n ≤ h1 then -1 else 0) else .str (if (if h1 < 0 ∨ n ≤ h1 then (-1 : Int) else 0) < 0 then w2 else w1)) := by
      unfold vP
      simp only [← eh]
    rw [hv] at hq
    clear hv
    walk_at "dw"
    refine if_d (fun cb => ?_) (fun cb => ?_)
    · rw [if_pos cb] at hq
      walk_at "dl"
      exact rt_same hq
    · rw [if_neg cb] at hq
      have last : ∀ h2 : Int, h2 = (if h1 < 0 ∨ n ≤ h1 then -1 else 0) → (dRet
                  (dIfE (dTest (dOp dLt (dOp dAdd (dVar 7) (dC (D.int 1))) (dVar 6)))
                    (dTup (dCons (dOp dAdd (dVar 7) (dC (D.int 1))) (dCons (dC (D.int 0)) (dCons (dVar 9) dNil))))
                    (dOp dIx (dVar 3) (dCB dInt1 (dCons (dOp dLt (dVar 9) (dC (D.int 0))) dNil)))))
              { nx := fun x O' => rtK q D.non O', rt := rtK q } [some (.tup [.int v, .int n, .int r]), some (tri (t, b, h)), some (.int e), some (.tup [.str w1, .str w2]), some (.int v), some (.int n), some (.int r), some (.int t), some (.int b), some (.int h2)] O := by
        intro h2 eh2
        rw [← eh2] at hq
        walk_at "dw"
        refine if_d (fun ct => ?_) (fun ct => ?_)
        · rw [if_pos ct] at hq
          walk_at "dl"
          exact rt_same hq
        · rw [if_neg ct] at hq
          walk_at "dl"
          by_cases c3 : h2 < 0
          · rw [if_pos c3] at hq
            rw [decide_eq_true c3]
            exact ⟨_, rfl, rt_same hq⟩
          · rw [if_neg c3] at hq
            rw [decide_eq_false c3]
            exact ⟨_, rfl, rt_same hq⟩
      walk_at "dw"
      by_cases c4 : h1 < 0
      · rw [decide_eq_true c4]
        refine iteT (iteT ?_)
        walk_at "dl"
        exact last _ (by rw [if_pos (.inl c4)])
      · rw [decide_eq_false c4]
        refine iteF ?_
        walk_at "dw"
        refine if_d (fun c5 => ?_) (fun c5 => ?_)
        · walk_at "dl"
          exact last _ (by rw [if_pos (.inr c5)])
        · walk_at "dl"
          exact last _ (by rw [if_neg (fun z => z.elim c4 c5)])
  by_cases c1 : 0 ≤ h
  · rw [show decide (0 ≤ ((t, b, h) : T3).2.2) = true from decide_eq_true c1]
    refine iteT ?_
    walk_at "dw"
    refine if_d (fun c2 => ?_) (fun c2 => ?_)
    · walk_at "dl"
      exact tail _ (by rw [if_pos ⟨c1, c2⟩])
    · refine i_next ?_
      exact tail _ (by rw [if_neg (fun z => c2 z.2)])
  · rw [show decide (0 ≤ ((t, b, h) : T3).2.2) = false from decide_eq_false c1]
    refine iteF (iteF ?_)
    refine i_next ?_
    exact tail _ (by rw [if_neg (fun z => c1 z.1)])
/-- the places -/
def someP (t b : Nat) : List T3 := (List.range (b + 2)).map fun (k : Nat) => (((t : Int), (b : Int), (k : Int) - 1) : T3)
def extP (ps some : List T3) : List T3 := ps ++ some.filter fun p => !ps.contains p
def bitsP (v : Nat) (t : Nat) (ps : List T3) : List T3 := (List.range v).foldl (fun ps b => extP ps (someP t b)) ps
def plcs (v r : Nat) : List T3 := (List.range r).foldl (fun ps t => bitsP v t ps) [(0, 0, 0), (0, 0, -1)]
def ixOf (ps : List T3) : D → D
  | .tup [.int a, .int b, .int c] => .int (ps.idxOf ((a, b, c) : T3) : Nat)
  | d => d
def vRows (v n r : Nat) (w1 w2 : Str) : List D := (plcs v r).map fun p => .tup [.int (if 0 ≤ p.2.2 then 1 else 0), ixOf (plcs v r) (vP v n r p 0 w1 w2), ixOf (plcs v r) (vP v n r p 1 w1 w2)]
theorem sub_mine {O O' : Ow} {r : Addr} {x : OD} (h : SubO O O') (h0 : O r = none) : SubO O (setO O' r x) := fun a o e => by
  have : a ≠ r := fun z => by rw [z, h0] at e; cases e
  rw [setO_ne this]; exact h a o e
def inOk (ps : List T3) : D → Bool
  | .tup [.int a, .int b, .int c] => ps.contains ((a, b, c) : T3)
  | .str _ => true
  | _ => false
theorem inOk_cases {ps : List T3} {d : D} (h : inOk ps d = true) : (∃ p, d = tri p ∧ p ∈ ps ∧ ixOf ps d = .int (ps.idxOf p : Nat)) ∨ ∃ s, d = .str s := by
  unfold inOk at h
  split at h
  · exact .inl ⟨_, rfl, List.contains_iff_mem.mp h, rfl⟩
  · exact .inr ⟨_, rfl⟩
  · cases h
theorem vin_all : ∀ (v : Fin 3) (n : Fin 3) (r : Fin 2), ((plcs (v.val + 1) (r.val + 1)).all fun p => inOk (plcs (v.val + 1) (r.val + 1)) (vP (v.val + 1 : Nat) (n.val + 1 : Nat) (r.val + 1 : Nat) p 0 "taken" "lost") && inOk (plcs (v.val + 1) (r.val + 1)) (vP (v.val + 1 : Nat) (n.val + 1 : Nat) (r.val + 1 : Nat) p 1 "taken" "lost")) = true ∧ (plcs (v.val + 1) (r.val + 1)).length ≤ 20 := by decide +kernel
theorem vP_word {v n r : Int} {p : T3} {e : Int} {w1 w2 u1 u2 : Str} {ps : List T3} (h : inOk ps (vP v n r p e w1 w2) = true) : inOk ps (vP v n r p e u1 u2) = true := by
  unfold vP at h ⊢
  dsimp only at h ⊢
  split
  · rename_i c
    rw [if_pos c] at h
    exact h
  · rename_i c
    rw [if_neg c] at h
    split
    · rename_i c2
      rw [if_pos c2] at h
      exact h
    · rfl
theorem vin {v n r : Nat} (v0 : 1 ≤ v) (v1 : v ≤ 3) (n0 : 1 ≤ n) (n1 : n ≤ v) (r0 : 1 ≤ r) (r1 : r ≤ 2) {p : T3} (hp : p ∈ plcs v r) {e : Int} (he : e = 0 ∨ e = 1) (w1 w2 : Str) : inOk (plcs v r) (vP v n r p e w1 w2) = true := by
  obtain ⟨h, _⟩ := vin_all ⟨v - 1, by omega⟩ ⟨n - 1, by omega⟩ ⟨r - 1, by omega⟩
  simp only [show v - 1 + 1 = v by omega, show n - 1 + 1 = n by omega, show r - 1 + 1 = r by omega] at h
  have := List.all_eq_true.mp h p hp
  rw [Bool.and_eq_true] at this
  rcases he with rfl | rfl
  · exact vP_word this.1
  · exact vP_word this.2
theorem plcs_len {v r : Nat} (v0 : 1 ≤ v) (v1 : v ≤ 3) (r0 : 1 ≤ r) (r1 : r ≤ 2) : (plcs v r).length ≤ 20 := by
  obtain ⟨_, h⟩ := vin_all ⟨v - 1, by omega⟩ ⟨0, by omega⟩ ⟨r - 1, by omega⟩
  simpa only [show v - 1 + 1 = v by omega, show r - 1 + 1 = r by omega] using h
theorem extP_len {ps : List T3} {t b : Nat} : (extP ps (someP t b)).length ≤ ps.length + (b + 2) := by
  unfold extP
  rw [List.length_append]
  have h := List.length_filter_le (fun p => !ps.contains p) (someP t b)
  have h2 : (someP t b).length = b + 2 := by simp [someP]
  omega
def f_law_voting_rows : DF := fun ds O q _ => ∃ (v n r : Nat), ds = [.tup [.int v, .int n, .int r]] ∧ 1 ≤ v ∧ v ≤ 3 ∧ 1 ≤ n ∧ n ≤ v ∧ 1 ≤ r ∧ r ≤ 2 ∧ q (.lst [.lst (vRows v n r "taken" "lost"), .lst (vRows v n r "done" "again")]) O
abbrev N_law_voting_rows : List Str := ["_law_numbers", "_law_votes", "_law_enough", "_law_times", "_law_places", "_law_turn", "_law_bits", "_law_some", "_law_heard", "_law_place", "_law_found", "_law_words", "_law_rows_here", "_law_after", "_law_bit", "_law_one"]
abbrev P_law_voting_rows : List Str := ["_law_numbers"]
theorem sc_law_voting_rows : FnScope N_law_voting_rows P_law_voting_rows (defScope s_law_voting_rows) := ⟨rfl, rfl, rfl, by decide +kernel, rfl, by decide +kernel, by decide +kernel⟩
theorem bd_law_voting_rows : Bd0 "_law_voting_rows" "_law_voting_rows" s_law_voting_rows P_law_voting_rows := fun _ _ _ _ _ _ us hl => match us, hl with | [_], _ => rfl
abbrev Fn_law_voting_rows (P : Program) (w : World) (K : Frag) (mg : Str → Option Value) (base : Heap) : Prop := Fn P w K mg base "_law_voting_rows" "_law_voting_rows" s_law_voting_rows [] [] P_law_voting_rows 1 2 f_law_voting_rows (He.ga K "_law_voting_rows")
structure C_law_voting_rows (P : Program) (w : World) (K : Frag) (mg : Str → Option Value) (base : Heap) : Prop where
  law_voting_place : Fn_law_voting_place P w K mg base
theorem ok_law_voting_rows {P : Program} {w : World} {K : Frag} {mg : Str → Option Value} {base : Heap} (F : HasD K "_law_voting_rows" "_law_voting_rows" s_law_voting_rows [] [] (He.ga K "_law_voting_rows")) (T : Txt K mg) (C : C_law_voting_rows P w K mg base) : Fn_law_voting_rows P w K mg base := by
  have sc := sc_law_voting_rows
  refine fn_E (k := 1) F sc rfl fun cdv A outer s H E O0 H0 F0 ds O q xx hl hf S => ⟨_,
      (ds_cons (ds_asg (ps_asg (de_var (pv 0)) (dg_tup rfl rfl (dgs_cons (dg_name (pg_name (i := 1) sc.nd rfl (by first | exact Or.inl rfl | exact Or.inr rfl))) (dgs_cons (dg_name (pg_name (i := 2) sc.nd rfl (by first | exact Or.inl rfl | exact Or.inr rfl))) (dgs_cons (dg_name (pg_name (i := 3) sc.nd rfl (by first | exact Or.inl rfl | exact Or.inr rfl))) dgs_nil))))))
      (ds_cons (ds_set (ps_set (i := 4) sc.nd rfl (by first | exact Or.inl rfl | exact Or.inr rfl) (de_lstO (da_cons (de_tup (da_cons de_int (da_cons de_int (da_cons de_int da_nil)))) (da_cons (de_tup (da_cons de_int (da_cons de_int (da_cons (so_neg S de_int) da_nil)))) da_nil)))))
      (ds_cons (ds_for (ps_for S.po rfl (di_range1 rfl T.b_range (da_cons (de_var (pv 3)) da_nil)) (dg_name (pg_name (i := 5) sc.nd rfl (by first | exact Or.inl rfl | exact Or.inr rfl)))
       (ds_one (ds_for (ps_for S.po rfl (di_range1 rfl T.b_range (da_cons (de_var (pv 1)) da_nil)) (dg_name (pg_name (i := 6) sc.nd rfl (by first | exact Or.inl rfl | exact Or.inr rfl)))
        (ds_cons (ds_setLc (simG_name (vs := [8]) (i := 8) (by decide)) (ps_setLc (i := 7) (own := [("_law_heard", 8)]) (g := (gName 8)) rfl sc.nd rfl rfl (sw_true rfl rfl rfl (by decide +kernel)) (di_range2 rfl T.b_range (da_cons (so_neg S de_int) (da_cons (so_add S (de_var (pv 6)) de_int) da_nil))) (blkOk_by (own := [("_law_heard", 8)]) (N := N_law_voting_rows) (sc := defScope s_law_voting_rows) (by decide +kernel)) (fun _ _ _ _ _ => (pg_name (i := 8) sc.nd rfl (by first | exact Or.inl rfl | exact Or.inr rfl))) (fun _ _ _ _ _ => dts_nil) (fun _ _ _ _ _ => (de_tup (da_cons (de_var (pv 5)) (da_cons (de_var (pv 6)) (da_cons (de_var (pv 8)) da_nil)))))))
        (ds_one (ds_expr (so_extend S (de_var (pv 4)) (da_cons (de_lcO (simG_name (vs := [9]) (i := 9) (by decide)) (pe_lc (own := [("_law_place", 9)]) (g := (gName 9)) rfl sc.nd (di_seq S (de_var (pv 7))) (blkOk_by (own := [("_law_place", 9)]) (N := N_law_voting_rows) (sc := defScope s_law_voting_rows) (by decide +kernel)) (fun _ _ _ _ _ => (pg_name (i := 9) sc.nd rfl (by first | exact Or.inl rfl | exact Or.inr rfl))) (fun _ _ _ _ _ => (dts_one (st_notin S.blk (de_var (pv 9)) (de_var (pv 4))))) (fun _ _ _ _ _ => (de_var (pv 9))))) da_nil))))))))))
      (ds_cons (ds_set (ps_set (i := 10) sc.nd rfl (by first | exact Or.inl rfl | exact Or.inr rfl) (de_lstO da_nil)))
      (ds_cons (ds_for (ps_for S.po rfl (di_seq S (de_lst (da_cons (de_tup (da_cons de_str (da_cons de_str da_nil))) (da_cons (de_tup (da_cons de_str (da_cons de_str da_nil))) da_nil)))) (dg_name (pg_name (i := 11) sc.nd rfl (by first | exact Or.inl rfl | exact Or.inr rfl)))
       (ds_cons (ds_set (ps_set (i := 12) sc.nd rfl (by first | exact Or.inl rfl | exact Or.inr rfl) (de_lstO da_nil)))
       (ds_cons (ds_for (ps_for S.po rfl (di_seq S (de_var (pv 4))) (dg_name (pg_name (i := 9) sc.nd rfl (by first | exact Or.inl rfl | exact Or.inr rfl)))
        (ds_cons (ds_setLc (simG_name (vs := [14]) (i := 14) (by decide)) (ps_setLc (i := 13) (own := [("_law_bit", 14)]) (g := (gName 14)) rfl sc.nd rfl rfl (sw_true rfl rfl rfl (by decide +kernel)) (di_range1 rfl T.b_range (da_cons de_int da_nil)) (blkOk_by (own := [("_law_bit", 14)]) (N := N_law_voting_rows) (sc := defScope s_law_voting_rows) (by decide +kernel)) (fun _ _ _ _ _ => (pg_name (i := 14) sc.nd rfl (by first | exact Or.inl rfl | exact Or.inr rfl))) (fun _ _ _ _ _ => dts_nil) (fun _ _ _ _ _ => (so_callF S.blk C.law_voting_place (by decide) T.g_law_voting_place bd_law_voting_place rfl (da_cons (de_var (pv 0)) (da_cons (de_var (pv 9)) (da_cons (de_var (pv 14)) (da_cons (de_var (pv 11)) da_nil))))))))
        (ds_cons (ds_setLc (simG_name (vs := [15]) (i := 15) (by decide)) (ps_setLc (i := 13) (own := [("_law_one", 15)]) (g := (gName 15)) rfl sc.nd rfl rfl (sw_true rfl rfl rfl (by decide +kernel)) (di_seq S (de_var (pv 13))) (blkOk_by (own := [("_law_one", 15)]) (N := N_law_voting_rows) (sc := defScope s_law_voting_rows) (by decide +kernel)) (fun _ _ _ _ _ => (pg_name (i := 15) sc.nd rfl (by first | exact Or.inl rfl | exact Or.inr rfl))) (fun _ _ _ _ _ => dts_nil) (fun _ _ _ _ _ => (de_if (st_tru S.blk (so_isi S.blk rfl T.b_isinstance (da_cons (de_var (pv 15)) (da_cons (so_ty (n := "tuple") rfl T.b_tuple) da_nil)))) (so_idxO S.blk (de_var (pv 4)) (da_cons (de_var (pv 15)) da_nil)) (de_var (pv 15))))))
        (ds_one (ds_expr (so_append S (de_var (pv 12)) (da_cons (de_tup (da_cons (so_int S rfl T.b_int (da_cons (so_ge S (so_ix S (de_var (pv 9)) de_int (fun _ _ => rfl)) de_int) da_nil)) (da_cons (so_ix S (de_var (pv 13)) de_int (fun _ _ => rfl)) (da_cons (so_ix S (de_var (pv 13)) de_int (fun _ _ => rfl)) da_nil)))) da_nil))))))))
       (ds_one (ds_expr (so_append S (de_var (pv 10)) (da_cons (de_var (pv 12)) da_nil))))))))
      (ds_one (ds_ret (de_iceA (de_var (pv 10))))))))))
      , ?_⟩
  obtain ⟨v, n, r, rfl, v0, v1, n0, n1, r0, r1, hq⟩ := hf
  walk_at "dl"
  intro pl hpl
  walk_at "dl"
  refine ⟨⟨by omega, by omega⟩, ?_⟩
  refine forGo_inv (fun i env O' => ∃ (x5 x6 x7 x8 x9 x10 x11 x12 x13 x14 x15 : Option D) (ps : List T3), env = [some (.tup [.int v, .int n, .int r]), some (.int v), some (.int n), some (.int r), some (.ref pl), x5, x6, x7, x8, x9, x10, x11, x12, x13, x14, x15] ∧ SubO O O' ∧ ps = (List.range i).foldl (fun ps t => bitsP v t ps) [(0, 0, 0), (0, 0, -1)] ∧ ps.length ≤ 2 + 20 * i ∧ O' pl = some (.lst (ps.map tri)))
    ⟨none, none, none, none, none, none, none, none, none, none, none, _, rfl, SubO.fresh hpl, rfl, by simp, setO_same⟩ (fun _ _ _ _ _ => trivial) ?_ ?_
  · rintro N i y env O1 hy ⟨x5, x6, x7, x8, x9, x10, x11, x12, x13, x14, x15, ps, rfl, sub1, hps, lps, at1⟩ hN
    have hi : i < r := by
      have := (List.getElem?_eq_some_iff.mp hy).1
      simp [rgD] at this
      omega
    have hyi : y = .int (i : Nat) := by
      simp only [rgD, List.getElem?_map] at hy
      obtain ⟨k, hk, rfl⟩ := Option.map_eq_some_iff.mp hy
      obtain ⟨h1, h2⟩ := List.getElem?_eq_some_iff.mp hk
      rw [List.getElem_range] at h2
      subst h2
      simp
    subst hyi
    walk_at "dl"
    refine ⟨⟨by omega, by omega⟩, ?_⟩
    refine forGo_inv (fun j env O' => ∃ (x6 x7 x8 x9 x10 x11 x12 x13 x14 x15 : Option D) (ps2 : List T3), env = [some (.tup [.int v, .int n, .int r]), some (.int v), some (.int n), some (.int r), some (.ref pl), some (.int (i : Nat)), x6, x7, x8, x9, x10, x11, x12, x13, x14, x15] ∧ SubO O O' ∧ ps2 = (List.range j).foldl (fun ps b => extP ps (someP i b)) ps ∧ ps2.length ≤ 2 + 20 * i + 5 * j ∧ O' pl = some (.lst (ps2.map tri)))
      ⟨x6, x7, x8, x9, x10, x11, x12, x13, x14, x15, _, rfl, sub1, rfl, by simpa using lps, at1⟩ (fun _ _ _ _ _ => trivial) ?_ ?_
    · rintro N2 j y env O2 hy ⟨x6, x7, x8, x9, x10, x11, x12, x13, x14, x15, ps2, rfl, sub2, hps2, lps2, at2⟩ hN2
      have hj : j < v := by
        have := (List.getElem?_eq_some_iff.mp hy).1
        simp [rgD] at this
        omega
      have hyi : y = .int (j : Nat) := by
        simp only [rgD, List.getElem?_map] at hy
        obtain ⟨k, hk, rfl⟩ := Option.map_eq_some_iff.mp hy
        obtain ⟨h1, h2⟩ := List.getElem?_eq_some_iff.mp hk
        rw [List.getElem_range] at h2
        subst h2
        simp
      subst hyi
      walk_at "dl"
      refine ⟨⟨by omega, by omega⟩, ⟨by omega, by omega⟩, ?_⟩
      have hsz : (rgD (-1) ((j : Int) + 1)).length = j + 2 := by simp [rgD]; omega
      refine ⟨by rw [hsz, sizeLine_eq]; omega, ?_⟩
      refine lcGo_map (fun d => .tup [.int (i : Nat), .int (j : Nat), d]) trivial (fun d hd k z hk => ?_) ?_
      · walk_at "dl"
        refine iteT ?_
        walk_at "dl"
        exact hk _ (.refl _)
      rw [show (rgD (-1) ((j : Int) + 1)).map (fun d => D.tup [.int (i : Nat), .int (j : Nat), d]) = (someP i j).map tri from by
        simp only [rgD, someP, List.map_map]
        rw [show ((j : Int) + 1 - -1).toNat = j + 2 by omega]
        apply List.map_congr_left
        intro k _
        simp only [Function.comp, tri, D.tup.injEq, List.cons.injEq, D.int.injEq, and_true, true_and]
        omega]
      walk_at "dl"
      refine i_extK at2 ?_
      walk_at "dl"
      refine ⟨line_ok (by simp [someP]; omega), ?_⟩
      refine lcGo_flt tri (fun p => !ps2.contains p) trivial (fun p hp k z g1 g0 => ?_) ?_
      · walk_at "dw"
        refine i_notinT3 at2 ?_
        cases hc : (!ps2.contains p) with
        | true =>
          refine iteT ?_
          walk_at "dl"
          exact g1 hc _ (.refl _)
        | false =>
          refine iteF ?_
          exact g0 hc _ (.refl _)
      intro pn hpn
      walk_at "dl"
      have npl : pl ≠ pn := fun z => by rw [← z, at2] at hpn; cases hpn
      have hle := extP_len (ps := ps2) (t := i) (b := j)
      have hfl : ((someP i j).filter fun p => !ps2.contains p).length ≤ j + 2 := Nat.le_trans (List.length_filter_le _ _) (by simp [someP])
      refine i_extK2 (by rw [setO_ne npl]; exact at2) setO_same (by rw [List.length_map, List.length_map, sizeLine_eq]; omega) ?_
      refine hN2 _ _ _ (.refl _) ⟨_, _, _, _, _, _, _, _, _, _, extP ps2 (someP i j), rfl, ?_, ?_, ?_, ?_⟩
      · have hpn0 : O pn = none := sub2.gone hpn
        exact sub_mine (sub_mine sub2 hpn0) hpl
      · rw [List.range_succ, List.foldl_append, ← hps2]; rfl
      · omega
      · rw [setO_same, ← List.map_append]; rfl
    · rintro env O2 ⟨x6, x7, x8, x9, x10, x11, x12, x13, x14, x15, ps2, rfl, sub2, hps2, lps2, at2⟩
      have hv : (rgD 0 (v : Int)).length = v := by simp [rgD]
      rw [hv] at hps2 lps2
      refine hN _ _ _ (.refl _) ⟨_, _, _, _, _, _, _, _, _, _, _, ps2, rfl, sub2, ?_, by omega, at2⟩
      rw [List.range_succ, List.foldl_append, ← hps]
      exact hps2
  rintro env O1 ⟨x5, x6, x7, x8, x9, x10, x11, x12, x13, x14, x15, ps, rfl, sub1, hps, lps, at1⟩
  have hr : (rgD 0 (r : Int)).length = r := by simp [rgD]
  rw [hr] at hps
  have hpp : ps = plcs v r := hps
  subst hpp
  clear hps lps
  have lps := plcs_len v0 v1 r0 r1
  have hin := fun (p : T3) (hp : p ∈ plcs v r) (e : Int) (he : e = 0 ∨ e = 1) (w1 w2 : Str) => vin v0 v1 n0 n1 r0 r1 hp he w1 w2
  have hrow : ∀ w1 w2, vRows v n r w1 w2 = (plcs v r).map fun p => .tup [.int (if 0 ≤ p.2.2 then 1 else 0), ixOf (plcs v r) (vP v n r p 0 w1 w2), ixOf (plcs v r) (vP v n r p 1 w1 w2)] := fun _ _ => rfl
  generalize plcs v r = ps at at1 lps hin hrow
  walk_at "dl"
  intro pf hpf
  walk_at "dl"
  have hpf0 : O pf = none := sub1.gone hpf
  have nlf : pl ≠ pf := fun z => by rw [← z, at1] at hpf; cases hpf
  have at2 : setO O1 pf (.lst []) pl = some (.lst (ps.map tri)) := by rw [setO_ne nlf]; exact at1
  have sub2 : SubO O (setO O1 pf (.lst [])) := sub_mine sub1 hpf0
  have atf : setO O1 pf (.lst []) pf = some (.lst []) := setO_same
  generalize setO O1 pf (.lst []) = O2 at at2 sub2 atf ⊢
  refine forGo_inv (fun i env O' => ∃ (x5 x6 x7 x8 x9 x11 x12 x13 x14 x15 : Option D) (refs : List Addr), env = [some (.tup [.int v, .int n, .int r]), some (.int v), some (.int n), some (.int r), some (.ref pl), x5, x6, x7, x8, x9, some (.ref pf), x11, x12, x13, x14, x15] ∧ SubO O O' ∧ O' pl = some (.lst (ps.map tri)) ∧ O' pf = some (.lst (refs.map D.ref)) ∧ refs.length = i ∧
      ∀ (j : Nat) (a : Addr), refs[j]? = some a → O a = none ∧ a ≠ pl ∧ a ≠ pf ∧ O' a = some (.lst (if j = 0 then vRows v n r "taken" "lost" else vRows v n r "done" "again")))
    ⟨x5, x6, x7, x8, x9, x11, x12, x13, x14, x15, [], rfl, sub2, at2, atf, rfl, fun j a h => by simp at h⟩ (fun _ _ _ _ _ => trivial) ?_ ?_
  · rintro N i y env O3 hy ⟨x5, x6, x7, x8, x9, x11, x12, x13, x14, x15, refs, rfl, sub3, at3, atf3, lref, hrefs⟩ hN
    have hi : i < 2 := (List.getElem?_eq_some_iff.mp hy).1
    obtain ⟨w1, w2, rfl, hw⟩ : ∃ (w1 w2 : Str), y = .tup [.str w1, .str w2] ∧ vRows v n r w1 w2 = (if i = 0 then vRows v n r "taken" "lost" else vRows v n r "done" "again") := by
      rcases (show i = 0 ∨ i = 1 by omega) with rfl | rfl
      · cases hy
        exact ⟨_, _, rfl, by rw [if_pos rfl]⟩
      · cases hy
        exact ⟨_, _, rfl, by rw [if_neg (by decide)]⟩
    walk_at "dl"
    intro pr hpr
    walk_at "dl"
    have hpr0 : O pr = none := sub3.gone hpr
    have nlr : pl ≠ pr := fun z => by rw [← z, at3] at hpr; cases hpr
    have nfr : pf ≠ pr := fun z => by rw [← z, atf3] at hpr; cases hpr
    have at4 : setO O3 pr (.lst []) pl = some (.lst (ps.map tri)) := by rw [setO_ne nlr]; exact at3
    refine i_seqO at4 ?_
    rw [at4]
    -- the rows
    refine forGo_inv (fun j env O' => ∃ (x5 x6 x7 x8 x9 x13 x14 x15 : Option D), env = [some (.tup [.int v, .int n, .int r]), some (.int v), some (.int n), some (.int r), some (.ref pl), x5, x6, x7, x8, x9, some (.ref pf), some (.tup [.str w1, .str w2]), some (.ref pr), x13, x14, x15] ∧ O' = setO O3 pr (.lst ((vRows v n r w1 w2).take j)))
      ⟨x5, x6, x7, x8, x9, x13, x14, x15, rfl, by simp⟩ (fun j env O' _ ⟨_, _, _, _, _, _, _, _, _, e⟩ => by rw [e, setO_ne nlr]; exact at3) ?_ ?_
    · rintro N2 j y env O4 hy ⟨x5, x6, x7, x8, x9, x13, x14, x15, rfl, rfl⟩ hN2
      rw [List.getElem?_map] at hy
      obtain ⟨p, hpj, rfl⟩ := Option.map_eq_some_iff.mp hy
      have hpm := List.mem_of_getElem? hpj
      have hjl := (List.getElem?_eq_some_iff.mp hpj).1
      have at5 : setO O3 pr (.lst ((vRows v n r w1 w2).take j)) pl = some (.lst (ps.map tri)) := by rw [setO_ne nlr]; exact at3
      walk_at "dl"
      refine ⟨⟨by decide, by decide⟩, by rw [sizeLine_eq]; decide, ?_⟩
      rw [show rgD 0 2 = ([0, 1] : List Int).map D.int from rfl]
      refine lcGo_mpA D.int (fun e => vP v n r p e w1 w2) trivial (fun e he k z hk => ?_) ?_
      · walk_at "dl"
        refine iteT ?_
        walk_at "dl"
        exact ⟨rfl, v, n, r, e, p, w1, w2, rfl, hk _ (.refl _)⟩
      walk_at "dl"
      refine lcGo_mpA (fun e : Int => vP v n r p e w1 w2) (fun e => ixOf ps (vP v n r p e w1 w2)) trivial (fun e he k z hk => ?_) ?_
      · have he2 : e = 0 ∨ e = 1 := by simpa using he
        rcases inOk_cases (hin p hpm e he2 w1 w2) with ⟨p', e1, hm, e2⟩ | ⟨t, e1⟩
        · rw [e2] at hk
          rw [e1]
          walk_at "dl"
          refine iteT ?_
          walk_at "dw"
          refine iteT ?_
          walk_at "dl"
          refine i_idxO ?_
          walk_at "dl"
          refine i_ixK at5 ?_
          walk_at "dl"
          exact i_ixT3 at5 hm (hk _ (.refl _))
        · rw [e1] at hk ⊢
          walk_at "dl"
          refine iteT ?_
          walk_at "dw"
          refine iteF ?_
          walk_at "dl"
          exact hk _ (.refl _)
      walk_at "dl"
      · have := List.length_take_le j (vRows v n r w1 w2)
        rw [sizeLine_eq]; omega
      refine hN2 _ _ _ (.refl _) ⟨_, _, _, _, _, _, _, _, rfl, ?_⟩
      rw [setO_setO, List.take_add_one, hrow, List.getElem?_map, hpj]
      simp only [Option.map_some, Option.toList_some, ge_iff_le, decide_eq_true_eq]
    · rintro env O4 ⟨x5, x6, x7, x8, x9, x13, x14, x15, rfl, rfl⟩
      have hle : (vRows v n r w1 w2).length = ps.length := by rw [hrow, List.length_map]
      rw [List.length_map, ← hle, List.take_length]
      walk_at "dl"
      · rw [List.length_map, sizeLine_eq]; omega
      refine hN _ _ _ (.refl _) ⟨_, _, _, _, _, _, _, _, _, _, refs ++ [pr], rfl, sub_mine (sub_mine sub3 hpr0) hpf0, ?_, ?_, by rw [List.length_append, lref]; rfl, fun j a ha => ?_⟩
      · rw [setO_ne nlf, setO_ne nlr]; exact at3
      · rw [setO_same, List.map_append]; rfl
      · rcases Nat.lt_or_ge j refs.length with z | z
        · rw [List.getElem?_append_left z] at ha
          obtain ⟨b1, b2, b3, b4⟩ := hrefs j a ha
          refine ⟨b1, b2, b3, ?_⟩
          have : a ≠ pr := fun z => by rw [z, hpr] at b4; cases b4
          rw [setO_ne b3, setO_ne this]; exact b4
        · rw [List.getElem?_append_right z] at ha
          have hj' : j = i := by
            have := (List.getElem?_eq_some_iff.mp ha).1
            simp at this
            omega
          subst hj'
          rw [show j - refs.length = 0 by omega] at ha
          cases ha
          exact ⟨hpr0, nlr.symm, nfr.symm, by rw [setO_ne nfr.symm, setO_same, hw]⟩
  · rintro env O3 ⟨x5, x6, x7, x8, x9, x11, x12, x13, x14, x15, refs, rfl, sub3, at3, atf3, lref, hrefs⟩
    match refs, lref with
    | [r1, r2], _ =>
    obtain ⟨a1, a2, a3, a4⟩ := hrefs 0 r1 rfl
    obtain ⟨b1, b2, b3, b4⟩ := hrefs 1 r2 rfl
    rw [if_pos rfl] at a4
    rw [if_neg (by decide)] at b4
    walk_at "dl"
    refine i_iceB [pf, r1, r2] 2 (fun a ha => ?_) ?_
    · simp only [List.mem_cons, List.mem_nil_iff, or_false] at ha
      rcases ha with rfl | rfl | rfl
      · exact ⟨_, atf3⟩
      · exact ⟨_, a4⟩
      · exact ⟨_, b4⟩
    · have i1 : inA [pf, r1, r2] pf = true := by simp [inA]
      have i2 : inA [pf, r1, r2] r1 = true := by simp [inA]
      have i3 : inA [pf, r1, r2] r2 = true := by simp [inA]
      simp only [dv, i1, i2, i3, if_true, atf3, a4, b4, List.map_cons, List.map_nil, List.map_id']
      refine ⟨O, fun a o e => ?_, hq⟩
      have m1 : a ≠ pf := fun z => by rw [z, hpf0] at e; cases e
      have m2 : a ≠ r1 := fun z => by rw [z, a1] at e; cases e
      have m3 : a ≠ r2 := fun z => by rw [z, b1] at e; cases e
      rw [cutA_ne (by simp [m1, m2, m3])]
      exact sub3 a o e
def tinyH : List D := [.tup [.int 1, .str "lost", .str "taken"], .tup [.int 0, .str "lost", .str "lost"]]
def tinyS : List D := [.tup [.int 1, .str "again", .str "done"]]
def flagH : List D := [.tup [.int 1, .int 2, .int 4], .tup [.int 0, .int 3, .int 3], .tup [.int 0, .int 3, .int 3], .tup [.int 1, .int 3, .str "lost"], .tup [.int 1, .int 5, .str "taken"], .tup [.int 0, .str "taken", .str "taken"]]
def flagS : List D := [.tup [.int 1, .int 1, .int 3], .tup [.int 0, .int 2, .int 2], .tup [.int 1, .int 2, .str "again"], .tup [.int 1, .int 1, .str "done"]]
/-- the rows of a law's end -/
inductive LRows : List D → List D → Prop where
  | tiny : LRows tinyH tinyS
  | vote {v n r : Nat} : 1 ≤ v → v ≤ 3 → 1 ≤ n → n ≤ v → 1 ≤ r → r ≤ 2 → LRows (vRows v n r "taken" "lost") (vRows v n r "done" "again")
  | flag : LRows flagH flagS
  | drawn {hs ss : List D} : HearD hs → SendD ss → LRows hs ss
def f_law_rows : DF := fun ds O q _ => ∃ (p : Addr) (m : Int), ds = [.ref p] ∧ Bag O p m ∧ m < 2 ^ 35 ∧ ∀ hs ss O', Ex p O O' → Bag O' p (m + 110) → LRows hs ss → q (.lst [.lst hs, .lst ss]) O'
abbrev N_law_rows : List Str := ["_law_bag_here", "_law_way_here", "_law_votes", "_law_flagged"]
abbrev P_law_rows : List Str := ["_law_bag_here"]
theorem sc_law_rows : FnScope N_law_rows P_law_rows (defScope s_law_rows) := ⟨rfl, rfl, rfl, by decide +kernel, rfl, by decide +kernel, by decide +kernel⟩
theorem bd_law_rows : Bd0 "_law_rows" "_law_rows" s_law_rows P_law_rows := fun _ _ _ _ _ _ us hl => match us, hl with | [_], _ => rfl
abbrev Fn_law_rows (P : Program) (w : World) (K : Frag) (mg : Str → Option Value) (base : Heap) : Prop := Fn P w K mg base "_law_rows" "_law_rows" s_law_rows [] [] P_law_rows 1 5 f_law_rows (He.ga K "_law_rows")
structure C_law_rows (P : Program) (w : World) (K : Frag) (mg : Str → Option Value) (base : Heap) : Prop where
  law_drawn_rows : Fn_law_drawn_rows P w K mg base
  law_take : Fn_law_take P w K mg base
  law_voting_rows : Fn_law_voting_rows P w K mg base
theorem ok_law_rows {P : Program} {w : World} {K : Frag} {mg : Str → Option Value} {base : Heap} (F : HasD K "_law_rows" "_law_rows" s_law_rows [] [] (He.ga K "_law_rows")) (T : Txt K mg) (C : C_law_rows P w K mg base) : Fn_law_rows P w K mg base := by
  have sc := sc_law_rows
  refine fn_E (k := 4) F sc rfl fun cdv A outer s H E O0 H0 F0 ds O q xx hl hf S => ⟨_,
      (ds_cons (ds_set (ps_set (i := 1) sc.nd rfl (by first | exact Or.inl rfl | exact Or.inr rfl) (so_callF S C.law_take (by decide) T.g_law_take bd_law_take rfl (da_cons (de_var (pv 0)) (da_cons de_int da_nil)))))
      (ds_cons (ds_if (st_eq S (de_var (pv 1)) de_int)
       (ds_one (ds_ret (de_lst (da_cons (de_lst (da_cons (de_tup (da_cons de_int (da_cons de_str (da_cons de_str da_nil)))) (da_cons (de_tup (da_cons de_int (da_cons de_str (da_cons de_str da_nil)))) da_nil))) (da_cons (de_lst (da_cons (de_tup (da_cons de_int (da_cons de_str (da_cons de_str da_nil)))) da_nil)) da_nil)))))
       ds_nil)
      (ds_cons (ds_if (st_eq S (de_var (pv 1)) de_int)
       (ds_cons (ds_set (ps_set (i := 2) sc.nd rfl (by first | exact Or.inl rfl | exact Or.inr rfl) (so_add S de_int (so_callF S C.law_take (by decide) T.g_law_take bd_law_take rfl (da_cons (de_var (pv 0)) (da_cons de_int da_nil))))))
       (ds_one (ds_ret (so_callF S C.law_voting_rows (by decide) T.g_law_voting_rows bd_law_voting_rows rfl (da_cons (de_tup (da_cons (de_var (pv 2)) (da_cons (so_add S de_int (so_callF S C.law_take (by decide) T.g_law_take bd_law_take rfl (da_cons (de_var (pv 0)) (da_cons (de_var (pv 2)) da_nil)))) (da_cons (so_add S de_int (so_callF S C.law_take (by decide) T.g_law_take bd_law_take rfl (da_cons (de_var (pv 0)) (da_cons de_int da_nil)))) da_nil)))) da_nil)))))
       ds_nil)
      (ds_cons (ds_if (st_eq S (de_var (pv 1)) de_int)
       (ds_cons (ds_set (ps_set (i := 3) sc.nd rfl (by first | exact Or.inl rfl | exact Or.inr rfl) (de_lst (da_cons (de_tup (da_cons de_int (da_cons de_int (da_cons de_int da_nil)))) (da_cons (de_tup (da_cons de_int (da_cons de_int (da_cons de_int da_nil)))) (da_cons (de_tup (da_cons de_int (da_cons de_int (da_cons de_int da_nil)))) (da_cons (de_tup (da_cons de_int (da_cons de_int (da_cons de_str da_nil)))) (da_cons (de_tup (da_cons de_int (da_cons de_int (da_cons de_str da_nil)))) (da_cons (de_tup (da_cons de_int (da_cons de_str (da_cons de_str da_nil)))) da_nil)))))))))
       (ds_one (ds_ret (de_lst (da_cons (de_var (pv 3)) (da_cons (de_lst (da_cons (de_tup (da_cons de_int (da_cons de_int (da_cons de_int da_nil)))) (da_cons (de_tup (da_cons de_int (da_cons de_int (da_cons de_int da_nil)))) (da_cons (de_tup (da_cons de_int (da_cons de_int (da_cons de_str da_nil)))) (da_cons (de_tup (da_cons de_int (da_cons de_int (da_cons de_str da_nil)))) da_nil))))) da_nil))))))
       ds_nil)
      (ds_one (ds_ret (so_callF S C.law_drawn_rows (by decide) T.g_law_drawn_rows bd_law_drawn_rows rfl (da_cons (de_var (pv 0)) da_nil))))))))
      , ?_⟩
  obtain ⟨p, m, rfl, hb, hm, hq⟩ := hf
  walk_at "dl"
  refine ⟨rfl, p, 6, _, rfl, hb, by omega, by decide, by decide, fun a o a0 a1 hb2 => ?_⟩
  have ex1 : Ex p O (setO O p o) := Ex.refl.set
  generalize setO O p o = O1 at hb2 ex1 ⊢
  walk_at "dw"
  refine if_d (fun e => ?_) (fun e => ?_)
  · walk_at "dl"
    exact rt_same (hq tinyH tinyS _ ex1 (hb2.mono (by omega)) .tiny)
  walk_at "dw"
  refine if_d (fun e1 => ?_) (fun e1 => ?_)
  · walk_at "dl"
    refine ⟨rfl, p, 3, _, rfl, hb2, by omega, by decide, by decide, fun v o2 v0 v1 hb3 => ?_⟩
    walk_at "dl"
    refine ⟨rfl, p, 1 + v, _, rfl, hb3, by omega, by omega, by omega, fun n o3 n0 n1 hb4 => ?_⟩
    walk_at "dl"
    refine ⟨rfl, p, 2, _, rfl, hb4, by omega, by decide, by decide, fun r o4 r0 r1 hb5 => ?_⟩
    walk_at "dl"
    refine ⟨rfl, (1 + v).toNat, (1 + n).toNat, (1 + r).toNat, ?_, by omega, by omega, by omega, by omega, by omega, by omega, ?_⟩
    · rw [show (((1 + v).toNat : Nat) : Int) = 1 + v by omega, show (((1 + n).toNat : Nat) : Int) = 1 + n by omega, show (((1 + r).toNat : Nat) : Int) = 1 + r by omega]
      rfl
    · exact rt_same (hq _ _ _ (((ex1.set).set).set) (hb5.mono (by omega)) (.vote (by omega) (by omega) (by omega) (by omega) (by omega) (by omega)))
  walk_at "dw"
  refine if_d (fun e2 => ?_) (fun e2 => ?_)
  · walk_at "dl"
    exact rt_same (hq flagH flagS _ ex1 (hb2.mono (by omega)) .flag)
  walk_at "dl"
  exact ⟨rfl, p, _, rfl, hb2, by omega, fun hs ss O' h1 h2 h3 h4 => rt_same (hq hs ss O' (ex1.trans h1) (h2.mono (by omega)) (.drawn h3 h4))⟩
end
end K62
set_option Elab.async false
set_option linter.all false
set_option maxRecDepth 100000
set_option maxHeartbeats 4000000
namespace K62
open PySem PySem.Spec PyProof.Rows L2 DL
open ClX (CRead CVal)
local macro_rules | `(tactic| walk_at "d1") => `(tactic| first | ((with_reducible apply i_var); exact rfl) | ((with_reducible apply i_gtup); exact rfl) | ((with_reducible apply i_augI); exact rfl) | ((with_reducible apply i_ixT); exact rfl) | ((with_reducible apply i_ixL); exact rfl) | with_reducible refine i_seq ?_ | with_reducible refine i_asg ?_ | with_reducible refine i_gname ?_ | with_reducible refine i_c ?_ | with_reducible refine i_op ?_ | with_reducible refine i_cb ?_ | with_reducible refine i_cons ?_ | with_reducible refine i_nil ?_ | with_reducible refine i_expr ?_ | with_reducible refine i_ret ?_ | with_reducible refine i_retN ?_ | with_reducible refine i_next ?_ | with_reducible refine i_for ?_ | with_reducible refine i_par ?_ | with_reducible refine i_test ?_ | with_reducible refine i_tup ?_ | with_reducible refine i_lst ?_ | ((with_reducible refine i_sz ?_ ?_); (focus exact Nat.le_of_ble_eq_true rfl)) | with_reducible refine i_lstO ?_ | with_reducible refine i_break ?_ | with_reducible refine i_cont ?_ | with_reducible refine i_gnil ?_ | with_reducible refine i_gcons ?_ | with_reducible refine i_tru ?_ | with_reducible refine i_and ?_ | with_reducible refine i_or ?_ | with_reducible refine i_not ?_ | with_reducible refine i_andV ?_ | with_reducible refine i_orV ?_ | with_reducible refine i_notV ?_ | with_reducible refine i_neg ?_ | with_reducible refine i_chain ?_ | with_reducible refine i_call ?_ | with_reducible refine i_callK ?_ | with_reducible refine i_append ?_ | with_reducible refine i_gsub ?_ | with_reducible refine i_sl ?_ | with_reducible refine i_slT ?_ | with_reducible refine i_slL ?_ | with_reducible refine i_oN ?_ | with_reducible refine i_oS ?_ | with_reducible refine i_lc ?_ | with_reducible refine i_lc2 ?_ | with_reducible refine i_lc2O ?_ | with_reducible refine i_lcO ?_ | with_reducible refine i_yes ?_ | with_reducible refine i_listRg1 ?_ | with_reducible refine i_rg1 ?_ | with_reducible refine i_rg2 ?_ | with_reducible refine i_seqI ?_ | with_reducible refine i_seqT ?_ | with_reducible refine i_seqL ?_ | with_reducible refine i_lt ?_ | with_reducible refine i_le ?_ | with_reducible refine i_gt ?_ | with_reducible refine i_ge ?_ | with_reducible refine i_sub ?_ | with_reducible refine i_addI ?_ | with_reducible refine i_int ?_ | with_reducible refine i_intb ?_ | with_reducible refine i_abs ?_ | with_reducible refine i_min2 ?_ | with_reducible refine i_max2 ?_ | with_reducible refine i_isN ?_ | with_reducible refine i_notN ?_ | with_reducible refine i_lenL ?_ | with_reducible refine i_lenT ?_ | ((with_reducible apply i_ixO); (focus (first | assumption | exact setO_same | (rw [setO_ne (by assumption)]; first | assumption | exact setO_same))); exact rfl) | ((with_reducible apply i_lenO); (focus (first | assumption | exact setO_same | (rw [setO_ne (by assumption)]; first | assumption | exact setO_same)))) | ((with_reducible apply i_appK); (focus (first | assumption | exact setO_same | (rw [setO_ne (by assumption)]; first | assumption | exact setO_same)))) | ((with_reducible apply i_subK); (focus (first | assumption | exact setO_same | (rw [setO_ne (by assumption)]; first | assumption | exact setO_same))); exact rfl) | ((with_reducible apply i_slO); (focus (first | assumption | exact setO_same | (rw [setO_ne (by assumption)]; first | assumption | exact setO_same)))) | ((with_reducible apply i_seqO); (focus (first | assumption | exact setO_same | (rw [setO_ne (by assumption)]; first | assumption | exact setO_same)))) | ((with_reducible apply i_appK2); (focus (first | assumption | exact setO_same | (rw [setO_ne (by assumption)]; first | assumption | exact setO_same)))) | with_reducible refine i_ice ?_ | with_reducible refine i_iceL ?_ | ((with_reducible apply i_iceK); (focus (first | assumption | exact setO_same | (rw [setO_ne (by assumption)]; first | assumption | exact setO_same)))) | with_reducible refine i_fld ?_ | ((with_reducible apply i_fldK); (focus (first | assumption | exact setO_same | (rw [setO_ne (by assumption)]; first | assumption | exact setO_same))); exact rfl) | with_reducible refine i_sfld ?_ | with_reducible refine i_make ?_ | with_reducible refine i_callK0 ?_ | with_reducible refine i_enum2 ?_ | with_reducible refine i_enumL ?_ | with_reducible refine i_enumT ?_ | with_reducible refine i_par3 ?_ | with_reducible refine i_dsp2 ?_ | ((with_reducible apply i_isi (b := true)); exact rfl; exact rfl; exact rfl) | ((with_reducible apply i_isi (b := false)); exact rfl; exact rfl; exact rfl) | with_reducible refine i_eqI ?_ | with_reducible refine i_neI ?_ | with_reducible refine i_truB ?_ | ((with_reducible apply i_fldI); exact rfl) | with_reducible refine i_iceI ?_ | with_reducible refine i_join ?_ | with_reducible refine i_dict0 ?_ | with_reducible refine i_isiI ?_ | with_reducible refine i_ownIn ?_ | with_reducible refine i_ownEq ?_ | with_reducible refine i_ownLen ?_ | with_reducible refine i_ownStr ?_ | with_reducible refine i_strS ?_ | with_reducible refine i_fmt ?_ | with_reducible refine i_pop ?_ | with_reducible refine i_listRg2 ?_ | with_reducible refine i_listRg2O ?_ | ((with_reducible apply i_popK); (focus (first | assumption | exact setO_same | (rw [setO_ne (by assumption)]; first | assumption | exact setO_same)))) | with_reducible refine i_raise ?_ | with_reducible refine i_tryAs ?_ | with_reducible refine i_xf ?_ | ((with_reducible apply i_xfK); exact rfl) | with_reducible refine i_js ?_ | with_reducible refine i_js0 ?_ | with_reducible refine i_makeK0 ?_ | with_reducible refine i_own ?_ | with_reducible refine i_ownT ?_ | with_reducible refine i_lenZ ?_ | with_reducible refine i_sortZ ?_ | with_reducible refine i_setL ?_ | with_reducible refine i_setLT ?_ | with_reducible refine i_sc ?_ | with_reducible refine i_setQ ?_ | with_reducible refine i_sc2 ?_ | with_reducible refine i_lenB ?_ | with_reducible refine i_bl ?_ | with_reducible refine i_tm ?_ | with_reducible refine i_lcnt ?_ | with_reducible refine i_setTI ?_ | ((with_reducible apply i_augL); exact rfl) | with_reducible refine i_scB ?_ | with_reducible refine i_key ?_ | with_reducible refine i_revL ?_ | with_reducible refine i_revT ?_ | with_reducible refine i_zip ?_ | with_reducible refine i_ltAI ?_ | with_reducible refine i_ltAS ?_ | with_reducible refine i_inRg1 ?_ | with_reducible refine i_inRg2 ?_ | with_reducible refine i_listRg1O ?_ | with_reducible refine i_tryM ?_ | with_reducible refine i_tryN ?_ | with_reducible refine i_upd ?_ | with_reducible refine i_mat ?_ | with_reducible refine i_matK ?_ | with_reducible refine i_mc0 ?_ | ((with_reducible apply i_mcY); (focus exact rfl)) | ((with_reducible apply i_mcN); (focus exact Nat.ne_of_beq_eq_false rfl)) | with_reducible refine i_ltT ?_ | with_reducible refine i_xi ?_ | with_reducible refine i_split ?_ | with_reducible refine i_count ?_ | with_reducible refine i_m0 ?_ | with_reducible refine i_m0K ?_ | with_reducible refine i_starA ?_ | with_reducible refine i_cm ?_ | with_reducible refine i_cmK ?_ | ((with_reducible apply i_makeL); exact rfl) | with_reducible refine i_int2I ?_ | with_reducible refine i_int2B ?_ | with_reducible refine i_clear ?_ | ((with_reducible apply i_clearK); (focus (first | assumption | exact setO_same | (rw [setO_ne (by assumption)]; first | assumption | exact setO_same)))) | with_reducible refine i_meth ?_ | with_reducible refine i_methM ?_ | ((with_reducible apply i_methKwO); (focus (first | assumption | exact setO_same | (rw [setO_ne (by assumption)]; first | assumption | exact setO_same))); exact rfl) | with_reducible refine i_extend ?_ | with_reducible refine i_lam ?_ | with_reducible refine i_dput ?_ | with_reducible refine i_dict0N ?_ | with_reducible refine i_dict1 ?_ | with_reducible refine i_disp2 ?_ | with_reducible refine i_disp3 ?_ | with_reducible refine i_dispN ?_ | with_reducible refine i_goC ?_ | ((with_reducible apply i_goK); exact rfl) | with_reducible refine i_goN ?_ | with_reducible refine i_setd ?_ | with_reducible refine i_idxL ?_ | with_reducible refine i_ixLK ?_ | with_reducible refine i_dc ?_ | with_reducible refine i_dct ?_ | with_reducible refine i_ckw ?_ | with_reducible refine i_iceA ?_ | with_reducible refine i_get2 ?_ | with_reducible refine i_get1 ?_ | with_reducible refine i_prop ?_ | with_reducible refine i_propI ?_ | ((with_reducible apply i_methI); exact rfl) | ((with_reducible apply i_methO); (focus (first | assumption | exact setO_same | (rw [setO_ne (by assumption)]; first | assumption | exact setO_same))); exact rfl))
local macro_rules | `(tactic| walk_at "dl") => `(tactic| repeat (walk_at "d1"))
local macro_rules | `(tactic| walk_at "dw") => `(tactic| repeat (first | with_reducible refine i_if ?_ | with_reducible refine i_ifE ?_ | walk_at "d1"))
section
variable {P : Program} {w : World} {K : Frag} {mg : Str → Option Value} {base : Heap}
def lgE (rs : List D) : D → List D → Bool
  | pl, [] => !isRw pl
  | pl, d :: es => isRw pl && bitB d && (match d with | .int b => lgE rs (nxD rs pl b) es | _ => false)
def lgD (rs : List D) (pl : D) : D → Bool
  | .tup es => lgE rs pl es
  | _ => false
theorem lgE_bits (rs : List D) : ∀ (u : List Int) (pl : D), bits u → lgE rs pl (u.map D.int) = lgP rs pl u
  | [], pl, _ => rfl
  | b :: u, pl, hb => by
    have h0 := hb b List.mem_cons_self
    have ih := lgE_bits rs u (nxD rs pl b) fun x hx => hb x (List.mem_cons_of_mem _ hx)
    have e : bitB (.int b) = true := by rcases h0 with rfl | rfl <;> rfl
    show (isRw pl && bitB (.int b) && lgE rs (nxD rs pl b) (u.map D.int)) = (isRw pl && lgP rs (nxD rs pl b) u)
    rw [ih, e, Bool.and_true]
def f_is_row : DF := fun ds O q _ => ∃ d, ds = [d] ∧ ((∃ s, d = .str s) ∨ ∃ i : Int, d = .int i) ∧ q (.bl (isRw d)) O
abbrev N_is_row : List Str := ["place"]
abbrev P_is_row : List Str := ["place"]
theorem sc_is_row : FnScope N_is_row P_is_row (defScope s_is_row) := ⟨rfl, rfl, rfl, by decide +kernel, rfl, by decide +kernel, by decide +kernel⟩
theorem bd_is_row : Bd0 "is_row" "is_row" s_is_row P_is_row := fun _ _ _ _ _ _ us hl => match us, hl with | [_], _ => rfl
abbrev Fn_is_row (P : Program) (w : World) (K : Frag) (mg : Str → Option Value) (base : Heap) : Prop := Fn P w K mg base "is_row" "is_row" s_is_row [] [] P_is_row 1 1 f_is_row (He.ga K "is_row")
theorem ok_is_row {P : Program} {w : World} {K : Frag} {mg : Str → Option Value} {base : Heap} (F : HasD K "is_row" "is_row" s_is_row [] [] (He.ga K "is_row")) (T : Txt K mg) : Fn_is_row P w K mg base := by
  have sc := sc_is_row
  refine fn_E (k := 0) F sc rfl fun cdv A outer s H E O0 H0 F0 ds O q xx hl hf S => ⟨_,
      (ds_one (ds_ret (so_isi S rfl T.b_isinstance (da_cons (de_var (pv 0)) (da_cons (so_ty (n := "int") rfl T.b_int) da_nil)))))
      , ?_⟩
  obtain ⟨d, rfl, h, hq⟩ := hf
  rcases h with ⟨s, rfl⟩ | ⟨i, rfl⟩
  · walk_at "dl"
    exact rt_same hq
  · walk_at "dl"
    exact rt_same hq
theorem pl_row {n : Int} {ws : List Str} {d : D} (h : plB n ws d = true) : (∃ s, d = .str s) ∨ ∃ i : Int, d = .int i := by
  rcases plB_cases h with ⟨i, rfl, _⟩ | ⟨s, rfl, _⟩
  · exact .inr ⟨i, rfl⟩
  · exact .inl ⟨s, rfl⟩
/-- the machine of a start, and its first row -/
def mSt (hs ss : List D) (k : Nat) : List D := if k = 2 then ss else hs
def rSt (k : Nat) : Int := if k = 1 then 1 else 0
def sSt (k : Nat) : Str := if k = 0 then "right" else if k = 1 then "wrong" else "sender"
def wSt (k : Nat) : List Str := if k = 2 then wSend else wHear
theorem st_ok {hs ss : List D} (so : Sound hs ss) {k : Nat} (h : k < 3) : Mach (wSt k) (mSt hs ss k) ∧ plB (mSt hs ss k).length (wSt k) (.int (rSt k)) = true := by
  have l1 := so.h1
  have l3 := so.s1
  match k, h with
  | 0, _ => exact ⟨so.hm, by show plB hs.length wHear (.int 0) = true; simp [plB]; omega⟩
  | 1, _ => exact ⟨so.hm, by show plB hs.length wHear (.int 1) = true; simp [plB]; omega⟩
  | 2, _ => exact ⟨so.sm, by show plB ss.length wSend (.int 0) = true; simp [plB]; omega⟩
theorem kit_ne {t : String} (h : t ≠ "tuple") : kitT t "tuple" = false := by
  unfold kitT
  rw [Bool.or_eq_false_iff]
  exact ⟨beq_eq_false_iff_ne.mpr h, by simp⟩
theorem sSt_2 {k : Nat} (hk : k < 3) (h : sSt k = "sender") : k = 2 := by
  rcases (show k = 0 ∨ k = 1 ∨ k = 2 by omega) with rfl | rfl | rfl
  · exact absurd h (by decide +kernel)
  · exact absurd h (by decide +kernel)
  · rfl
theorem bitB_int {d : D} (h : bitB d = true) : ∃ b : Int, d = .int b ∧ (b = 0 ∨ b = 1) := by
  cases d <;> simp [bitB] at h
  exact ⟨_, rfl, h⟩
def f_is_log (K : Frag) : DF := fun ds O q _ => ∃ (k : Nat) (hs ss : List D) (d : D), ds = [endD (He.ga K "End") hs ss, .str (sSt k), d] ∧ k < 3 ∧ Sound hs ss ∧ (good d = true ∨ ∃ t, tyN O d = some t ∧ t ≠ "tuple") ∧ q (.bl (lgD (mSt hs ss k) (.int (rSt k)) d)) O
abbrev N_is_log : List Str := ["end", "start", "bits", "machine", "place", "bit"]
abbrev P_is_log : List Str := ["end", "start", "bits"]
theorem sc_is_log : FnScope N_is_log P_is_log (defScope s_is_log) := ⟨rfl, rfl, rfl, by decide +kernel, rfl, by decide +kernel, by decide +kernel⟩
theorem bd_is_log : Bd0 "is_log" "is_log" s_is_log P_is_log := fun _ _ _ _ _ _ us hl => match us, hl with | [_, _, _], _ => rfl
abbrev Fn_is_log (P : Program) (w : World) (K : Frag) (mg : Str → Option Value) (base : Heap) : Prop := Fn P w K mg base "is_log" "is_log" s_is_log [] [] P_is_log 3 3 (f_is_log K) (He.ga K "is_log")
structure C_is_log (P : Program) (w : World) (K : Frag) (mg : Str → Option Value) (base : Heap) : Prop where
  End_hearer : Fn_End_hearer P w K mg base
  End_sender : Fn_End_sender P w K mg base
  is_bit : Fn_is_bit P w K mg base
  is_row : Fn_is_row P w K mg base
theorem ok_is_log {P : Program} {w : World} {K : Frag} {mg : Str → Option Value} {base : Heap} (F : HasD K "is_log" "is_log" s_is_log [] [] (He.ga K "is_log")) (T : Txt K mg) (C : C_is_log P w K mg base) : Fn_is_log P w K mg base := by
  have sc := sc_is_log
  refine fn_E (k := 2) F sc rfl fun cdv A outer s H E O0 H0 F0 ds O q xx hl hf S => ⟨_,
      (ds_cons (ds_if (dt_not (st_tru S (so_isi S rfl T.b_isinstance (da_cons (de_var (pv 2)) (da_cons (so_ty (n := "tuple") rfl T.b_tuple) da_nil)))))
       (ds_one (ds_ret de_bl))
       ds_nil)
      (ds_cons (ds_par (ps_par (i := 3) (j := 4) rfl sc.nd rfl rfl (by decide) rfl rfl (da_cons (de_if (st_eq S (de_var (pv 1)) de_str) (so_propE S (by decide) T.c_End T.p_End_sender C.End_sender (de_var (pv 0))) (so_propE S (by decide) T.c_End T.p_End_hearer C.End_hearer (de_var (pv 0)))) (da_cons (so_int S rfl T.b_int (da_cons (so_eq S (de_var (pv 1)) de_str) da_nil)) da_nil)) (by rfl)))
      (ds_cons (ds_for (ps_for S.po rfl (di_seq S (de_var (pv 2))) (dg_name (pg_name (i := 5) sc.nd rfl (by first | exact Or.inl rfl | exact Or.inr rfl)))
       (ds_cons (ds_if (PW.pt (dw_or (dt_not (st_tru S (so_callF S C.is_row (by decide) T.g_is_row bd_is_row rfl (da_cons (de_var (pv 4)) da_nil)))) (dw_or1 (dt_not (st_tru S (so_callF S C.is_bit (by decide) T.g_is_bit bd_is_bit rfl (da_cons (de_var (pv 5)) da_nil)))))))
        (ds_one (ds_ret de_bl))
        ds_nil)
       (ds_one (ds_set (ps_set (i := 4) sc.nd rfl (by first | exact Or.inl rfl | exact Or.inr rfl) (so_ix S (so_ix S (de_var (pv 3)) (de_var (pv 4)) (fun _ _ => rfl)) (so_add S de_int (de_var (pv 5))) (fun _ _ => rfl))))))))
      (ds_one (ds_ret (de_not (so_callF S C.is_row (by decide) T.g_is_row bd_is_row rfl (da_cons (de_var (pv 4)) da_nil))))))))
      , ?_⟩
  obtain ⟨k, hs, ss, d, rfl, hk, so, hd, hq⟩ := hf
  obtain ⟨hm, hf⟩ := st_ok so hk
  have gk : strGood (sSt k) = true := by
    rcases (show k = 0 ∨ k = 1 ∨ k = 2 by omega) with rfl | rfl | rfl <;> decide +kernel
  walk_at "dw"
  have notT : ∀ t, tyN O d = some t → t ≠ "tuple" → lgD (mSt hs ss k) (.int (rSt k)) d = false := fun t e n => by
    cases d <;> try rfl
    exact absurd (Option.some.inj e).symm n
  rcases hd with hd | ⟨t, e, hn⟩
  case inr =>
    refine i_isi (b := false) e rfl (kit_ne hn) ?_
    refine ⟨false, rfl, ?_⟩
    refine iteT ?_
    walk_at "dw"
    rw [notT t e hn] at hq
    exact rt_same hq
  cases d with
  | tup es =>
    walk_at "dw"
    refine iteF ?_
    refine i_next ?_
    walk_at "dl"
    refine joinO (fun d O' => d = .tup (mSt hs ss k) ∧ O = O') ?_ fun q' hq' => ?_
    case refine_2 =>
      walk_at "dw"
      refine i_eqS gk (by decide +kernel) ?_
      walk_at "dw"
      refine if_d (fun h => ?_) (fun h => ?_)
      · walk_at "dl"
        refine hq' _ _ ⟨?_, rfl⟩
        have : k = 2 := sSt_2 hk h
        subst this
        rfl
      · walk_at "dl"
        refine hq' _ _ ⟨?_, rfl⟩
        have : k ≠ 2 := fun z => h (by rw [z]; rfl)
        unfold mSt
        rw [if_neg this]
    rintro _ _ ⟨rfl, rfl⟩
    walk_at "dw"
    refine i_eqS gk (by decide +kernel) ?_
    walk_at "dw"
    rw [show (if decide (sSt k = "wrong") = true then (1 : Int) else 0) = rSt k from by
      rcases (show k = 0 ∨ k = 1 ∨ k = 2 by omega) with rfl | rfl | rfl <;> decide +kernel]
    generalize hrs : mSt hs ss k = rs at hm hf hq
    generalize hpl : D.int (rSt k) = pl0 at hf hq
    have hq : q (.bl (lgE rs pl0 es)) O := hq
    walk_at "dw"
    refine forGo_inv (fun i env O' => ∃ (pl : D) (x5 : Option D), env = [some (endD (He.ga K "End") hs ss), some (.str (sSt k)), some (.tup es), some (.tup rs), some pl, x5] ∧ plB rs.length (wSt k) pl = true ∧ lgE rs pl0 es = lgE rs pl (es.drop i) ∧ O' = O)
      ⟨pl0, _, rfl, hf, rfl, rfl⟩ (fun _ _ _ _ _ => trivial) ?_ ?_
    · rintro N i y env O2 hy ⟨pl, x5, rfl, hp, he, rfl⟩ hN
      have hi := (List.getElem?_eq_some_iff.mp hy).1
      have ed : es.drop i = y :: es.drop (i + 1) := by
        rw [List.drop_eq_getElem_cons hi]
        congr 1
        exact (List.getElem?_eq_some_iff.mp hy).2
      have gy : good y = true := good_tup hd y (List.mem_of_getElem? hy)
      walk_at "dw"
      refine ⟨rfl, pl, rfl, pl_row hp, ?_⟩
      refine ⟨isRw pl, rfl, ?_⟩
      rw [ed] at he
      rcases plB_cases hp with ⟨c, rfl, c0, c1⟩ | ⟨s, rfl, hs⟩
      case inr =>
        refine iteT ?_
        refine iteT ?_
        walk_at "dw"
        rw [he, show lgE rs (.str s) (y :: es.drop (i + 1)) = (isRw (.str s) && _ && _) from rfl] at hq
        exact rt_same hq
      refine iteF ?_
      walk_at "dw"
      refine ⟨rfl, y, rfl, gy, ?_⟩
      refine ⟨bitB y, rfl, ?_⟩
      cases hb : bitB y with
      | false =>
        refine iteT ?_
        walk_at "dw"
        rw [he, show lgE rs (.int c) (y :: es.drop (i + 1)) = (isRw (.int c) && bitB y && _) from rfl, hb] at hq
        exact rt_same hq
      | true =>
        refine iteF ?_
        refine i_next ?_
        obtain ⟨b, rfl, hbb⟩ := bitB_int hb
        obtain ⟨a1, a2, a3, ea, _, pa2, pa3, ia⟩ := row_at hm c0 c1
        have ja : atI [.int a1, a2, a3] (1 + b) = some (nxD rs (.int c) b) := by
          have : nxD rs (.int c) b = if b = 0 then a2 else a3 := by simp only [nxD, ea]
          rw [this]
          rcases hbb with rfl | rfl <;> rfl
        walk_at "dw"
        refine i_ixT ia ?_
        walk_at "dw"
        refine i_ixT ja ?_
        walk_at "dw"
        refine hN _ _ _ (.refl _) ⟨_, _, rfl, nx_pl hm hp b, ?_, rfl⟩
        rw [he]
        show (isRw (.int c) && bitB (.int b) && lgE rs (nxD rs (.int c) b) (es.drop (i + 1))) = _
        rw [hb]
        rfl
    · rintro env O2 ⟨pl, x5, rfl, hp, he, rfl⟩
      walk_at "dw"
      refine ⟨rfl, pl, rfl, pl_row hp, ?_⟩
      rw [List.drop_length] at he
      rw [show lgE rs pl [] = !isRw pl from rfl] at he
      rw [he] at hq
      exact rt_same hq
  | _ =>
    first
      | (refine i_isi (b := false) rfl rfl rfl ?_
         refine ⟨false, rfl, ?_⟩
         refine iteT ?_
         walk_at "dw"
         exact rt_same hq)
      | simp [good, pd] at hd
end
end K62
set_option Elab.async false
set_option linter.all false
set_option maxRecDepth 100000
set_option maxHeartbeats 4000000
namespace K62
open PySem PySem.Spec PyProof.Rows L2 DL
open ClX (CRead CVal)
local macro_rules | `(tactic| walk_at "d1") => `(tactic| first | ((with_reducible apply i_var); exact rfl) | ((with_reducible apply i_gtup); exact rfl) | ((with_reducible apply i_augI); exact rfl) | ((with_reducible apply i_ixT); exact rfl) | ((with_reducible apply i_ixL); exact rfl) | with_reducible refine i_seq ?_ | with_reducible refine i_asg ?_ | with_reducible refine i_gname ?_ | with_reducible refine i_c ?_ | with_reducible refine i_op ?_ | with_reducible refine i_cb ?_ | with_reducible refine i_cons ?_ | with_reducible refine i_nil ?_ | with_reducible refine i_expr ?_ | with_reducible refine i_ret ?_ | with_reducible refine i_retN ?_ | with_reducible refine i_next ?_ | with_reducible refine i_for ?_ | with_reducible refine i_par ?_ | with_reducible refine i_test ?_ | with_reducible refine i_tup ?_ | with_reducible refine i_lst ?_ | ((with_reducible refine i_sz ?_ ?_); (focus exact Nat.le_of_ble_eq_true rfl)) | with_reducible refine i_lstO ?_ | with_reducible refine i_break ?_ | with_reducible refine i_cont ?_ | with_reducible refine i_gnil ?_ | with_reducible refine i_gcons ?_ | with_reducible refine i_tru ?_ | with_reducible refine i_and ?_ | with_reducible refine i_or ?_ | with_reducible refine i_not ?_ | with_reducible refine i_andV ?_ | with_reducible refine i_orV ?_ | with_reducible refine i_notV ?_ | with_reducible refine i_neg ?_ | with_reducible refine i_chain ?_ | with_reducible refine i_call ?_ | with_reducible refine i_callK ?_ | with_reducible refine i_append ?_ | with_reducible refine i_gsub ?_ | with_reducible refine i_sl ?_ | with_reducible refine i_slT ?_ | with_reducible refine i_slL ?_ | with_reducible refine i_oN ?_ | with_reducible refine i_oS ?_ | with_reducible refine i_lc ?_ | with_reducible refine i_lc2 ?_ | with_reducible refine i_lc2O ?_ | with_reducible refine i_lcO ?_ | with_reducible refine i_yes ?_ | with_reducible refine i_listRg1 ?_ | with_reducible refine i_rg1 ?_ | with_reducible refine i_rg2 ?_ | with_reducible refine i_seqI ?_ | with_reducible refine i_seqT ?_ | with_reducible refine i_seqL ?_ | with_reducible refine i_lt ?_ | with_reducible refine i_le ?_ | with_reducible refine i_gt ?_ | with_reducible refine i_ge ?_ | with_reducible refine i_sub ?_ | with_reducible refine i_addI ?_ | with_reducible refine i_int ?_ | with_reducible refine i_intb ?_ | with_reducible refine i_abs ?_ | with_reducible refine i_min2 ?_ | with_reducible refine i_max2 ?_ | with_reducible refine i_isN ?_ | with_reducible refine i_notN ?_ | with_reducible refine i_lenL ?_ | with_reducible refine i_lenT ?_ | ((with_reducible apply i_ixO); (focus (first | assumption | exact setO_same | (rw [setO_ne (by assumption)]; first | assumption | exact setO_same))); exact rfl) | ((with_reducible apply i_lenO); (focus (first | assumption | exact setO_same | (rw [setO_ne (by assumption)]; first | assumption | exact setO_same)))) | ((with_reducible apply i_appK); (focus (first | assumption | exact setO_same | (rw [setO_ne (by assumption)]; first | assumption | exact setO_same)))) | ((with_reducible apply i_subK); (focus (first | assumption | exact setO_same | (rw [setO_ne (by assumption)]; first | assumption | exact setO_same))); exact rfl) | ((with_reducible apply i_slO); (focus (first | assumption | exact setO_same | (rw [setO_ne (by assumption)]; first | assumption | exact setO_same)))) | ((with_reducible apply i_seqO); (focus (first | assumption | exact setO_same | (rw [setO_ne (by assumption)]; first | assumption | exact setO_same)))) | ((with_reducible apply i_appK2); (focus (first | assumption | exact setO_same | (rw [setO_ne (by assumption)]; first | assumption | exact setO_same)))) | with_reducible refine i_ice ?_ | with_reducible refine i_iceL ?_ | ((with_reducible apply i_iceK); (focus (first | assumption | exact setO_same | (rw [setO_ne (by assumption)]; first | assumption | exact setO_same)))) | with_reducible refine i_fld ?_ | ((with_reducible apply i_fldK); (focus (first | assumption | exact setO_same | (rw [setO_ne (by assumption)]; first | assumption | exact setO_same))); exact rfl) | with_reducible refine i_sfld ?_ | with_reducible refine i_make ?_ | with_reducible refine i_callK0 ?_ | with_reducible refine i_enum2 ?_ | with_reducible refine i_enumL ?_ | with_reducible refine i_enumT ?_ | with_reducible refine i_par3 ?_ | with_reducible refine i_dsp2 ?_ | ((with_reducible apply i_isi (b := true)); exact rfl; exact rfl; exact rfl) | ((with_reducible apply i_isi (b := false)); exact rfl; exact rfl; exact rfl) | with_reducible refine i_eqI ?_ | with_reducible refine i_neI ?_ | with_reducible refine i_truB ?_ | ((with_reducible apply i_fldI); exact rfl) | with_reducible refine i_iceI ?_ | with_reducible refine i_join ?_ | with_reducible refine i_dict0 ?_ | with_reducible refine i_isiI ?_ | with_reducible refine i_ownIn ?_ | with_reducible refine i_ownEq ?_ | with_reducible refine i_ownLen ?_ | with_reducible refine i_ownStr ?_ | with_reducible refine i_strS ?_ | with_reducible refine i_fmt ?_ | with_reducible refine i_pop ?_ | with_reducible refine i_listRg2 ?_ | with_reducible refine i_listRg2O ?_ | ((with_reducible apply i_popK); (focus (first | assumption | exact setO_same | (rw [setO_ne (by assumption)]; first | assumption | exact setO_same)))) | with_reducible refine i_raise ?_ | with_reducible refine i_tryAs ?_ | with_reducible refine i_xf ?_ | ((with_reducible apply i_xfK); exact rfl) | with_reducible refine i_js ?_ | with_reducible refine i_js0 ?_ | with_reducible refine i_makeK0 ?_ | with_reducible refine i_own ?_ | with_reducible refine i_ownT ?_ | with_reducible refine i_lenZ ?_ | with_reducible refine i_sortZ ?_ | with_reducible refine i_setL ?_ | with_reducible refine i_setLT ?_ | with_reducible refine i_sc ?_ | with_reducible refine i_setQ ?_ | with_reducible refine i_sc2 ?_ | with_reducible refine i_lenB ?_ | with_reducible refine i_bl ?_ | with_reducible refine i_tm ?_ | with_reducible refine i_lcnt ?_ | with_reducible refine i_setTI ?_ | ((with_reducible apply i_augL); exact rfl) | with_reducible refine i_scB ?_ | with_reducible refine i_key ?_ | with_reducible refine i_revL ?_ | with_reducible refine i_revT ?_ | with_reducible refine i_zip ?_ | with_reducible refine i_ltAI ?_ | with_reducible refine i_ltAS ?_ | with_reducible refine i_inRg1 ?_ | with_reducible refine i_inRg2 ?_ | with_reducible refine i_listRg1O ?_ | with_reducible refine i_tryM ?_ | with_reducible refine i_tryN ?_ | with_reducible refine i_upd ?_ | with_reducible refine i_mat ?_ | with_reducible refine i_matK ?_ | with_reducible refine i_mc0 ?_ | ((with_reducible apply i_mcY); (focus exact rfl)) | ((with_reducible apply i_mcN); (focus exact Nat.ne_of_beq_eq_false rfl)) | with_reducible refine i_ltT ?_ | with_reducible refine i_xi ?_ | with_reducible refine i_split ?_ | with_reducible refine i_count ?_ | with_reducible refine i_m0 ?_ | with_reducible refine i_m0K ?_ | with_reducible refine i_starA ?_ | with_reducible refine i_cm ?_ | with_reducible refine i_cmK ?_ | ((with_reducible apply i_makeL); exact rfl) | with_reducible refine i_int2I ?_ | with_reducible refine i_int2B ?_ | with_reducible refine i_clear ?_ | ((with_reducible apply i_clearK); (focus (first | assumption | exact setO_same | (rw [setO_ne (by assumption)]; first | assumption | exact setO_same)))) | with_reducible refine i_meth ?_ | with_reducible refine i_methM ?_ | ((with_reducible apply i_methKwO); (focus (first | assumption | exact setO_same | (rw [setO_ne (by assumption)]; first | assumption | exact setO_same))); exact rfl) | with_reducible refine i_extend ?_ | with_reducible refine i_lam ?_ | with_reducible refine i_dput ?_ | with_reducible refine i_dict0N ?_ | with_reducible refine i_dict1 ?_ | with_reducible refine i_disp2 ?_ | with_reducible refine i_disp3 ?_ | with_reducible refine i_dispN ?_ | with_reducible refine i_goC ?_ | ((with_reducible apply i_goK); exact rfl) | with_reducible refine i_goN ?_ | with_reducible refine i_setd ?_ | with_reducible refine i_idxL ?_ | with_reducible refine i_ixLK ?_ | with_reducible refine i_dc ?_ | with_reducible refine i_dct ?_ | with_reducible refine i_ckw ?_ | with_reducible refine i_iceA ?_ | with_reducible refine i_get2 ?_ | with_reducible refine i_get1 ?_ | with_reducible refine i_prop ?_ | with_reducible refine i_propI ?_ | ((with_reducible apply i_methI); exact rfl) | ((with_reducible apply i_methO); (focus (first | assumption | exact setO_same | (rw [setO_ne (by assumption)]; first | assumption | exact setO_same))); exact rfl))
local macro_rules | `(tactic| walk_at "dl") => `(tactic| repeat (walk_at "d1"))
local macro_rules | `(tactic| walk_at "dw") => `(tactic| repeat (first | with_reducible refine i_if ?_ | with_reducible refine i_ifE ?_ | walk_at "d1"))
section
variable {P : Program} {w : World} {K : Frag} {mg : Str → Option Value} {base : Heap}
def lgV : Option (List Int) → D
  | none => .non
  | some u => .tup (u.map D.int)
def fauD (p : Int × Int) : D := .tup [.int p.1, .int p.2]
def fpD (x : Fau × List D) : D := .tup [.tup (x.1.map fauD), .tup x.2]
/-- what a question keeps to -/
structure XOk (X : Exq) : Prop where
  so : Sound X.hs X.ss
  l1 : 1 ≤ X.logs.length
  l8 : X.logs.length ≤ 8
  bt : ∀ u, some u ∈ X.logs → bits u ∧ u.length ≤ 1000
def xFirst (X : Exq) (i : Nat) : List (Fau × List D) := (List.range i).foldl (fun f j => X.fstep f (j + 1)) [([], [.int 0])]
theorem xFirst_succ (X : Exq) (i : Nat) : xFirst X (i + 1) = X.fstep (xFirst X i) (i + 1) := by
  unfold xFirst
  rw [List.range_succ, List.foldl_append]
  rfl
def xPart (X : Exq) (found : List (Fau × List D)) (k r : Nat) : List (Fau × List D) := (if 1 ≤ r then (if X.okS k 0 then found.map (Exq.addF k 0) else []) else []) ++ (if 2 ≤ r then (if X.okS k 1 then found.map (Exq.addF k 1) else []) else [])
theorem xFirst_len (X : Exq) : ∀ i, (xFirst X i).length ≤ 2 ^ i
  | 0 => Nat.le_refl _
  | i + 1 => by
    rw [xFirst_succ, Nat.pow_succ]
    have := xFirst_len X i
    unfold Exq.fstep
    rw [List.length_append]
    split <;> split <;> simp <;> omega
theorem good_lgV {o : Option (List Int)} : good (lgV o) = true := by
  cases o with
  | none => exact good_non
  | some u =>
    exact good_tupI fun d hd => by
      obtain ⟨b, _, rfl⟩ := List.mem_map.mp hd
      exact ⟨good_int b, by simp [py, PyData.depth]⟩
theorem log_at {X : Exq} {k : Nat} (hk : k < X.logs.length) : atI (X.logs.map lgV) (k : Int) = some (lgV (X.log k)) := by
  obtain ⟨d, e1, e2⟩ := atI_in (ds := X.logs.map lgV) (i := (k : Int)) (by omega) (by simp; omega)
  rw [e2, ← e1, Int.toNat_natCast, List.getElem?_map]
  unfold Exq.log
  rw [List.getElem?_eq_getElem hk]
  rfl
theorem log_mem {X : Exq} {k : Nat} {u : List Int} (h : X.log k = some u) : some u ∈ X.logs := by
  unfold Exq.log at h
  cases e : X.logs[k]? with
  | none => rw [e] at h; cases h
  | some o => rw [e] at h; exact h ▸ List.mem_of_getElem? e
theorem joinB {t : DTT} {env : DL.Env} {O : Ow} {k : Bool → Ow → Prop} (P : Bool → Ow → Prop) (h1 : ∀ b O', P b O' → k b O') (h2 : ∀ k' : Bool → Ow → Prop, (∀ b O', P b O' → k' b O') → t env O k') : t env O k := h2 k h1
theorem okS_log {X : Exq} (ok : XOk X) {k r : Nat} {u : List Int} (h : X.log k = some u) {s : Nat} (e : mSt X.hs X.ss s = X.m k) (e2 : rSt s = (r : Int)) : lgD (mSt X.hs X.ss s) (.int (rSt s)) (lgV (some u)) = X.okS k r := by
  show lgE _ _ (u.map D.int) = _
  rw [lgE_bits _ _ _ (ok.bt u (log_mem h)).1, e, e2]
  unfold Exq.okS
  rw [h]
theorem zs_at62 {lo hi b : Int} {s : Nat} (h : (zs lo hi)[s]? = some b) : b = lo + s := by
  simp only [zs, List.getElem?_map, Option.map_eq_some_iff] at h
  obtain ⟨k, hk, rfl⟩ := h
  obtain ⟨_, e⟩ := List.getElem?_eq_some_iff.mp hk
  rw [List.getElem_range] at e
  rw [e]
theorem xPart_no {X : Exq} {f : List (Fau × List D)} {k r : Nat} (hr : r < 2) (h : X.okS k r = false) : xPart X f k (r + 1) = xPart X f k r := by
  rcases (show r = 0 ∨ r = 1 by omega) with rfl | rfl
  · simp [xPart, h]
  · simp [xPart, h]
theorem xPart_yes {X : Exq} {f : List (Fau × List D)} {k r : Nat} (hr : r < 2) (h : X.okS k r = true) : xPart X f k (r + 1) = xPart X f k r ++ f.map (Exq.addF k r) := by
  rcases (show r = 0 ∨ r = 1 by omega) with rfl | rfl
  · simp [xPart, h]
  · simp [xPart, h]
theorem xPart_len (X : Exq) (f : List (Fau × List D)) (k r : Nat) : (xPart X f k r).length ≤ 2 * f.length := by
  unfold xPart
  rw [List.length_append]
  split <;> split <;> (try split) <;> (try split) <;> simp <;> omega
theorem xFirst_mem (X : Exq) : ∀ (i : Nat) (x : Fau × List D), x ∈ xFirst X i → x.1.length ≤ i ∧ x.2.length = i + 1
  | 0, x, h => by
    rw [List.mem_singleton.mp h]
    exact ⟨Nat.le_refl _, rfl⟩
  | i + 1, x, h => by
    rw [xFirst_succ] at h
    have key : ∀ r y, y ∈ (if X.okS (i + 1) r then (xFirst X i).map (Exq.addF (i + 1) r) else []) → y.1.length ≤ i + 1 ∧ y.2.length = i + 1 + 1 := fun r y hy => by
      split at hy
      · obtain ⟨z, hz, rfl⟩ := List.mem_map.mp hy
        obtain ⟨a, b⟩ := xFirst_mem X i z hz
        unfold Exq.addF
        refine ⟨?_, by simp [b]⟩
        rw [List.length_append]
        split <;> simp <;> omega
      · cases hy
    rcases List.mem_append.mp h with h | h
    · exact key 0 x h
    · exact key 1 x h
def f_first_places (K : Frag) : DF := fun ds O q _ => ∃ X : Exq, ds = [endD (He.ga K "End") X.hs X.ss, .lst (X.logs.map lgV)] ∧ XOk X ∧ ∀ O', SubO O O' → q (.lst (X.first.map fpD)) O'
abbrev N_first_places : List Str := ["end", "logs", "found", "station", "longer", "row", "start", "fault", "faults", "places"]
abbrev P_first_places : List Str := ["end", "logs"]
theorem sc_first_places : FnScope N_first_places P_first_places (defScope s_first_places) := ⟨rfl, rfl, rfl, by decide +kernel, rfl, by decide +kernel, by decide +kernel⟩
theorem bd_first_places : Bd0 "first_places" "first_places" s_first_places P_first_places := fun _ _ _ _ _ _ us hl => match us, hl with | [_, _], _ => rfl
abbrev Fn_first_places (P : Program) (w : World) (K : Frag) (mg : Str → Option Value) (base : Heap) : Prop := Fn P w K mg base "first_places" "first_places" s_first_places [] [] P_first_places 2 4 (f_first_places K) (He.ga K "first_places")
structure C_first_places (P : Program) (w : World) (K : Frag) (mg : Str → Option Value) (base : Heap) : Prop where
  is_log : Fn_is_log P w K mg base
theorem ok_first_places {P : Program} {w : World} {K : Frag} {mg : Str → Option Value} {base : Heap} (F : HasD K "first_places" "first_places" s_first_places [] [] (He.ga K "first_places")) (T : Txt K mg) (C : C_first_places P w K mg base) : Fn_first_places P w K mg base := by
  have sc := sc_first_places
  refine fn_E (k := 3) F sc rfl fun cdv A outer s H E O0 H0 F0 ds O q xx hl hf S => ⟨_,
      (ds_cons (ds_if (PW.pt (dw_and (st_isnot S (so_ix S (de_var (pv 1)) de_int (fun _ _ => rfl)) de_non) (dw_and1 (dt_not (st_tru S (so_callF S C.is_log (by decide) T.g_is_log bd_is_log rfl (da_cons (de_var (pv 0)) (da_cons de_str (da_cons (so_ix S (de_var (pv 1)) de_int (fun _ _ => rfl)) da_nil)))))))))
       (ds_one (ds_ret (de_ice (de_lst da_nil))))
       ds_nil)
      (ds_cons (ds_set (ps_set (i := 2) sc.nd rfl (by first | exact Or.inl rfl | exact Or.inr rfl) (de_lstO (da_cons (de_tup (da_cons (de_tup da_nil) (da_cons (de_tup (da_cons de_int da_nil)) da_nil))) da_nil))))
      (ds_cons (ds_for (ps_for S.po rfl (di_range2 rfl T.b_range (da_cons de_int (da_cons (so_len S rfl T.b_len (da_cons (de_var (pv 1)) da_nil)) da_nil))) (dg_name (pg_name (i := 3) sc.nd rfl (by first | exact Or.inl rfl | exact Or.inr rfl)))
       (ds_cons (ds_set (ps_set (i := 4) sc.nd rfl (by first | exact Or.inl rfl | exact Or.inr rfl) (de_lstO da_nil)))
       (ds_cons (ds_for (ps_for S.po rfl (di_enum S rfl T.b_enumerate (de_lst (da_cons de_str (da_cons de_str da_nil)))) (dg_tup rfl rfl (dgs_cons (dg_name (pg_name (i := 5) sc.nd rfl (by first | exact Or.inl rfl | exact Or.inr rfl))) (dgs_cons (dg_name (pg_name (i := 6) sc.nd rfl (by first | exact Or.inl rfl | exact Or.inr rfl))) dgs_nil)))
        (ds_one (ds_if (PW.pt (dw_or (st_is S (so_ix S (de_var (pv 1)) (de_var (pv 3)) (fun _ _ => rfl)) de_non) (dw_or1 (st_tru S (so_callF S C.is_log (by decide) T.g_is_log bd_is_log rfl (da_cons (de_var (pv 0)) (da_cons (de_var (pv 6)) (da_cons (so_ix S (de_var (pv 1)) (de_var (pv 3)) (fun _ _ => rfl)) da_nil))))))))
         (ds_cons (ds_set (ps_set (i := 7) sc.nd rfl (by first | exact Or.inl rfl | exact Or.inr rfl) (so_mul S (de_tup (da_cons (de_tup (da_cons de_int (da_cons (de_var (pv 3)) da_nil))) da_nil)) (de_var (pv 5)))))
         (ds_one (ps_augL (i := 4) sc.nd rfl (by first | exact Or.inl rfl | exact Or.inr rfl) (de_lcO (simG_tup rfl (simGs_cons owSame_name (simG_name (vs := [8, 9]) (i := 8) (by decide)) (simGs_cons owSame_name (simG_name (vs := [8, 9]) (i := 9) (by decide)) simGs_nil))) (pe_lc (own := [("faults", 8), ("places", 9)]) (g := (gTup _ 2 (gCons (gName 8) (gCons (gName 9) gNil)))) rfl sc.nd (di_seq S (de_var (pv 2))) (blkOk_by (own := [("faults", 8), ("places", 9)]) (N := N_first_places) (sc := defScope s_first_places) (by decide +kernel)) (fun _ _ _ _ _ => (pg_tup rfl (pgs_cons (pg_name (i := 8) sc.nd rfl (by first | exact Or.inl rfl | exact Or.inr rfl)) (pgs_cons (pg_name (i := 9) sc.nd rfl (by first | exact Or.inl rfl | exact Or.inr rfl)) pgs_nil)))) (fun _ _ _ _ _ => dts_nil) (fun _ _ _ _ _ => (de_tup (da_cons (so_add S.blk (de_var (pv 8)) (de_var (pv 7))) (da_cons (de_tup (da_star S.blk (de_var (pv 9)) (da_cons (de_var (pv 5)) da_nil))) da_nil)))))))))
         ds_nil))))
       (ds_one (ds_set (ps_set (i := 2) sc.nd rfl (by first | exact Or.inl rfl | exact Or.inr rfl) (de_var (pv 4)))))))))
      (ds_one (ds_ret (de_ice (de_var (pv 2))))))))
      , ?_⟩
  obtain ⟨X, rfl, ok, hq⟩ := hf
  have l1 := ok.l1
  have l8 := ok.l8
  have a0 := log_at (X := X) (k := 0) (by omega)
  walk_at "dl"
  refine joinB (P := fun b O' => b = !X.okS 0 0 ∧ O = O') ?_ fun k' hk' => ?_
  case refine_2 =>
    walk_at "dl"
    refine i_ixL a0 ?_
    cases h0 : X.log 0 with
    | none =>
      walk_at "dl"
      change k' false O
      refine hk' _ _ ⟨?_, rfl⟩
      unfold Exq.okS
      rw [h0]
      rfl
    | some u =>
      walk_at "dl"
      change (if true = true then dNot _ _ _ _ else k' false O)
      refine iteT ?_
      walk_at "dl"
      refine i_ixL a0 ?_
      rw [h0]
      walk_at "dl"
      refine ⟨rfl, 2, X.hs, X.ss, _, rfl, by decide, ok.so, .inl good_lgV, ?_⟩
      rw [okS_log ok (k := 0) (r := 0) h0 rfl rfl]
      refine ⟨_, rfl, ?_⟩
      exact hk' _ _ ⟨rfl, rfl⟩
  rintro _ _ ⟨rfl, rfl⟩
  cases h00 : X.okS 0 0 with
  | false =>
    refine iteT ?_
    walk_at "dl"
    have e0 : X.first = [] := by unfold Exq.first; rw [h00]; rfl
    rw [e0] at hq
    exact rt_same (hq _ (.refl _))
  | true =>
    refine iteF ?_
    refine i_next ?_
    walk_at "dl"
    intro pf hpf
    walk_at "dl"
    rw [List.length_map]
    refine ⟨⟨by decide, by decide⟩, ⟨by omega, by omega⟩, ?_⟩
    rw [rgD_zs]
    have eX : X.first = xFirst X (X.logs.length - 1) := by
      unfold Exq.first
      rw [if_pos h00]
      rfl
    refine forGo_inv (fun i env O' => ∃ (pf : Addr) (x3 x4 x5 x6 x7 x8 x9 : Option D), env = [some (endD (He.ga K "End") X.hs X.ss), some (.lst (X.logs.map lgV)), some (.ref pf), x3, x4, x5, x6, x7, x8, x9] ∧ O' pf = some (.lst ((xFirst X i).map fpD)) ∧ SubO O O' ∧ O pf = none)
      ⟨pf, _, _, _, _, _, _, _, rfl, setO_same, SubO.fresh hpf, hpf⟩ (fun _ _ _ _ _ => trivial) ?_ ?_
    · rintro N i y env O2 hy ⟨pf, x3, x4, x5, x6, x7, x8, x9, rfl, f1, sub, pf0⟩ hN
      obtain ⟨b, hb, rfl⟩ := map_get hy
      have hz := zs_at62 hb
      obtain ⟨hb0, hb1⟩ := zs_mem (List.mem_of_getElem? hb)
      obtain ⟨k, rfl⟩ := Int.eq_ofNat_of_zero_le (show 0 ≤ b by omega)
      obtain rfl : k = i + 1 := by omega
      have ak := log_at (X := X) (k := i + 1) (by omega)
      walk_at "dl"
      intro pl hpl
      walk_at "dl"
      have n1 : pl ≠ pf := fun z => by rw [z, f1] at hpl; cases hpl
      have f2 : (setO O2 pl (.lst [])) pf = some (.lst ((xFirst X i).map fpD)) := by rw [setO_ne n1.symm]; exact f1
      have sub2 : SubO O (setO O2 pl (.lst [])) := sub.trans (SubO.fresh hpl)
      have g1 : (setO O2 pl (.lst [])) pl = some (.lst []) := setO_same
      generalize setO O2 pl (.lst []) = O3 at f2 sub2 g1 ⊢
      have nO : O pl = none := by
        cases e : O pl with
        | none => rfl
        | some v => rw [sub _ _ e] at hpl; cases hpl
      clear f1 hpl
      refine forGo_inv (fun r env O' => ∃ (x5 x6 x7 x8 x9 : Option D), env = [some (endD (He.ga K "End") X.hs X.ss), some (.lst (X.logs.map lgV)), some (.ref pf), some (.int ((i + 1 : Nat) : Int)), some (.ref pl), x5, x6, x7, x8, x9] ∧ O' pf = some (.lst ((xFirst X i).map fpD)) ∧ O' pl = some (.lst ((xPart X (xFirst X i) (i + 1) r).map fpD)) ∧ SubO O O')
        ⟨_, _, _, _, _, rfl, f2, g1, sub2⟩ (fun _ _ _ _ _ => trivial) ?_ ?_
      · clear f2 g1 sub2
        rintro N2 r d env O4 hd ⟨x5, x6, x7, x8, x9, rfl, f2, g1, sub2⟩ hN2
        obtain ⟨hr, rfl⟩ : r < 2 ∧ d = .tup [.int (r : Nat), .str (sSt r)] := by
          match r, hd with
          | 0, hd => cases hd; exact ⟨by omega, rfl⟩
          | 1, hd => cases hd; exact ⟨by omega, rfl⟩
        walk_at "dl"
        refine joinB (P := fun b O' => b = X.okS (i + 1) r ∧ O4 = O') ?_ fun k' hk' => ?_
        case refine_2 =>
          walk_at "dl"
          refine i_ixL ak ?_
          cases h0 : X.log (i + 1) with
          | none =>
            walk_at "dl"
            change k' true O4
            refine hk' _ _ ⟨?_, rfl⟩
            unfold Exq.okS
            rw [h0]
          | some u =>
            walk_at "dl"
            change (if false = true then k' true O4 else dTru _ _ _ _)
            refine iteF ?_
            walk_at "dl"
            refine i_ixL ak ?_
            rw [h0]
            walk_at "dl"
            refine ⟨rfl, r, X.hs, X.ss, _, rfl, by omega, ok.so, .inl good_lgV, ?_⟩
            rw [okS_log ok (k := i + 1) (r := r) h0 (by unfold mSt Exq.m; rw [if_neg (by omega), if_neg (by omega)]) (by unfold rSt; split <;> omega)]
            refine ⟨_, rfl, ?_⟩
            exact hk' _ _ ⟨rfl, rfl⟩
        rintro _ _ ⟨rfl, rfl⟩
        have len : (xFirst X i).length ≤ 256 := Nat.le_trans (xFirst_len X i) (Nat.le_trans (Nat.pow_le_pow_right (by decide) (show i ≤ 8 by omega)) (by decide))
        have lenP := xPart_len X (xFirst X i) (i + 1) r
        cases ho : X.okS (i + 1) r with
        | false =>
          refine iteF ?_
          refine i_next ?_
          exact hN2 _ _ _ (.refl _) ⟨_, _, _, _, _, rfl, f2, by rw [xPart_no hr ho]; exact g1, sub2⟩
        | true =>
          refine iteT ?_
          walk_at "dl"
          refine i_mulT (by simp) (by simp) ⟨by omega, by omega⟩ ?_
          have eF : (List.replicate ((r : Nat) : Int).toNat [D.tup [.int 0, .int ((i + 1 : Nat) : Int)]]).flatten = (if r = 1 then [((0 : Int), ((i + 1 : Nat) : Int))] else []).map fauD := by
            rcases (show r = 0 ∨ r = 1 by omega) with rfl | rfl <;> rfl
          rw [eF]
          walk_at "dl"
          refine ⟨line_ok (by rw [List.length_map]; omega), ?_⟩
          refine lcGo_inv (fun j ys O' => O' = O4 ∧ ys = ((xFirst X i).take j).map fun x => fpD (Exq.addF (i + 1) r x)) ⟨rfl, rfl⟩ (fun _ _ _ h => by rw [h.1]) ?_ ?_
          · rintro j d ys O5 kk z hx ⟨rfl, rfl⟩ hk
            rw [List.getElem?_map] at hx
            obtain ⟨⟨fs, ps⟩, hx', rfl⟩ := Option.map_eq_some_iff.mp hx
            obtain ⟨m1, m2⟩ := xFirst_mem X i _ (List.mem_of_getElem? hx')
            dsimp only at m1 m2
            unfold fpD
            walk_at "dl"
            refine iteT ?_
            walk_at "dl"
            refine i_addT (line_ok (by rw [List.length_map, List.length_map]; split <;> simp <;> omega)) ?_
            walk_at "dl"
            refine ⟨_, rfl, ?_⟩
            walk_at "dl"
            refine ⟨line_ok (by show (ps ++ [D.int (r : Nat)]).length ≤ _; rw [List.length_append, m2, List.length_singleton]; omega), ?_⟩
            walk_at "dl"
            refine hk _ _ _ (.refl _) ⟨rfl, ?_⟩
            rw [List.take_add_one, hx', Option.toList_some, List.map_append, List.map_singleton]
            unfold fpD Exq.addF
            rw [List.map_append]
          rintro ys O5 ⟨rfl, rfl⟩ p3 hp3
          have n3 : p3 ≠ pl := fun z => by rw [z, g1] at hp3; cases hp3
          have n4 : p3 ≠ pf := fun z => by rw [z, f2] at hp3; cases hp3
          rw [List.length_map, List.take_length]
          refine ⟨p3, _, _, rfl, by rw [setO_ne n3.symm]; exact g1, setO_same, line_ok (by rw [List.length_map, List.length_map]; omega), ?_⟩
          refine hN2 _ _ _ (.refl _) ⟨_, _, _, _, _, rfl, ?_, ?_, ?_⟩
          · rw [setO_ne n1.symm, setO_ne n4.symm]; exact f2
          · rw [setO_same, xPart_yes hr ho, List.map_append, List.map_map]; rfl
          · intro a o e
            rw [setO_ne (fun z => by rw [z, nO] at e; cases e), setO_ne (fun z => by rw [z] at e; rw [sub2 _ _ e] at hp3; cases hp3)]
            exact sub2 a o e
      · clear f2 g1 sub2
        rintro env O4 ⟨x5, x6, x7, x8, x9, rfl, f2, g1, sub2⟩
        walk_at "dl"
        refine hN _ _ _ (.refl _) ⟨pl, _, _, _, _, _, _, _, rfl, ?_, sub2, nO⟩
        rw [xFirst_succ]
        exact g1
    · rintro env O2 ⟨pf, x3, x4, x5, x6, x7, x8, x9, rfl, f1, sub, pf0⟩
      rw [List.length_map, zs_len, show ((X.logs.length : Int) - 1).toNat = X.logs.length - 1 by omega, ← eX] at f1
      walk_at "dl"
      exact rt_same (hq _ (sub.del pf0))
end
end K62
set_option Elab.async false
set_option linter.all false
set_option maxRecDepth 100000
set_option maxHeartbeats 4000000
namespace K62
open PySem PySem.Spec PyProof.Rows L2 DL
open ClX (CRead CVal)
local macro_rules | `(tactic| walk_at "d1") => `(tactic| first | ((with_reducible apply i_var); exact rfl) | ((with_reducible apply i_gtup); exact rfl) | ((with_reducible apply i_augI); exact rfl) | ((with_reducible apply i_ixT); exact rfl) | ((with_reducible apply i_ixL); exact rfl) | with_reducible refine i_seq ?_ | with_reducible refine i_asg ?_ | with_reducible refine i_gname ?_ | with_reducible refine i_c ?_ | with_reducible refine i_op ?_ | with_reducible refine i_cb ?_ | with_reducible refine i_cons ?_ | with_reducible refine i_nil ?_ | with_reducible refine i_expr ?_ | with_reducible refine i_ret ?_ | with_reducible refine i_retN ?_ | with_reducible refine i_next ?_ | with_reducible refine i_for ?_ | with_reducible refine i_par ?_ | with_reducible refine i_test ?_ | with_reducible refine i_tup ?_ | with_reducible refine i_lst ?_ | ((with_reducible refine i_sz ?_ ?_); (focus exact Nat.le_of_ble_eq_true rfl)) | with_reducible refine i_lstO ?_ | with_reducible refine i_break ?_ | with_reducible refine i_cont ?_ | with_reducible refine i_gnil ?_ | with_reducible refine i_gcons ?_ | with_reducible refine i_tru ?_ | with_reducible refine i_and ?_ | with_reducible refine i_or ?_ | with_reducible refine i_not ?_ | with_reducible refine i_andV ?_ | with_reducible refine i_orV ?_ | with_reducible refine i_notV ?_ | with_reducible refine i_neg ?_ | with_reducible refine i_chain ?_ | with_reducible refine i_call ?_ | with_reducible refine i_callK ?_ | with_reducible refine i_append ?_ | with_reducible refine i_gsub ?_ | with_reducible refine i_sl ?_ | with_reducible refine i_slT ?_ | with_reducible refine i_slL ?_ | with_reducible refine i_oN ?_ | with_reducible refine i_oS ?_ | with_reducible refine i_lc ?_ | with_reducible refine i_lc2 ?_ | with_reducible refine i_lc2O ?_ | with_reducible refine i_lcO ?_ | with_reducible refine i_yes ?_ | with_reducible refine i_listRg1 ?_ | with_reducible refine i_rg1 ?_ | with_reducible refine i_rg2 ?_ | with_reducible refine i_seqI ?_ | with_reducible refine i_seqT ?_ | with_reducible refine i_seqL ?_ | with_reducible refine i_lt ?_ | with_reducible refine i_le ?_ | with_reducible refine i_gt ?_ | with_reducible refine i_ge ?_ | with_reducible refine i_sub ?_ | with_reducible refine i_addI ?_ | with_reducible refine i_int ?_ | with_reducible refine i_intb ?_ | with_reducible refine i_abs ?_ | with_reducible refine i_min2 ?_ | with_reducible refine i_max2 ?_ | with_reducible refine i_isN ?_ | with_reducible refine i_notN ?_ | with_reducible refine i_lenL ?_ | with_reducible refine i_lenT ?_ | ((with_reducible apply i_ixO); (focus (first | assumption | exact setO_same | (rw [setO_ne (by assumption)]; first | assumption | exact setO_same))); exact rfl) | ((with_reducible apply i_lenO); (focus (first | assumption | exact setO_same | (rw [setO_ne (by assumption)]; first | assumption | exact setO_same)))) | ((with_reducible apply i_appK); (focus (first | assumption | exact setO_same | (rw [setO_ne (by assumption)]; first | assumption | exact setO_same)))) | ((with_reducible apply i_subK); (focus (first | assumption | exact setO_same | (rw [setO_ne (by assumption)]; first | assumption | exact setO_same))); exact rfl) | ((with_reducible apply i_slO); (focus (first | assumption | exact setO_same | (rw [setO_ne (by assumption)]; first | assumption | exact setO_same)))) | ((with_reducible apply i_seqO); (focus (first | assumption | exact setO_same | (rw [setO_ne (by assumption)]; first | assumption | exact setO_same)))) | ((with_reducible apply i_appK2); (focus (first | assumption | exact setO_same | (rw [setO_ne (by assumption)]; first | assumption | exact setO_same)))) | with_reducible refine i_ice ?_ | with_reducible refine i_iceL ?_ | ((with_reducible apply i_iceK); (focus (first | assumption | exact setO_same | (rw [setO_ne (by assumption)]; first | assumption | exact setO_same)))) | with_reducible refine i_fld ?_ | ((with_reducible apply i_fldK); (focus (first | assumption | exact setO_same | (rw [setO_ne (by assumption)]; first | assumption | exact setO_same))); exact rfl) | with_reducible refine i_sfld ?_ | with_reducible refine i_make ?_ | with_reducible refine i_callK0 ?_ | with_reducible refine i_enum2 ?_ | with_reducible refine i_enumL ?_ | with_reducible refine i_enumT ?_ | with_reducible refine i_par3 ?_ | with_reducible refine i_dsp2 ?_ | ((with_reducible apply i_isi (b := true)); exact rfl; exact rfl; exact rfl) | ((with_reducible apply i_isi (b := false)); exact rfl; exact rfl; exact rfl) | with_reducible refine i_eqI ?_ | with_reducible refine i_neI ?_ | with_reducible refine i_truB ?_ | ((with_reducible apply i_fldI); exact rfl) | with_reducible refine i_iceI ?_ | with_reducible refine i_join ?_ | with_reducible refine i_dict0 ?_ | with_reducible refine i_isiI ?_ | with_reducible refine i_ownIn ?_ | with_reducible refine i_ownEq ?_ | with_reducible refine i_ownLen ?_ | with_reducible refine i_ownStr ?_ | with_reducible refine i_strS ?_ | with_reducible refine i_fmt ?_ | with_reducible refine i_pop ?_ | with_reducible refine i_listRg2 ?_ | with_reducible refine i_listRg2O ?_ | ((with_reducible apply i_popK); (focus (first | assumption | exact setO_same | (rw [setO_ne (by assumption)]; first | assumption | exact setO_same)))) | with_reducible refine i_raise ?_ | with_reducible refine i_tryAs ?_ | with_reducible refine i_xf ?_ | ((with_reducible apply i_xfK); exact rfl) | with_reducible refine i_js ?_ | with_reducible refine i_js0 ?_ | with_reducible refine i_makeK0 ?_ | with_reducible refine i_own ?_ | with_reducible refine i_ownT ?_ | with_reducible refine i_lenZ ?_ | with_reducible refine i_sortZ ?_ | with_reducible refine i_setL ?_ | with_reducible refine i_setLT ?_ | with_reducible refine i_sc ?_ | with_reducible refine i_setQ ?_ | with_reducible refine i_sc2 ?_ | with_reducible refine i_lenB ?_ | with_reducible refine i_bl ?_ | with_reducible refine i_tm ?_ | with_reducible refine i_lcnt ?_ | with_reducible refine i_setTI ?_ | ((with_reducible apply i_augL); exact rfl) | with_reducible refine i_scB ?_ | with_reducible refine i_key ?_ | with_reducible refine i_revL ?_ | with_reducible refine i_revT ?_ | with_reducible refine i_zip ?_ | with_reducible refine i_ltAI ?_ | with_reducible refine i_ltAS ?_ | with_reducible refine i_inRg1 ?_ | with_reducible refine i_inRg2 ?_ | with_reducible refine i_listRg1O ?_ | with_reducible refine i_tryM ?_ | with_reducible refine i_tryN ?_ | with_reducible refine i_upd ?_ | with_reducible refine i_mat ?_ | with_reducible refine i_matK ?_ | with_reducible refine i_mc0 ?_ | ((with_reducible apply i_mcY); (focus exact rfl)) | ((with_reducible apply i_mcN); (focus exact Nat.ne_of_beq_eq_false rfl)) | with_reducible refine i_ltT ?_ | with_reducible refine i_xi ?_ | with_reducible refine i_split ?_ | with_reducible refine i_count ?_ | with_reducible refine i_m0 ?_ | with_reducible refine i_m0K ?_ | with_reducible refine i_starA ?_ | with_reducible refine i_cm ?_ | with_reducible refine i_cmK ?_ | ((with_reducible apply i_makeL); exact rfl) | with_reducible refine i_int2I ?_ | with_reducible refine i_int2B ?_ | with_reducible refine i_clear ?_ | ((with_reducible apply i_clearK); (focus (first | assumption | exact setO_same | (rw [setO_ne (by assumption)]; first | assumption | exact setO_same)))) | with_reducible refine i_meth ?_ | with_reducible refine i_methM ?_ | ((with_reducible apply i_methKwO); (focus (first | assumption | exact setO_same | (rw [setO_ne (by assumption)]; first | assumption | exact setO_same))); exact rfl) | with_reducible refine i_extend ?_ | with_reducible refine i_lam ?_ | with_reducible refine i_dput ?_ | with_reducible refine i_dict0N ?_ | with_reducible refine i_dict1 ?_ | with_reducible refine i_disp2 ?_ | with_reducible refine i_disp3 ?_ | with_reducible refine i_dispN ?_ | with_reducible refine i_goC ?_ | ((with_reducible apply i_goK); exact rfl) | with_reducible refine i_goN ?_ | with_reducible refine i_setd ?_ | with_reducible refine i_idxL ?_ | with_reducible refine i_ixLK ?_ | with_reducible refine i_dc ?_ | with_reducible refine i_dct ?_ | with_reducible refine i_ckw ?_ | with_reducible refine i_iceA ?_ | with_reducible refine i_get2 ?_ | with_reducible refine i_get1 ?_ | with_reducible refine i_prop ?_ | with_reducible refine i_propI ?_ | ((with_reducible apply i_methI); exact rfl) | ((with_reducible apply i_methO); (focus (first | assumption | exact setO_same | (rw [setO_ne (by assumption)]; first | assumption | exact setO_same))); exact rfl))
local macro_rules | `(tactic| walk_at "dl") => `(tactic| repeat (walk_at "d1"))
local macro_rules | `(tactic| walk_at "dw") => `(tactic| repeat (first | with_reducible refine i_if ?_ | with_reducible refine i_ifE ?_ | walk_at "d1"))
section
variable {P : Program} {w : World} {K : Frag} {mg : Str → Option Value} {base : Heap}
def lpD (x : List Nat × List D) : D := .tup [.tup (x.1.map fun k => D.int ((k : Nat) : Int)), .tup x.2]
theorem XOk.xp {X : Exq} (ok : XOk X) : Exq.XP X := ⟨ok.so.hm, ok.so.sm, ok.so.h1, ok.so.s1, ok.l1⟩
def mchs (X : Exq) (n : Nat) : List D := .tup X.ss :: List.replicate n (.tup X.hs)
theorem mchs_at {X : Exq} {n k : Nat} (h : k ≤ n) : atI (mchs X n) (k : Int) = some (.tup (X.m k)) := by
  obtain ⟨d, e1, e2⟩ := atI_in (ds := mchs X n) (i := (k : Int)) (by omega) (by simp [mchs]; omega)
  rw [e2, ← e1, Int.toNat_natCast]
  cases k with
  | zero => rfl
  | succ j => 
    show (List.replicate n (D.tup X.hs))[j]? = _
    rw [List.getElem?_replicate, if_pos (by omega)]
    rfl
theorem enum_going (ps : List D) : (enumD ps).filterMap (fun d => match d with | .tup [.int k, pl] => if isRw pl then some (D.int k) else none | _ => none) = (Exq.going ps).map fun k => D.int ((k : Nat) : Int) := by
  have e : enumD ps = (List.range ps.length).map fun k => D.tup [.int (k : Nat), ps.getD k .non] := by
    apply List.ext_getElem?
    intro i
    rw [enumD_get, List.getElem?_map]
    by_cases h : i < ps.length
    · rw [List.getElem?_range h, List.getElem?_eq_getElem h, Option.map_some, Option.map_some, List.getD_eq_getElem?_getD, List.getElem?_eq_getElem h]
      rfl
    · rw [List.getElem?_eq_none (l := ps) (by omega), List.getElem?_eq_none (by rw [List.length_range]; omega)]
      rfl
  rw [e, List.filterMap_map]
  unfold Exq.going
  generalize List.range ps.length = l
  induction l with
  | nil => rfl
  | cons k t ih =>
    rw [List.filterMap_cons, List.filter_cons, ih]
    dsimp only [Function.comp_apply]
    cases isRw (ps.getD k .non) <;> rfl
theorem line_min {ns : List Int} {m : Int} (hb : ∀ y ∈ ns, y = 0 ∨ y = 1) (h1 : m ∈ ns) (h2 : ∀ y, y ∈ ns → m ≤ y) : m = if (0 : Int) ∈ ns then 0 else 1 := by
  by_cases h : (0 : Int) ∈ ns
  · rw [if_pos h]
    have := h2 0 h
    rcases hb m h1 with e | e <;> omega
  · rw [if_neg h]
    rcases hb m h1 with e | e
    · exact absurd (e ▸ h1) h
    · exact e
/-- the row of a station on its way -/
theorem row_go {X : Exq} {a : Nat} {ps : List D} {f : Fau} (xp : Exq.XP X) (lo : Exq.Lo X (a, ps, f)) {k : Nat} (hk : k ∈ Exq.going ps) : ∃ (c a1 : Int) (a2 a3 : D), k < X.logs.length ∧ ps.getD k .non = .int c ∧ atI ps (k : Int) = some (.int c) ∧ atI (X.m k) c = some (.tup [.int a1, a2, a3]) ∧ (a1 = 0 ∨ a1 = 1) ∧ putOf (rowAt (X.m k) (ps.getD k .non)) = a1 ∧ nxD (X.m k) (ps.getD k .non) 0 = a2 ∧ nxD (X.m k) (ps.getD k .non) 1 = a3 := by
  have hl := lo.lt hk
  have hr := Exq.going_mem.mp hk
  obtain ⟨c, hc⟩ := isRw_iff.mp hr
  have hp := lo.pl k hl
  rw [show ((a, ps, f) : Mom).2.1 = ps from rfl, hc] at hp
  rcases plB_cases hp with ⟨c', e, c0, c1⟩ | ⟨s, e, _⟩
  · cases e
    obtain ⟨a1, a2, a3, ea, hb, pa2, pa3, ia⟩ := row_at (xp.m k) c0 c1
    have hlen : ps.length = X.logs.length := lo.len
    refine ⟨c, a1, a2, a3, hl, hc, ?_, ia, hb, ?_, ?_, ?_⟩
    · obtain ⟨d, e1, e2⟩ := atI_in (ds := ps) (i := (k : Int)) (by omega) (by omega)
      rw [e2, ← hc, List.getD_eq_getElem?_getD, show k = ((k : Int)).toNat by omega, e1]
      rfl
    · rw [hc]; simp only [rowAt, ea]; rfl
    · rw [hc]; simp only [nxD, ea, if_true]
    · rw [hc]; simp only [nxD, ea]; rfl
  · cases e
def foldI (X : Exq) (a : Nat) (ps : List D) (i : Nat) : List (List Nat × List D) := ((Exq.going ps).take i).foldl (X.lstep a ps) [([], ps)]
theorem foldI_succ {X : Exq} {a : Nat} {ps : List D} {i k : Nat} (h : (Exq.going ps)[i]? = some k) : foldI X a ps (i + 1) = X.lstep a ps (foldI X a ps i) k := by
  unfold foldI
  rw [List.take_add_one, h, Option.toList_some, List.foldl_append]
  rfl
theorem setF_len (g : Nat → D) : ∀ (gs : List Nat) (l : List D), (gs.foldl (fun l k => l.set k (g k)) l).length = l.length
  | [], l => rfl
  | k :: t, l => by rw [List.foldl_cons, setF_len g t, List.length_set]
theorem foldI_sz {X : Exq} {a : Nat} {ps : List D} {i : Nat} {x : List Nat × List D} (gl : (Exq.going ps).length ≤ 8) (h : x ∈ foldI X a ps i) : x.1.length ≤ 8 ∧ x.2.length = ps.length := by
  obtain ⟨x0, h0, e, he, rfl⟩ := (Exq.lfold_mem a ps _ _ _ ((Exq.going_nd ps).sublist (List.take_sublist i _))).mp h
  rw [List.mem_singleton.mp h0]
  refine ⟨?_, setF_len _ _ _⟩
  have h1 := List.length_filter_le (fun k => decide (e k ≠ X.line ps)) ((Exq.going ps).take i)
  have h2 := (List.take_sublist i (Exq.going ps)).length_le
  show (([] : List Nat) ++ _).length ≤ 8
  rw [List.nil_append]
  omega
theorem foldI_len {X : Exq} {a : Nat} {ps : List D} {i : Nat} (hl : ps.length = X.logs.length) (hnn : X.nn ≤ 3) : (foldI X a ps i).length ≤ 8 := by
  refine Nat.le_trans (Exq.lfold_len a ps _ _) ?_
  rw [List.length_singleton, Nat.one_mul]
  refine Nat.le_trans (Nat.pow_le_pow_right (by decide) (Nat.le_trans ?_ hnn)) (show 2 ^ 3 ≤ 8 by decide)
  unfold Exq.nn
  rw [← hl]
  exact Exq.sub_len ((List.take_sublist i _).trans List.filter_sublist)
theorem set_cut {ds : List D} {k : Nat} (d : D) (h : k < ds.length) : ds.take k ++ [d] ++ ds.drop (k + 1) = ds.set k d := by
  rw [List.set_eq_take_append_cons_drop, if_pos h, List.append_assoc]
  rfl
theorem cutD_pre {ds : List D} {k : Nat} (h1 : k ≤ ds.length) : DL.cutD ds none (some (k : Int)) = ds.take k := by
  unfold DL.cutD
  rw [HT.sIx_none, HT.sIx_nat, List.drop_zero, Nat.sub_zero, Nat.min_eq_left h1]
theorem cutD_suf {ds : List D} {k : Nat} (h1 : k ≤ ds.length) : DL.cutD ds (some (k : Int)) none = ds.drop k := by
  unfold DL.cutD
  rw [HT.sIx_none, HT.sIx_nat, Nat.min_eq_left h1, List.take_of_length_le]
  rw [List.length_drop]
  omega
def f_later_places (K : Frag) : DF := fun ds O q _ => ∃ (X : Exq) (a : Nat) (ps : List D) (f : Fau), ds = [endD (He.ga K "End") X.hs X.ss, .lst (X.logs.map lgV), .int (a : Nat), .tup ps] ∧ XOk X ∧ Exq.Lo X (a, ps, f) ∧ Exq.going ps ≠ [] ∧ X.nn ≤ 3 ∧ ∀ O', SubO O O' → q (.lst ((X.later a ps).map lpD)) O'
abbrev N_later_places : List Str := ["end", "logs", "at", "places", "machines", "going", "station", "place", "line", "found", "row", "ears", "deaf", "later", "ear"]
abbrev P_later_places : List Str := ["end", "logs", "at", "places"]
theorem sc_later_places : FnScope N_later_places P_later_places (defScope s_later_places) := ⟨rfl, rfl, rfl, by decide +kernel, rfl, by decide +kernel, by decide +kernel⟩
theorem bd_later_places : Bd0 "later_places" "later_places" s_later_places P_later_places := fun _ _ _ _ _ _ us hl => match us, hl with | [_, _, _, _], _ => rfl
abbrev Fn_later_places (P : Program) (w : World) (K : Frag) (mg : Str → Option Value) (base : Heap) : Prop := Fn P w K mg base "later_places" "later_places" s_later_places [] [] P_later_places 4 3 (f_later_places K) (He.ga K "later_places")
structure C_later_places (P : Program) (w : World) (K : Frag) (mg : Str → Option Value) (base : Heap) : Prop where
  End_hearer : Fn_End_hearer P w K mg base
  End_sender : Fn_End_sender P w K mg base
  is_row : Fn_is_row P w K mg base
theorem ok_later_places {P : Program} {w : World} {K : Frag} {mg : Str → Option Value} {base : Heap} (F : HasD K "later_places" "later_places" s_later_places [] [] (He.ga K "later_places")) (T : Txt K mg) (C : C_later_places P w K mg base) : Fn_later_places P w K mg base := by
  have sc := sc_later_places
  refine fn_E (k := 2) F sc rfl fun cdv A outer s H E O0 H0 F0 ds O q xx hl hf S => ⟨_,
      (ds_cons (ds_set (ps_set (i := 4) sc.nd rfl (by first | exact Or.inl rfl | exact Or.inr rfl) (so_add S (de_lst (da_cons (so_propE S (by decide) T.c_End T.p_End_sender C.End_sender (de_var (pv 0))) da_nil)) (so_rep S (de_lstO (da_cons (so_propE S (by decide) T.c_End T.p_End_hearer C.End_hearer (de_var (pv 0))) da_nil)) (so_sub S (so_len S rfl T.b_len (da_cons (de_var (pv 3)) da_nil)) de_int)))))
      (ds_cons (ds_setLc (simG_tup rfl (simGs_cons owSame_name (simG_name (vs := [6, 7]) (i := 6) (by decide)) (simGs_cons owSame_name (simG_name (vs := [6, 7]) (i := 7) (by decide)) simGs_nil))) (ps_setLc (i := 5) (own := [("station", 6), ("place", 7)]) (g := (gTup _ 2 (gCons (gName 6) (gCons (gName 7) gNil)))) rfl sc.nd rfl rfl (sw_true rfl rfl rfl (by decide +kernel)) (di_enum S rfl T.b_enumerate (de_var (pv 3))) (blkOk_by (own := [("station", 6), ("place", 7)]) (N := N_later_places) (sc := defScope s_later_places) (by decide +kernel)) (fun _ _ _ _ _ => (pg_tup rfl (pgs_cons (pg_name (i := 6) sc.nd rfl (by first | exact Or.inl rfl | exact Or.inr rfl)) (pgs_cons (pg_name (i := 7) sc.nd rfl (by first | exact Or.inl rfl | exact Or.inr rfl)) pgs_nil)))) (fun _ _ _ _ _ => (dts_one (st_tru S.blk (so_callF S.blk C.is_row (by decide) T.g_is_row bd_is_row rfl (da_cons (de_var (pv 7)) da_nil))))) (fun _ _ _ _ _ => (de_var (pv 6)))))
      (ds_cons (ds_set (ps_set (i := 8) sc.nd rfl (by first | exact Or.inl rfl | exact Or.inr rfl) (so_min1 S rfl rfl T.b_min (da_cons (de_lc (simG_name (vs := [6]) (i := 6) (by decide)) (pe_lc (own := [("station", 6)]) (g := (gName 6)) rfl sc.nd (di_seq S (de_var (pv 5))) (blkOk_by (own := [("station", 6)]) (N := N_later_places) (sc := defScope s_later_places) (by decide +kernel)) (fun _ _ _ _ _ => (pg_name (i := 6) sc.nd rfl (by first | exact Or.inl rfl | exact Or.inr rfl))) (fun _ _ _ _ _ => dts_nil) (fun _ _ _ _ _ => (so_ix S.blk (so_ix S.blk (so_ix S.blk (de_var (pv 4)) (de_var (pv 6)) (fun _ _ => rfl)) (so_ix S.blk (de_var (pv 3)) (de_var (pv 6)) (fun _ _ => rfl)) (fun _ _ => rfl)) de_int (fun _ _ => rfl))))) da_nil))))
      (ds_cons (ds_set (ps_set (i := 9) sc.nd rfl (by first | exact Or.inl rfl | exact Or.inr rfl) (de_lstO (da_cons (de_tup (da_cons (de_tup da_nil) (da_cons (de_var (pv 3)) da_nil))) da_nil))))
      (ds_cons (ds_for (ps_for S.po rfl (di_seq S (de_var (pv 5))) (dg_name (pg_name (i := 6) sc.nd rfl (by first | exact Or.inl rfl | exact Or.inr rfl)))
       (ds_cons (ds_set (ps_set (i := 10) sc.nd rfl (by first | exact Or.inl rfl | exact Or.inr rfl) (so_ix S (so_ix S (de_var (pv 4)) (de_var (pv 6)) (fun _ _ => rfl)) (so_ix S (de_var (pv 3)) (de_var (pv 6)) (fun _ _ => rfl)) (fun _ _ => rfl))))
       (ds_cons (ds_set (ps_set (i := 11) sc.nd rfl (by first | exact Or.inl rfl | exact Or.inr rfl) (de_if (st_lt S (de_var (pv 2)) (so_gc rfl T.g_MOST_BIT T.d_MOST_BIT)) (de_lst (da_cons (de_var (pv 8)) (da_cons (so_sub S de_int (de_var (pv 8))) da_nil))) (de_lst (da_cons (de_var (pv 8)) da_nil)))))
       (ds_cons (ds_if (st_isnot S (so_ix S (de_var (pv 1)) (de_var (pv 6)) (fun _ _ => rfl)) de_non)
        (ds_one (ds_set (ps_set (i := 11) sc.nd rfl (by first | exact Or.inl rfl | exact Or.inr rfl) (de_lst (da_cons (so_ix S (so_ix S (de_var (pv 1)) (de_var (pv 6)) (fun _ _ => rfl)) (de_var (pv 2)) (fun _ _ => rfl)) da_nil)))))
        ds_nil)
       (ds_one (ds_setLc2O (simG_tup rfl (simGs_cons owSame_name (simG_name (vs := [12, 13, 14]) (i := 12) (by decide)) (simGs_cons owSame_name (simG_name (vs := [12, 13, 14]) (i := 13) (by decide)) simGs_nil))) (simG_name (vs := [14]) (i := 14) (by decide)) (ps_setLc2 (i := 9) (own := [("deaf", 12), ("later", 13), ("ear", 14)]) (g := (gTup _ 2 (gCons (gName 12) (gCons (gName 13) gNil)))) (g1 := (gName 14)) rfl sc.nd rfl rfl (sw_true rfl rfl rfl (by decide +kernel)) (di_seq S (de_var (pv 9))) (blkOk_by (own := [("deaf", 12), ("later", 13), ("ear", 14)]) (N := N_later_places) (sc := defScope s_later_places) (by decide +kernel)) (by decide) (fun _ _ _ _ _ => (pg_tup rfl (pgs_cons (pg_name (i := 12) sc.nd rfl (by first | exact Or.inl rfl | exact Or.inr rfl)) (pgs_cons (pg_name (i := 13) sc.nd rfl (by first | exact Or.inl rfl | exact Or.inr rfl)) pgs_nil)))) (fun _ _ _ _ _ => dts_nil) (fun _ _ _ _ _ => (di_seq S.blk (de_var (pv 11)))) (fun _ _ _ _ _ => (pg_name (i := 14) sc.nd rfl (by first | exact Or.inl rfl | exact Or.inr rfl))) (fun _ _ _ _ _ => dts_nil) (fun _ _ _ _ _ => (de_tup (da_cons (so_add S.blk (de_var (pv 12)) (so_mul S.blk (de_tup (da_cons (de_var (pv 6)) da_nil)) (so_int S.blk rfl T.b_int (da_cons (so_ne S.blk (de_var (pv 14)) (de_var (pv 8))) da_nil)))) (da_cons (so_add S.blk (so_add S.blk (de_slice rfl (de_var (pv 13)) do_none (do_some (de_var (pv 6)))) (de_tup (da_cons (so_ix S.blk (de_var (pv 10)) (so_add S.blk de_int (de_var (pv 14))) (fun _ _ => rfl)) da_nil))) (de_slice rfl (de_var (pv 13)) (do_some (so_add S.blk (de_var (pv 6)) de_int)) do_none)) da_nil))))))))))))
      (ds_one (ds_ret (de_ice (de_var (pv 9))))))))))
      , ?_⟩
  obtain ⟨X, a, ps, f, rfl, ok, lo, hg, hnn, hq⟩ := hf
  have l1 := ok.l1
  have l8 := ok.l8
  have hlen : ps.length = X.logs.length := lo.len
  have xp := ok.xp
  walk_at "dl"
  intro pr hpr
  walk_at "dl"
  refine i_rep setO_same ⟨by omega, by omega⟩ (by simp) ?_
  have em : [D.tup X.ss] ++ (List.replicate ((ps.length : Int) - 1).toNat [D.tup X.hs]).flatten = mchs X (ps.length - 1) := by
    rw [show ((ps.length : Int) - 1).toNat = ps.length - 1 by omega]
    unfold mchs
    rw [List.singleton_append]
    congr 1
    generalize ps.length - 1 = n
    induction n with
    | zero => rfl
    | succ n ih => rw [List.replicate_succ, List.flatten_cons, ih]; rfl
  refine i_addL (line_ok ?_) ?_
  · rw [← List.length_append, em]
    simp [mchs]
    omega
  rw [em]
  walk_at "dl"
  have sub1 : SubO O (setO O pr (.lst [D.tup X.hs])) := SubO.fresh hpr
  generalize setO O pr (.lst [D.tup X.hs]) = O1 at sub1 ⊢
  refine ⟨line_ok (by rw [enumD_len]; omega), ?_⟩
  refine lcGo_fm (fun d => match d with | .tup [.int k, pl] => if isRw pl then some (.int k) else none | _ => none) trivial (fun d hd k z h1 h0 => ?_) ?_
  · obtain ⟨i, hi⟩ := List.mem_iff_getElem?.mp hd
    rw [enumD_get] at hi
    obtain ⟨pl, hpl, rfl⟩ := Option.map_eq_some_iff.mp hi
    have hi' := (List.getElem?_eq_some_iff.mp hpl).1
    walk_at "dl"
    have hpb := lo.pl i (by omega)
    rw [show ps.getD i .non = pl from by rw [List.getD_eq_getElem?_getD, hpl]; rfl] at hpb
    refine ⟨rfl, pl, rfl, pl_row hpb, ?_⟩
    refine ⟨isRw pl, rfl, ?_⟩
    cases e : isRw pl with
    | true =>
      refine iteT ?_
      walk_at "dl"
      exact h1 _ _ (by simp only [e, if_true]) (.refl _)
    | false =>
      refine iteF ?_
      exact h0 _ (by simp only [e]; rfl) (.refl _)
  rw [enum_going]
  have gl : (Exq.going ps).length ≤ 8 := by
    unfold Exq.going
    have := List.length_filter_le (fun k => isRw (ps.getD k .non)) (List.range ps.length)
    rw [List.length_range] at this
    omega
  walk_at "dl"
  refine ⟨line_ok (by rw [List.length_map]; omega), ?_⟩
  refine lcGo_map (fun d => match d with | .int k => .int (putOf (rowAt (X.m k.toNat) (ps.getD k.toNat .non))) | _ => .non) trivial (fun d hd k z hk => ?_) ?_
  · obtain ⟨j, hj, rfl⟩ := List.mem_map.mp hd
    obtain ⟨c, a1, a2, a3, r1, r2, r3, r4, r5, r6, r7, r8⟩ := row_go xp lo hj
    walk_at "dl"
    refine iteT ?_
    walk_at "dl"
    refine i_ixL (mchs_at (by omega)) ?_
    walk_at "dl"
    refine i_ixT r3 ?_
    walk_at "dl"
    refine i_ixT r4 ?_
    walk_at "dl"
    rw [show a1 = putOf (rowAt (X.m ((j : Nat) : Int).toNat) (ps.getD ((j : Nat) : Int).toNat .non)) from by rw [Int.toNat_natCast]; exact r6.symm]
    exact hk _ (.refl _)
  rw [List.map_map, show (List.map ((fun d => match d with | .int k => D.int (putOf (rowAt (X.m k.toNat) (ps.getD k.toNat .non))) | _ => .non) ∘ fun k => D.int ((k : Nat) : Int)) (Exq.going ps)) = (X.putsE ps).map D.int from by
    unfold Exq.putsE
    rw [List.map_map]
    refine List.map_congr_left fun j _ => ?_
    simp only [Function.comp_apply, Int.toNat_natCast]]
  walk_at "dl"
  refine i_min1 rfl (by unfold Exq.putsE; rw [List.length_map]; exact List.length_pos_iff.mpr hg) fun m hm1 hm2 => ?_
  have hml : m = X.line ps := line_min (fun y hy => by
    unfold Exq.putsE at hy
    obtain ⟨j, hj, rfl⟩ := List.mem_map.mp hy
    obtain ⟨c, a1, a2, a3, r1, r2, r3, r4, r5, r6, r7, r8⟩ := row_go xp lo hj
    rw [r6]
    exact r5) hm1 hm2
  subst hml
  walk_at "dl"
  intro pf hpf
  walk_at "dl"
  refine forGo_inv (fun i env O' => ∃ (pf : Addr) (x6 x7 x10 x11 x12 x13 x14 : Option D), env = [some (endD (He.ga K "End") X.hs X.ss), some (.lst (X.logs.map lgV)), some (.int (a : Nat)), some (.tup ps), some (.lst (mchs X (ps.length - 1))), some (.lst ((Exq.going ps).map fun k => .int ((k : Nat) : Int))), x6, x7, some (.int (X.line ps)), some (.ref pf), x10, x11, x12, x13, x14] ∧ O' pf = some (.lst ((foldI X a ps i).map lpD)) ∧ O pf = none ∧ SubO O O')
    ⟨pf, _, _, _, _, _, _, _, rfl, setO_same, sub1.gone hpf, sub1.trans (SubO.fresh hpf)⟩ (fun _ _ _ _ _ => trivial) ?_ ?_
  · rintro N i y env O2 hy ⟨pf, x6, x7, x10, x11, x12, x13, x14, rfl, f1, pf0, sub⟩ hN
    rw [List.getElem?_map] at hy
    obtain ⟨k, hk, rfl⟩ := Option.map_eq_some_iff.mp hy
    have hkm := List.mem_of_getElem? hk
    obtain ⟨c, a1, a2, a3, r1, r2, r3, r4, r5, r6, r7, r8⟩ := row_go xp lo hkm
    have lb : X.line ps = 0 ∨ X.line ps = 1 := by unfold Exq.line; split <;> simp
    have ak := log_at (X := X) (k := k) r1
    walk_at "dl"
    refine i_ixL (mchs_at (by omega)) ?_
    walk_at "dl"
    refine i_ixT r3 ?_
    walk_at "dl"
    refine i_ixT r4 ?_
    walk_at "dl"
    refine joinO (fun d O' => d = .lst ((if a < 5000 then [X.line ps, 1 - X.line ps] else [X.line ps]).map D.int) ∧ O2 = O') ?_ fun q' hq' => ?_
    case refine_2 =>
      walk_at "dw"
      refine if_d (fun h => ?_) (fun h => ?_)
      · walk_at "dl"
        refine hq' _ _ ⟨?_, rfl⟩
        rw [if_pos (by omega)]
        rfl
      · walk_at "dl"
        refine hq' _ _ ⟨?_, rfl⟩
        rw [if_neg (by omega)]
        rfl
    rintro _ _ ⟨rfl, rfl⟩
    walk_at "d1"
    dsimp only
    refine i_seqJ (fun env O' => env = [some (endD (He.ga K "End") X.hs X.ss), some (.lst (X.logs.map lgV)), some (.int (a : Nat)), some (.tup ps), some (.lst (mchs X (ps.length - 1))), some (.lst ((Exq.going ps).map fun k => .int ((k : Nat) : Int))), some (.int (k : Nat)), x7, some (.int (X.line ps)), some (.ref pf), some (.tup [.int a1, a2, a3]), some (.lst ((X.ears a (X.line ps) k).map D.int)), x12, x13, x14] ∧ O' = O2) (fun N2 hN2 => ?_) ?_
    · walk_at "dw"
      refine i_ixL ak ?_
      cases hlg : X.log k with
      | none =>
        walk_at "dw"
        refine iteF ?_
        walk_at "dl"
        refine hN2 _ _ ⟨?_, rfl⟩
        unfold Exq.ears
        rw [hlg]
        rfl
      | some u =>
        have ha : a < u.length := (lo.going r1 hlg).mp hkm
        walk_at "dw"
        refine iteT ?_
        walk_at "dl"
        refine i_ixL ak ?_
        rw [hlg]
        walk_at "dl"
        refine i_ixT (d := .int (u.getD a 0)) ?_ ?_
        · obtain ⟨d, e1, e2⟩ := atI_in (ds := u.map D.int) (i := (a : Int)) (by omega) (by simp; omega)
          rw [e2, ← e1, Int.toNat_natCast, List.getElem?_map, List.getD_eq_getElem?_getD, List.getElem?_eq_getElem ha]
          rfl
        walk_at "dl"
        refine hN2 _ _ ⟨?_, rfl⟩
        unfold Exq.ears
        rw [hlg]
        rfl
    rintro _ _ ⟨rfl, rfl⟩
    walk_at "dl"
    have fl := foldI_len (X := X) (a := a) (i := i) hlen hnn
    have earl : (X.ears a (X.line ps) k).length ≤ 2 := Nat.le_trans (Exq.ears_len a _ k) (by split <;> omega)
    have earb : ∀ e ∈ X.ears a (X.line ps) k, e = 0 ∨ e = 1 := fun e he => by
      unfold Exq.ears at he
      cases hlg : X.log k with
      | none =>
        rw [hlg] at he
        dsimp only at he
        split at he
        · simp only [List.mem_cons, List.mem_nil_iff, or_false] at he
          rcases he with rfl | rfl
          · exact lb
          · omega
        · rw [List.mem_singleton.mp he]; exact lb
      | some u =>
        rw [hlg] at he
        have ha : a < u.length := (lo.going r1 hlg).mp hkm
        rw [List.mem_singleton.mp he, List.getD_eq_getElem?_getD, List.getElem?_eq_getElem ha]
        exact (ok.bt u (log_mem hlg)).1 _ (List.getElem_mem ha)
    refine lcGo2_map (fun d => match d with | .tup [.tup f, .tup l] => (X.ears a (X.line ps) k).map fun e => D.tup [.tup (f ++ if e = X.line ps then [] else [.int (k : Nat)]), .tup (l.set k (nxD (X.m k) (ps.getD k .non) e))] | _ => []) 2 16 ?_ ?_ (fun d hd c' hc KK hKK => ?_) ?_
    · exact rfl
    · rw [List.length_map]; omega
    · obtain ⟨⟨df, lt⟩, hx, rfl⟩ := List.mem_map.mp hd
      obtain ⟨s1, s2⟩ := foldI_sz gl hx
      dsimp only at s1 s2
      unfold lpD at hKK ⊢
      walk_at "dl"
      refine iteT ?_
      walk_at "dl"
      refine ⟨line_ok (by rw [List.length_map]; omega), ?_⟩
      refine lcGo_map (fun d => match d with | .int e => D.tup [.tup ((df.map fun k => D.int ((k : Nat) : Int)) ++ if e = X.line ps then [] else [.int (k : Nat)]), .tup (lt.set k (nxD (X.m k) (ps.getD k .non) e))] | _ => .non) trivial (fun d hd z z2 hz => ?_) ?_
      · obtain ⟨e, he, rfl⟩ := List.mem_map.mp hd
        have heb := earb e he
        walk_at "dl"
        refine iteT ?_
        walk_at "dl"
        refine i_mulT (by simp) (by simp) ⟨by split <;> omega, by split <;> omega⟩ ?_
        have eF : (List.replicate (if (!decide (e = X.line ps)) = true then (1 : Int) else 0).toNat [D.int ((k : Nat) : Int)]).flatten = if e = X.line ps then [] else [.int (k : Nat)] := by
          by_cases z : e = X.line ps
          · simp [z]
          · simp [z]
        rw [eF]
        walk_at "dl"
        refine i_addT (line_ok (by rw [List.length_map]; split <;> simp <;> omega)) ?_
        walk_at "dl"
        have ixr : atI [.int a1, a2, a3] (1 + e) = some (nxD (X.m k) (ps.getD k .non) e) := by
          rcases heb with rfl | rfl
          · rw [r7]; rfl
          · rw [r8]; rfl
        refine i_ixT ixr ?_
        walk_at "dl"
        rw [cutD_pre (ds := lt) (k := k) (by omega)]
        refine i_addT (line_ok (by rw [List.length_take, List.length_singleton]; omega)) ?_
        walk_at "dl"
        rw [show ((k : Nat) : Int) + 1 = ((k + 1 : Nat) : Int) from by omega, cutD_suf (ds := lt) (k := k + 1) (by omega)]
        refine i_addT (line_ok (by rw [List.length_append, List.length_take, List.length_singleton, List.length_drop]; omega)) ?_
        rw [set_cut _ (by omega)]
        walk_at "dl"
        exact hz _ (.refl _)
      · rw [List.map_map]
        exact hKK _ _ (by rw [List.length_map]; exact earl) (.refl _)
    · intro p hp
      walk_at "dl"
      refine hN _ _ _ (.refl _) ⟨p, _, _, _, _, _, _, _, rfl, ?_, sub.gone hp, sub.trans (SubO.fresh hp)⟩
      rw [setO_same, foldI_succ hk]
      unfold Exq.lstep
      rw [List.flatMap_map, List.map_flatMap]
      congr 3
      funext x
      unfold lpD
      rw [List.map_map]
      refine List.map_congr_left fun e _ => ?_
      simp only [Function.comp_apply, Exq.put1, List.map_append]
      congr 3
      split <;> rfl
  · rintro env O2 ⟨pf, x6, x7, x10, x11, x12, x13, x14, rfl, f1, pf0, sub⟩
    rw [List.length_map] at f1
    have ef : foldI X a ps (Exq.going ps).length = X.later a ps := by
      unfold foldI
      rw [List.take_length]
      rfl
    rw [ef] at f1
    walk_at "dl"
    exact rt_same (hq _ (sub.del pf0))
end
end K62
set_option Elab.async false
set_option linter.all false
set_option maxRecDepth 100000
set_option maxHeartbeats 4000000
namespace K62
open PySem PySem.Spec PyProof.Rows L2 DL
open ClX (CRead CVal)
local macro_rules | `(tactic| walk_at "d1") => `(tactic| first | ((with_reducible apply i_var); exact rfl) | ((with_reducible apply i_gtup); exact rfl) | ((with_reducible apply i_augI); exact rfl) | ((with_reducible apply i_ixT); exact rfl) | ((with_reducible apply i_ixL); exact rfl) | with_reducible refine i_seq ?_ | with_reducible refine i_asg ?_ | with_reducible refine i_gname ?_ | with_reducible refine i_c ?_ | with_reducible refine i_op ?_ | with_reducible refine i_cb ?_ | with_reducible refine i_cons ?_ | with_reducible refine i_nil ?_ | with_reducible refine i_expr ?_ | with_reducible refine i_ret ?_ | with_reducible refine i_retN ?_ | with_reducible refine i_next ?_ | with_reducible refine i_for ?_ | with_reducible refine i_par ?_ | with_reducible refine i_test ?_ | with_reducible refine i_tup ?_ | with_reducible refine i_lst ?_ | ((with_reducible refine i_sz ?_ ?_); (focus exact Nat.le_of_ble_eq_true rfl)) | with_reducible refine i_lstO ?_ | with_reducible refine i_break ?_ | with_reducible refine i_cont ?_ | with_reducible refine i_gnil ?_ | with_reducible refine i_gcons ?_ | with_reducible refine i_tru ?_ | with_reducible refine i_and ?_ | with_reducible refine i_or ?_ | with_reducible refine i_not ?_ | with_reducible refine i_andV ?_ | with_reducible refine i_orV ?_ | with_reducible refine i_notV ?_ | with_reducible refine i_neg ?_ | with_reducible refine i_chain ?_ | with_reducible refine i_call ?_ | with_reducible refine i_callK ?_ | with_reducible refine i_append ?_ | with_reducible refine i_gsub ?_ | with_reducible refine i_sl ?_ | with_reducible refine i_slT ?_ | with_reducible refine i_slL ?_ | with_reducible refine i_oN ?_ | with_reducible refine i_oS ?_ | with_reducible refine i_lc ?_ | with_reducible refine i_lc2 ?_ | with_reducible refine i_lc2O ?_ | with_reducible refine i_lcO ?_ | with_reducible refine i_yes ?_ | with_reducible refine i_listRg1 ?_ | with_reducible refine i_rg1 ?_ | with_reducible refine i_rg2 ?_ | with_reducible refine i_seqI ?_ | with_reducible refine i_seqT ?_ | with_reducible refine i_seqL ?_ | with_reducible refine i_lt ?_ | with_reducible refine i_le ?_ | with_reducible refine i_gt ?_ | with_reducible refine i_ge ?_ | with_reducible refine i_sub ?_ | with_reducible refine i_addI ?_ | with_reducible refine i_int ?_ | with_reducible refine i_intb ?_ | with_reducible refine i_abs ?_ | with_reducible refine i_min2 ?_ | with_reducible refine i_max2 ?_ | with_reducible refine i_isN ?_ | with_reducible refine i_notN ?_ | with_reducible refine i_lenL ?_ | with_reducible refine i_lenT ?_ | ((with_reducible apply i_ixO); (focus (first | assumption | exact setO_same | (rw [setO_ne (by assumption)]; first | assumption | exact setO_same))); exact rfl) | ((with_reducible apply i_lenO); (focus (first | assumption | exact setO_same | (rw [setO_ne (by assumption)]; first | assumption | exact setO_same)))) | ((with_reducible apply i_appK); (focus (first | assumption | exact setO_same | (rw [setO_ne (by assumption)]; first | assumption | exact setO_same)))) | ((with_reducible apply i_subK); (focus (first | assumption | exact setO_same | (rw [setO_ne (by assumption)]; first | assumption | exact setO_same))); exact rfl) | ((with_reducible apply i_slO); (focus (first | assumption | exact setO_same | (rw [setO_ne (by assumption)]; first | assumption | exact setO_same)))) | ((with_reducible apply i_seqO); (focus (first | assumption | exact setO_same | (rw [setO_ne (by assumption)]; first | assumption | exact setO_same)))) | ((with_reducible apply i_appK2); (focus (first | assumption | exact setO_same | (rw [setO_ne (by assumption)]; first | assumption | exact setO_same)))) | with_reducible refine i_ice ?_ | with_reducible refine i_iceL ?_ | ((with_reducible apply i_iceK); (focus (first | assumption | exact setO_same | (rw [setO_ne (by assumption)]; first | assumption | exact setO_same)))) | with_reducible refine i_fld ?_ | ((with_reducible apply i_fldK); (focus (first | assumption | exact setO_same | (rw [setO_ne (by assumption)]; first | assumption | exact setO_same))); exact rfl) | with_reducible refine i_sfld ?_ | with_reducible refine i_make ?_ | with_reducible refine i_callK0 ?_ | with_reducible refine i_enum2 ?_ | with_reducible refine i_enumL ?_ | with_reducible refine i_enumT ?_ | with_reducible refine i_par3 ?_ | with_reducible refine i_dsp2 ?_ | ((with_reducible apply i_isi (b := true)); exact rfl; exact rfl; exact rfl) | ((with_reducible apply i_isi (b := false)); exact rfl; exact rfl; exact rfl) | with_reducible refine i_eqI ?_ | with_reducible refine i_neI ?_ | with_reducible refine i_truB ?_ | ((with_reducible apply i_fldI); exact rfl) | with_reducible refine i_iceI ?_ | with_reducible refine i_join ?_ | with_reducible refine i_dict0 ?_ | with_reducible refine i_isiI ?_ | with_reducible refine i_ownIn ?_ | with_reducible refine i_ownEq ?_ | with_reducible refine i_ownLen ?_ | with_reducible refine i_ownStr ?_ | with_reducible refine i_strS ?_ | with_reducible refine i_fmt ?_ | with_reducible refine i_pop ?_ | with_reducible refine i_listRg2 ?_ | with_reducible refine i_listRg2O ?_ | ((with_reducible apply i_popK); (focus (first | assumption | exact setO_same | (rw [setO_ne (by assumption)]; first | assumption | exact setO_same)))) | with_reducible refine i_raise ?_ | with_reducible refine i_tryAs ?_ | with_reducible refine i_xf ?_ | ((with_reducible apply i_xfK); exact rfl) | with_reducible refine i_js ?_ | with_reducible refine i_js0 ?_ | with_reducible refine i_makeK0 ?_ | with_reducible refine i_own ?_ | with_reducible refine i_ownT ?_ | with_reducible refine i_lenZ ?_ | with_reducible refine i_sortZ ?_ | with_reducible refine i_setL ?_ | with_reducible refine i_setLT ?_ | with_reducible refine i_sc ?_ | with_reducible refine i_setQ ?_ | with_reducible refine i_sc2 ?_ | with_reducible refine i_lenB ?_ | with_reducible refine i_bl ?_ | with_reducible refine i_tm ?_ | with_reducible refine i_lcnt ?_ | with_reducible refine i_setTI ?_ | ((with_reducible apply i_augL); exact rfl) | with_reducible refine i_scB ?_ | with_reducible refine i_key ?_ | with_reducible refine i_revL ?_ | with_reducible refine i_revT ?_ | with_reducible refine i_zip ?_ | with_reducible refine i_ltAI ?_ | with_reducible refine i_ltAS ?_ | with_reducible refine i_inRg1 ?_ | with_reducible refine i_inRg2 ?_ | with_reducible refine i_listRg1O ?_ | with_reducible refine i_tryM ?_ | with_reducible refine i_tryN ?_ | with_reducible refine i_upd ?_ | with_reducible refine i_mat ?_ | with_reducible refine i_matK ?_ | with_reducible refine i_mc0 ?_ | ((with_reducible apply i_mcY); (focus exact rfl)) | ((with_reducible apply i_mcN); (focus exact Nat.ne_of_beq_eq_false rfl)) | with_reducible refine i_ltT ?_ | with_reducible refine i_xi ?_ | with_reducible refine i_split ?_ | with_reducible refine i_count ?_ | with_reducible refine i_m0 ?_ | with_reducible refine i_m0K ?_ | with_reducible refine i_starA ?_ | with_reducible refine i_cm ?_ | with_reducible refine i_cmK ?_ | ((with_reducible apply i_makeL); exact rfl) | with_reducible refine i_int2I ?_ | with_reducible refine i_int2B ?_ | with_reducible refine i_clear ?_ | ((with_reducible apply i_clearK); (focus (first | assumption | exact setO_same | (rw [setO_ne (by assumption)]; first | assumption | exact setO_same)))) | with_reducible refine i_meth ?_ | with_reducible refine i_methM ?_ | ((with_reducible apply i_methKwO); (focus (first | assumption | exact setO_same | (rw [setO_ne (by assumption)]; first | assumption | exact setO_same))); exact rfl) | with_reducible refine i_extend ?_ | with_reducible refine i_lam ?_ | with_reducible refine i_dput ?_ | with_reducible refine i_dict0N ?_ | with_reducible refine i_dict1 ?_ | with_reducible refine i_disp2 ?_ | with_reducible refine i_disp3 ?_ | with_reducible refine i_dispN ?_ | with_reducible refine i_goC ?_ | ((with_reducible apply i_goK); exact rfl) | with_reducible refine i_goN ?_ | with_reducible refine i_setd ?_ | with_reducible refine i_idxL ?_ | with_reducible refine i_ixLK ?_ | with_reducible refine i_dc ?_ | with_reducible refine i_dct ?_ | with_reducible refine i_ckw ?_ | with_reducible refine i_iceA ?_ | with_reducible refine i_get2 ?_ | with_reducible refine i_get1 ?_ | with_reducible refine i_prop ?_ | with_reducible refine i_propI ?_ | ((with_reducible apply i_methI); exact rfl) | ((with_reducible apply i_methO); (focus (first | assumption | exact setO_same | (rw [setO_ne (by assumption)]; first | assumption | exact setO_same))); exact rfl))
local macro_rules | `(tactic| walk_at "dl") => `(tactic| repeat (walk_at "d1"))
local macro_rules | `(tactic| walk_at "dw") => `(tactic| repeat (first | with_reducible refine i_if ?_ | with_reducible refine i_ifE ?_ | walk_at "d1"))
section
variable {P : Program} {w : World} {K : Frag} {mg : Str → Option Value} {base : Heap}
open Exq (putL flen tot)
structure Sad where
  ps : Addr
  dx : Addr
  pl : Addr
  pk : Addr
  qs : List Addr
def Sad.all (A : Sad) : List Addr := A.ps :: A.pl :: A.pk :: A.qs
def momD (q : Mom) : D := .tup [.int (q.1 : Nat), .tup q.2.1, .tup (q.2.2.map fauD)]
def markD (m : Nat × List D) : D := .tup [.int (m.1 : Nat), .tup m.2]
def knD (m : Nat × List D) : D × D := (markD m, .bl true)
structure Sr (w : World) (K : Frag) (O : Ow) (A : Sad) (g : Nat) (lv : List (List Mom)) (kn : List (Nat × List D)) : Prop where
  self : O A.ps = some (.ins (He.ga K "Search") A.dx [("longest", .int (g : Nat)), ("levels", .ref A.pl), ("known", .ref A.pk)])
  lvO : O A.pl = some (.lst (A.qs.map D.ref))
  knO : O A.pk = some (.dN w (kn.map knD))
  ln : A.qs.length = lv.length
  el : ∀ (k : Nat) (q : Addr), A.qs[k]? = some q → O q = some (.lst ((lv.getD k []).map momD))
  nd : A.qs.Nodup
  nl : A.pl ∉ A.qs
/-- what else is owned stays -/
def KpS (A : Sad) (O O' : Ow) : Prop := ∀ a o, a ∉ A.all → O a = some o → O' a = some o
section
variable {O : Ow} {A : Sad} {g : Nat} {lv : List (List Mom)} {kn : List (Nat × List D)}
theorem Sr.pl_ps (h : Sr w K O A g lv kn) : A.pl ≠ A.ps := fun z => by have := h.lvO; rw [z, h.self] at this; cases this
theorem Sr.pk_ps (h : Sr w K O A g lv kn) : A.pk ≠ A.ps := fun z => by have := h.knO; rw [z, h.self] at this; cases this
theorem Sr.pk_pl (h : Sr w K O A g lv kn) : A.pk ≠ A.pl := fun z => by have := h.knO; rw [z, h.lvO] at this; cases this
theorem Sr.q_at (h : Sr w K O A g lv kn) {q : Addr} (hq : q ∈ A.qs) : ∃ ds, O q = some (.lst ds) := by
  obtain ⟨i, hi⟩ := List.mem_iff_getElem?.mp hq
  exact ⟨_, h.el i q hi⟩
theorem Sr.q_ne (h : Sr w K O A g lv kn) {q : Addr} (hq : q ∈ A.qs) : q ≠ A.ps ∧ q ≠ A.pl ∧ q ≠ A.pk := by
  obtain ⟨e, he⟩ := h.q_at hq
  refine ⟨fun z => ?_, fun z => h.nl (z ▸ hq), fun z => ?_⟩
  · rw [z, h.self] at he; cases he
  · rw [z, h.knO] at he; cases he
theorem Sr.mem {a : Addr} (h : Sr w K O A g lv kn) (ha : a ∈ A.all) : O a ≠ none := by
  simp only [Sad.all, List.mem_cons] at ha
  rcases ha with rfl | rfl | rfl | ha
  · rw [h.self]; simp
  · rw [h.lvO]; simp
  · rw [h.knO]; simp
  · obtain ⟨e, he⟩ := h.q_at ha
    rw [he]; simp
theorem Sr.mono {O' : Ow} (h : Sr w K O A g lv kn) (s : ∀ a ∈ A.all, O' a = O a) : Sr w K O' A g lv kn := by
  refine ⟨?_, ?_, ?_, h.ln, fun k q hq => ?_, h.nd, h.nl⟩
  · rw [s _ (by simp [Sad.all])]; exact h.self
  · rw [s _ (by simp [Sad.all])]; exact h.lvO
  · rw [s _ (by simp [Sad.all])]; exact h.knO
  · rw [s _ (by simp [Sad.all, List.mem_of_getElem? hq])]; exact h.el k q hq
theorem Sr.sub {O' : Ow} (h : Sr w K O A g lv kn) (s : SubO O O') : Sr w K O' A g lv kn := h.mono fun a ha => by
  cases e : O a with
  | none => exact absurd e (h.mem ha)
  | some o => rw [s a o e]
theorem Sr.other {r : Addr} {o : OD} (h : Sr w K O A g lv kn) (hr : O r = none) : Sr w K (setO O r o) A g lv kn := h.mono fun a ha => by
  have : a ≠ r := fun z => h.mem ha (z ▸ hr)
  rw [setO_ne this]
/-- one level more -/
theorem Sr.more {p : Addr} (h : Sr w K O A g lv kn) (hp : O p = none) : Sr w K (setO (setO O p (.lst [])) A.pl (.lst (A.qs.map D.ref ++ [.ref p]))) ⟨A.ps, A.dx, A.pl, A.pk, A.qs ++ [p]⟩ g (lv ++ [[]]) kn := by
  have np : ∀ a ∈ A.all, a ≠ p := fun a ha z => h.mem ha (z ▸ hp)
  have n1 := np A.ps (by simp [Sad.all])
  have n2 := np A.pl (by simp [Sad.all])
  have n3 := np A.pk (by simp [Sad.all])
  refine ⟨?_, ?_, ?_, by simp [h.ln], fun k q hq => ?_, ?_, ?_⟩
  · rw [setO_ne h.pl_ps.symm, setO_ne n1]; exact h.self
  · rw [setO_same, List.map_append]; rfl
  · rw [setO_ne h.pk_pl, setO_ne n3]; exact h.knO
  · have hq : (A.qs ++ [p])[k]? = some q := hq
    by_cases hk : k < A.qs.length
    · rw [List.getElem?_append_left hk] at hq
      have hm := List.mem_of_getElem? hq
      rw [setO_ne (h.q_ne hm).2.1, setO_ne (np q (by simp [Sad.all, hm])), h.el k q hq]
      congr 3
      rw [List.getD_eq_getElem?_getD, List.getD_eq_getElem?_getD, List.getElem?_append_left (by rw [← h.ln]; exact hk)]
    · rw [List.getElem?_append_right (by omega)] at hq
      obtain ⟨rfl, hz⟩ : q = p ∧ k = A.qs.length := by
        have := List.getElem?_eq_some_iff.mp hq
        obtain ⟨h1, h2⟩ := this
        simp at h1
        exact ⟨by simpa using h2.symm, by omega⟩
      rw [setO_ne n2.symm, setO_same]
      congr 2
      have hln := h.ln
      rw [List.getD_eq_getElem?_getD, List.getElem?_append_right (by omega), hz, hln, Nat.sub_self]
      rfl
  · rw [List.nodup_append]
    exact ⟨h.nd, by simp, fun a ha b hb z => np a (by simp [Sad.all, ha]) (by rw [List.mem_singleton.mp hb] at z; exact z)⟩
  · intro z
    rcases List.mem_append.mp z with z | z
    · exact h.nl z
    · exact n2 (List.mem_singleton.mp z)
/-- a moment more in a level -/
theorem Sr.add {e : Mom} {q : Addr} (h : Sr w K O A g lv kn) (hq : A.qs[flen e]? = some q) : Sr w K (setO O q (.lst ((lv.getD (flen e) []).map momD ++ [momD e]))) A g (putL lv e) kn := by
  have hm := List.mem_of_getElem? hq
  have hl := (List.getElem?_eq_some_iff.mp hq).1
  obtain ⟨n1, n2, n3⟩ := h.q_ne hm
  refine ⟨?_, ?_, ?_, by rw [Exq.putL_len, h.ln]; have := h.ln; omega, fun k r hr => ?_, h.nd, h.nl⟩
  · rw [setO_ne n1.symm]; exact h.self
  · rw [setO_ne n2.symm]; exact h.lvO
  · rw [setO_ne n3.symm]; exact h.knO
  · rw [Exq.putL_get]
    by_cases hk : k = flen e
    · subst hk
      rw [hq] at hr
      cases hr
      rw [setO_same, if_pos rfl, List.map_append]
      rfl
    · rw [if_neg hk, setO_ne fun z => hk ?_]
      · exact h.el k r hr
      · subst z
        exact ((List.getElem?_inj (List.getElem?_eq_some_iff.mp hr).1 h.nd).mp (hr.trans hq.symm))
theorem Sr.know {m : Nat × List D} (h : Sr w K O A g lv kn) : Sr w K (setO O A.pk (.dN w ((kn ++ [m]).map knD))) A g lv (kn ++ [m]) := by
  refine ⟨?_, ?_, setO_same, h.ln, fun k q hq => ?_, h.nd, h.nl⟩
  · rw [setO_ne h.pk_ps.symm]; exact h.self
  · rw [setO_ne h.pk_pl.symm]; exact h.lvO
  · rw [setO_ne (h.q_ne (List.mem_of_getElem? hq)).2.2]; exact h.el k q hq
end
theorem lens_map (logs : List (Option (List Int))) : (logs.map lgV).filterMap (fun d => match d with | .tup es => some (D.int (es.length : Nat)) | _ => none) = (Exq.mk [] [] logs).lens.map D.int := by
  unfold Exq.lens
  dsimp only
  induction logs with
  | nil => rfl
  | cons o t ih =>
    cases o with
    | none => exact ih
    | some u =>
      rw [List.map_cons, List.filterMap_cons, ih]
      simp [lgV]
theorem lens_fold : ∀ (l : List (Option (List Int))) (a : Nat), ((l.foldl (fun a l => match l with | none => a | some u => max a u.length) a : Nat) : Int) = (l.filterMap fun l => l.map fun u => ((u.length : Nat) : Int)).foldl max (a : Int)
  | [], a => rfl
  | o :: l, a => by
    rw [List.foldl_cons, lens_fold l]
    cases o with
    | none => rfl
    | some u =>
      rw [List.filterMap_cons]
      dsimp only [Option.map_some]
      rw [List.foldl_cons]
      congr 1
      omega
theorem i_maxLong {O : Ow} {q : DQ} {logs : List (Option (List Int))} (h : q (.int ((Exq.mk [] [] logs).long : Nat)) O) : dMaxDef [.lst ((Exq.mk [] [] logs).lens.map D.int)] [.int 0] O q := by
  have e : (((Exq.mk [] [] logs).long : Nat) : Int) = (Exq.mk [] [] logs).lens.foldl max 0 := lens_fold logs 0
  rw [e] at h
  refine i_maxDef rfl (fun z => ?_) fun n ms z => ?_
  · rw [z] at h; exact h
  · rw [z, List.foldl_cons] at h
    have n0 : 0 ≤ n := by
      have : n ∈ (Exq.mk [] [] logs).lens := z ▸ List.mem_cons_self
      unfold Exq.lens at this
      obtain ⟨o, _, ho⟩ := List.mem_filterMap.mp this
      cases o with
      | none => cases ho
      | some u => cases ho; exact Int.natCast_nonneg _
    rwa [show max 0 n = n by omega] at h
theorem KpS.refl {A : Sad} {O : Ow} : KpS A O O := fun _ _ _ h => h
def f_Search___init__ (K : Frag) (w : World) : DF := fun ds O q _ => ∃ ps dx logs, ds = [.ref ps, .lst (logs.map lgV)] ∧ O ps = some (.ins (He.ga K "Search") dx []) ∧ logs.length ≤ 1000 ∧
  ∀ O' A, A.ps = ps → A.qs = [] → Sr w K O' A (Exq.mk [] [] logs).long [] [] → (∀ a ∈ A.all, a = ps ∨ O a = none) → SubO (delO O ps) O' → q .non O'
abbrev N_Search___init__ : List Str := ["self", "logs", "log"]
abbrev P_Search___init__ : List Str := ["self", "logs"]
theorem sc_Search___init__ : FnScope N_Search___init__ P_Search___init__ (defScope s_Search___init__) := ⟨rfl, rfl, rfl, by decide +kernel, rfl, by decide +kernel, by decide +kernel⟩
theorem bd_Search___init__ : Bd0 "__init__" "Search.__init__" s_Search___init__ P_Search___init__ := fun _ _ _ _ _ _ us hl => match us, hl with | [_, _], _ => rfl
abbrev Fn_Search___init__ (P : Program) (w : World) (K : Frag) (mg : Str → Option Value) (base : Heap) : Prop := Fn P w K mg base "__init__" "Search.__init__" s_Search___init__ [] [] P_Search___init__ 2 1 (f_Search___init__ K w) (He.ma K (He.ga K "Search") "__init__")
theorem ok_Search___init__ {P : Program} {w : World} {K : Frag} {mg : Str → Option Value} {base : Heap} (F : HasD K "__init__" "Search.__init__" s_Search___init__ [] [] (He.ma K (He.ga K "Search") "__init__")) (T : Txt K mg) : Fn_Search___init__ P w K mg base := by
  have sc := sc_Search___init__
  refine fn_E (k := 0) F sc rfl fun cdv A outer s H E O0 H0 F0 ds O q xx hl hf S => ⟨_,
      (ds_cons (ds_fld S T.c_Search T.n_Search_longest (de_var (pv 0)) (so_maxDef S rfl rfl T.b_max (da_cons (de_lc (simG_name (vs := [2]) (i := 2) (by decide)) (pe_lc (own := [("log", 2)]) (g := (gName 2)) rfl sc.nd (di_seq S (de_var (pv 1))) (blkOk_by (own := [("log", 2)]) (N := N_Search___init__) (sc := defScope s_Search___init__) (by decide +kernel)) (fun _ _ _ _ _ => (pg_name (i := 2) sc.nd rfl (by first | exact Or.inl rfl | exact Or.inr rfl))) (fun _ _ _ _ _ => (dts_one (st_isnot S.blk (de_var (pv 2)) de_non))) (fun _ _ _ _ _ => (so_len S.blk rfl T.b_len (da_cons (de_var (pv 2)) da_nil))))) da_nil) (dk_cons de_int dk_nil)))
      (ds_cons (ds_fld S T.c_Search T.n_Search_levels (de_var (pv 0)) (de_lstO da_nil))
      (ds_one (ds_fld S T.c_Search T.n_Search_known (de_var (pv 0)) (so_dict0NW (w := w) rfl)))))
      , ?_⟩
  obtain ⟨ps, dx, logs, rfl, hps, hn, hq⟩ := hf
  walk_at "dl"
  refine ⟨line_ok (by rw [List.length_map]; omega), ?_⟩
  refine lcGo_fm (fun d => match d with | .tup es => some (.int (es.length : Nat)) | _ => none) trivial (fun d hd k z h1 h0 => ?_) ?_
  · obtain ⟨o, ho, rfl⟩ := List.mem_map.mp hd
    cases o with
    | none =>
      walk_at "dl"
      refine iteF ?_
      exact h0 _ rfl (.refl _)
    | some u =>
      dsimp only [lgV]
      walk_at "dl"
      refine iteT ?_
      walk_at "dl"
      exact h1 _ _ rfl (.refl _)
  rw [lens_map]
  walk_at "dl"
  refine i_maxLong ?_
  walk_at "dl"
  refine i_setfK hps (by simp) ?_
  walk_at "dl"
  intro pl hpl
  have n1 : pl ≠ ps := fun z => by rw [z, setO_same] at hpl; cases hpl
  have hpl0 : O pl = none := by rw [setO_ne n1] at hpl; exact hpl
  walk_at "dl"
  refine i_setfK (by rw [setO_ne n1.symm]; exact setO_same) (by simp [putD]) ?_
  walk_at "dl"
  intro pk hpk
  have n2 : pk ≠ ps := fun z => by rw [z, setO_same] at hpk; cases hpk
  rw [setO_ne n2] at hpk
  have n3 : pk ≠ pl := fun z => by rw [z, setO_same] at hpk; cases hpk
  have hpk0 : O pk = none := by rw [setO_ne n3, setO_ne n2] at hpk; exact hpk
  walk_at "dl"
  refine i_setfK (fs := [("longest", .int ((Exq.mk [] [] logs).long : Nat)), ("levels", .ref pl)]) (dx := dx) (by rw [setO_ne n2.symm]; exact setO_same) (by simp) ?_
  refine rt_same (hq _ ⟨ps, dx, pl, pk, []⟩ rfl rfl ⟨setO_same, ?_, ?_, rfl, fun k q h => by simp at h, List.nodup_nil, fun h => (List.not_mem_nil h).elim⟩ ?_ ?_)
  · show setO _ ps _ pl = _
    rw [setO_ne n1, setO_ne n3.symm, setO_ne n1, setO_same]
    rfl
  · show setO _ ps _ pk = _
    rw [setO_ne n2, setO_same]
    rfl
  · intro a ha
    simp only [Sad.all, List.mem_cons, List.mem_nil_iff, or_false] at ha
    rcases ha with rfl | rfl | rfl
    · exact .inl rfl
    · exact .inr hpl0
    · exact .inr hpk0
  · intro a o e
    by_cases z : a = ps
    · subst z; rw [show delO O a a = none from if_pos rfl] at e; cases e
    · rw [delO_ne z] at e
      have z1 : a ≠ pl := fun y => by rw [y, hpl0] at e; cases e
      have z2 : a ≠ pk := fun y => by rw [y, hpk0] at e; cases e
      rw [setO_ne z, setO_ne z2, setO_ne z, setO_ne z1, setO_ne z]
      exact e
/-- marks as keys -/
theorem nkeys_dep : ∀ {ps : List D} {ks : List NestedKey}, (∀ d ∈ ps, plK d = true) → nkey.nkeys ps = some ks → NestedKey.depthAll ks ≤ 1
  | [], ks, _, e => by
    simp only [nkey.nkeys, Option.some.injEq] at e
    subst e
    decide
  | d :: ps, ks, h, e => by
    have hd := h d List.mem_cons_self
    simp only [nkey.nkeys] at e
    split at e
    · rename_i k1 ks1 a1 b1
      cases e
      have ih := nkeys_dep (fun x hx => h x (List.mem_cons_of_mem _ hx)) b1
      cases d <;> simp only [plK] at hd <;> first | cases hd | skip
      all_goals
        simp only [nkey, Option.some.injEq] at a1
        subst a1
        simp only [NestedKey.depthAll, NestedKey.depth]
        omega
    · cases e
theorem mark_key {m : Nat × List D} (h : ∀ d ∈ m.2, plK d = true) : ∃ k, nkey (markD m) = some k ∧ k.depth ≤ 8 := by
  obtain ⟨ks, h1, h2⟩ := nkeys_pl h
  refine ⟨.tup [.num m.1, .tup ks], ?_, ?_⟩
  · simp only [markD, nkey, nkey.nkeys, h1, Option.map_some]
  · have h3 := nkeys_dep h h1
    simp only [NestedKey.depth, NestedKey.depthAll]
    omega
theorem mark_inj {m m' : Nat × List D} {k : NestedKey} (h : ∀ d ∈ m.2, plK d = true) (h' : ∀ d ∈ m'.2, plK d = true) (e : nkey (markD m) = some k) (e' : nkey (markD m') = some k) : m = m' := by
  obtain ⟨ks, h1, _⟩ := nkeys_pl h
  obtain ⟨ks', h2, _⟩ := nkeys_pl h'
  simp only [markD, nkey, nkey.nkeys, h1, h2, Option.map_some] at e e'
  rw [← e'] at e
  simp only [Option.some.injEq, NestedKey.tup.injEq, List.cons.injEq, NestedKey.num.injEq, and_true] at e
  have e2 := nkeys_inj h h' h1 (e.2 ▸ h2)
  exact Prod.ext (by omega) e2
theorem known_val {kn : List (Nat × List D)} {m : Nat × List D} {k : NestedKey} (hk : ∀ m ∈ kn, ∀ d ∈ m.2, plK d = true) (hm : ∀ d ∈ m.2, plK d = true) (e : nkey (markD m) = some k) : (valNk (kn.map knD) k).isSome = true ↔ m ∈ kn := by
  induction kn with
  | nil => simp [valNk]
  | cons m0 t ih =>
    have ih := ih fun m h => hk m (List.mem_cons_of_mem _ h)
    rw [List.map_cons, valNk_cons]
    obtain ⟨k0, e0, _⟩ := mark_key (hk m0 List.mem_cons_self)
    rw [show (knD m0).1 = markD m0 from rfl, isK_of e0]
    by_cases z : k0 = k
    · subst z
      have := mark_inj (hk m0 List.mem_cons_self) hm e0 e
      subst this
      simp
    · rw [if_neg (by simpa using z), ih, List.mem_cons]
      refine ⟨.inr, fun h => ?_⟩
      rcases h with rfl | h
      · rw [e0] at e; cases e; exact absurd rfl z
      · exact h
def f_Search_put (K : Frag) (w : World) : DF := fun ds O q _ => ∃ A g lv kn e, ds = [.ref A.ps, .int ((e.1 : Nat) : Int), .tup e.2.1, .tup (e.2.2.map fauD)] ∧ Sr w K O A g lv kn ∧ flen e ≤ 100000 ∧ lv.length ≤ 100000 ∧ tot lv ≤ 10000000 ∧
  ∀ O' A', Sr w K O' A' g (putL lv e) kn → A'.ps = A.ps → A'.pl = A.pl → A'.pk = A.pk → (∃ t, A'.qs = A.qs ++ t ∧ ∀ a ∈ t, O a = none) → KpS A O O' → q .non O'
abbrev N_Search_put : List Str := ["self", "at", "places", "faults"]
abbrev P_Search_put : List Str := ["self", "at", "places", "faults"]
theorem sc_Search_put : FnScope N_Search_put P_Search_put (defScope s_Search_put) := ⟨rfl, rfl, rfl, by decide +kernel, rfl, by decide +kernel, by decide +kernel⟩
theorem bd_Search_put : Bd0 "put" "Search.put" s_Search_put P_Search_put := fun _ _ _ _ _ _ us hl => match us, hl with | [_, _, _, _], _ => rfl
abbrev Fn_Search_put (P : Program) (w : World) (K : Frag) (mg : Str → Option Value) (base : Heap) : Prop := Fn P w K mg base "put" "Search.put" s_Search_put [] [] P_Search_put 4 1 (f_Search_put K w) (He.ma K (He.ga K "Search") "put")
theorem ok_Search_put {P : Program} {w : World} {K : Frag} {mg : Str → Option Value} {base : Heap} (F : HasD K "put" "Search.put" s_Search_put [] [] (He.ma K (He.ga K "Search") "put")) (T : Txt K mg) : Fn_Search_put P w K mg base := by
  have sc := sc_Search_put
  refine fn_E (k := 0) F sc rfl fun cdv A outer s H E O0 H0 F0 ds O q xx hl hf S => ⟨_,
      (ds_cons (ds_while (ps_while S.po (st_le S (so_len S rfl T.b_len (da_cons (de_fld S T.c_Search T.n_Search_levels (de_var (pv 0))) da_nil)) (so_len S rfl T.b_len (da_cons (de_var (pv 3)) da_nil)))
       (ds_one (ds_expr (so_append S (de_fld S T.c_Search T.n_Search_levels (de_var (pv 0))) (da_cons (de_lstO da_nil) da_nil))))))
      (ds_one (ds_expr (so_append S (so_ix S (de_fld S T.c_Search T.n_Search_levels (de_var (pv 0))) (so_len S rfl T.b_len (da_cons (de_var (pv 3)) da_nil)) (fun _ _ => rfl)) (da_cons (de_tup (da_cons (de_var (pv 1)) (da_cons (de_var (pv 2)) (da_cons (de_var (pv 3)) da_nil)))) da_nil)))))
      , ?_⟩
  obtain ⟨A, g, lv, kn, e, rfl, h, b1, b2, b3, hq⟩ := hf
  have hs := h.self
  walk_at "dl"
  refine wh_inv (fun m env O' => env = [some (.ref A.ps), some (.int (e.1 : Nat)), some (.tup e.2.1), some (.tup (e.2.2.map fauD))] ∧ ∃ (t : List Addr) (j : Nat), Sr w K O' ⟨A.ps, A.dx, A.pl, A.pk, A.qs ++ t⟩ g (lv ++ List.replicate j []) kn ∧ (∀ a ∈ t, O a = none) ∧ KpS A O O' ∧ j ≤ flen e + 1 - lv.length ∧ m = flen e + 1 - (lv.length + j)) _
    ⟨rfl, [], 0, by rw [List.append_nil, List.replicate_zero, List.append_nil]; exact h, fun a ha => (List.not_mem_nil ha).elim, KpS.refl, Nat.zero_le _, rfl⟩ ?_
  rintro m N env O1 ⟨rfl, t, j, h1, ht, kp, hj, rfl⟩ hN
  have hs1 := h1.self
  have hl1 := h1.lvO
  have hn1 := h1.ln
  dsimp only at hs1 hl1 hn1
  rw [List.length_append, List.length_append, List.length_replicate] at hn1
  have fl : (e.2.2.map fauD).length = flen e := List.length_map _
  walk_at "dw"
  rw [List.length_map, fl, List.length_append]
  refine if_d (fun hle => ?_) (fun hle => ?_)
  · walk_at "dl"
    intro p hp
    have hpa : O p = none := by
      cases z : O p with
      | none => rfl
      | some o =>
        by_cases hz : p ∈ A.all
        · have hz2 : p ∈ (⟨A.ps, A.dx, A.pl, A.pk, A.qs ++ t⟩ : Sad).all := by
            simp only [Sad.all, List.mem_cons, List.mem_append] at hz ⊢
            rcases hz with h | h | h | h
            · exact .inl h
            · exact .inr (.inl h)
            · exact .inr (.inr (.inl h))
            · exact .inr (.inr (.inr (.inl h)))
          exact absurd hp (h1.mem hz2)
        · rw [kp p o hz z] at hp; cases hp
    have npl : p ≠ A.pl := fun z => by rw [z, hl1] at hp; cases hp
    have lq : (A.qs ++ t).length < sizeLine := by rw [List.length_append, sizeLine_eq]; omega
    walk_at "dl"
    refine i_appK2 (es := (A.qs ++ t).map D.ref) (by rw [setO_ne npl.symm]; exact hl1) (by rw [List.length_map]; exact lq) ?_
    have h2 := h1.more hp
    refine hN _ _ _ _ ?_ (.refl _) ⟨rfl, t ++ [p], j + 1, ?_, fun a ha => ?_, fun a o ha e => ?_, by omega, rfl⟩
    · omega
    · rw [← List.append_assoc, List.replicate_succ', ← List.append_assoc]
      exact h2
    · rcases List.mem_append.mp ha with ha | ha
      · exact ht a ha
      · rw [List.mem_singleton.mp ha]; exact hpa
    · have z1 : a ≠ p := fun z => by rw [z, hpa] at e; cases e
      have z2 : a ≠ A.pl := fun z => ha (by simp [Sad.all, z])
      rw [setO_ne z2, setO_ne z1]
      exact kp a o ha e
  · have hle : flen e < A.qs.length + t.length := by omega
    have hjj : j = flen e + 1 - lv.length := by omega
    obtain ⟨q0, hq0⟩ : ∃ q0, (A.qs ++ t)[flen e]? = some q0 := ⟨_, List.getElem?_eq_getElem (by rw [List.length_append]; exact hle)⟩
    have hel := h1.el _ _ hq0
    have hadd := h1.add (e := e) hq0
    have epl : putL (lv ++ List.replicate j []) e = putL lv e := by
      unfold putL
      rw [Exq.ext_get, List.length_append, List.length_replicate, hjj, show flen e + 1 - (lv.length + (flen e + 1 - lv.length)) = 0 by omega, List.replicate_zero, List.append_nil]
    have hln : ((lv ++ List.replicate j []).getD (flen e) []).length < sizeLine := by
      rw [Exq.ext_get, sizeLine_eq]
      have := Exq.tot_ge lv (flen e)
      omega
    walk_at "dl"
    rw [fl]
    refine i_ixO (d := .ref q0) hl1 ?_ ?_
    · obtain ⟨d, e1, e2⟩ := atI_in (ds := (A.qs ++ t).map D.ref) (i := (flen e : Int)) (by omega) (by rw [List.length_map, List.length_append]; omega)
      rw [e2, ← e1, Int.toNat_natCast, List.getElem?_map, hq0]
      rfl
    refine i_appK hel ?_
    walk_at "dl"
    rw [← List.length_map (f := momD)] at hln
    · exact hln
    refine rt_same (hq _ ⟨A.ps, A.dx, A.pl, A.pk, A.qs ++ t⟩ ?_ rfl rfl rfl ⟨t, rfl, ht⟩ fun a o ha ea => ?_)
    · rw [← epl]; exact hadd
    · have : a ≠ q0 := fun z => by
        rcases List.mem_append.mp (List.mem_of_getElem? hq0) with hm | hm
        · exact ha (by simp [Sad.all, z, hm])
        · rw [z, ht q0 hm] at ea; cases ea
      rw [setO_ne this]
      exact kp a o ha ea
def f_Search_is_new (K : Frag) (w : World) : DF := fun ds O q _ => ∃ A g lv kn a ps, ds = [.ref A.ps, .int ((a : Nat) : Int), .tup ps] ∧ Sr w K O A g lv kn ∧ kn.length ≤ 900000 ∧ (∀ m ∈ kn, ∀ d ∈ m.2, plK d = true) ∧ (∀ d ∈ ps, plK d = true) ∧
  (((min a g, ps) : Nat × List D) ∈ kn → q (.bl false) O) ∧ (((min a g, ps) : Nat × List D) ∉ kn → q (.bl true) (setO O A.pk (.dN w ((kn ++ [(min a g, ps)]).map knD))))
abbrev N_Search_is_new : List Str := ["self", "at", "places", "mark"]
abbrev P_Search_is_new : List Str := ["self", "at", "places"]
theorem sc_Search_is_new : FnScope N_Search_is_new P_Search_is_new (defScope s_Search_is_new) := ⟨rfl, rfl, rfl, by decide +kernel, rfl, by decide +kernel, by decide +kernel⟩
theorem bd_Search_is_new : Bd0 "is_new" "Search.is_new" s_Search_is_new P_Search_is_new := fun _ _ _ _ _ _ us hl => match us, hl with | [_, _, _], _ => rfl
abbrev Fn_Search_is_new (P : Program) (w : World) (K : Frag) (mg : Str → Option Value) (base : Heap) : Prop := Fn P w K mg base "is_new" "Search.is_new" s_Search_is_new [] [] P_Search_is_new 3 1 (f_Search_is_new K w) (He.ma K (He.ga K "Search") "is_new")
theorem ok_Search_is_new {P : Program} {w : World} {K : Frag} {mg : Str → Option Value} {base : Heap} (F : HasD K "is_new" "Search.is_new" s_Search_is_new [] [] (He.ma K (He.ga K "Search") "is_new")) (T : Txt K mg) : Fn_Search_is_new P w K mg base := by
  have sc := sc_Search_is_new
  refine fn_E (k := 0) F sc rfl fun cdv A outer s H E O0 H0 F0 ds O q xx hl hf S => ⟨_,
      (ds_cons (ds_set (ps_set (i := 3) sc.nd rfl (by first | exact Or.inl rfl | exact Or.inr rfl) (de_tup (da_cons (so_min2 S rfl rfl T.b_min (da_cons (de_var (pv 1)) (da_cons (de_fld S T.c_Search T.n_Search_longest (de_var (pv 0))) da_nil))) (da_cons (de_var (pv 2)) da_nil)))))
      (ds_cons (ds_if (st_dinW (w := w) rfl S (de_var (pv 3)) (de_fld S T.c_Search T.n_Search_known (de_var (pv 0))))
       (ds_one (ds_ret de_bl))
       ds_nil)
      (ds_cons (ds_dputW (w := w) rfl S (de_fld S T.c_Search T.n_Search_known (de_var (pv 0))) (de_var (pv 3)) de_bl)
      (ds_one (ds_ret de_bl)))))
      , ?_⟩
  obtain ⟨A, g, lv, kn, a, ps, rfl, h, hn, hk, hp, h1, h2⟩ := hf
  have hs := h.self
  have hkn := h.knO
  obtain ⟨k, ek, h8⟩ := mark_key (m := (min a g, ps)) hp
  have hv := known_val hk hp ek
  have em : markD (min a g, ps) = .tup [.int (if (g : Int) < (a : Int) then (g : Int) else (a : Int)), .tup ps] := by
    unfold markD
    dsimp only
    congr 3
    split <;> omega
  rw [em] at ek
  walk_at "dw"
  refine i_dinN hkn ek h8 ?_
  by_cases hm : ((min a g, ps) : Nat × List D) ∈ kn
  · rw [hv.mpr hm]
    refine iteT ?_
    walk_at "dl"
    exact rt_same (h1 hm)
  · rw [show (valNk (kn.map knD) k).isSome = false from Bool.eq_false_iff.mpr fun z => hm (hv.mp z)]
    refine iteF ?_
    walk_at "dl"
    have h2 := h2 hm
    rw [List.map_append, List.map_singleton, show knD (min a g, ps) = (markD (min a g, ps), .bl true) from rfl, em] at h2
    refine i_dputKN hkn ek h8 (by rw [List.length_map]; omega) ?_
    rw [show putNk (kn.map knD) (.tup [.int (if (g : Int) < (a : Int) then (g : Int) else (a : Int)), .tup ps]) k (.bl true) = kn.map knD ++ [(.tup [.int (if (g : Int) < (a : Int) then (g : Int) else (a : Int)), .tup ps], .bl true)] from if_neg fun z => hm (hv.mp z)]
    walk_at "dl"
    exact rt_same h2
end
end K62
set_option Elab.async false
set_option linter.all false
set_option maxRecDepth 100000
set_option maxHeartbeats 4000000
namespace K62
open PySem PySem.Spec PyProof.Rows L2 DL
open ClX (CRead CVal)
local macro_rules | `(tactic| walk_at "d1") => `(tactic| first | ((with_reducible apply i_var); exact rfl) | ((with_reducible apply i_gtup); exact rfl) | ((with_reducible apply i_augI); exact rfl) | ((with_reducible apply i_ixT); exact rfl) | ((with_reducible apply i_ixL); exact rfl) | with_reducible refine i_seq ?_ | with_reducible refine i_asg ?_ | with_reducible refine i_gname ?_ | with_reducible refine i_c ?_ | with_reducible refine i_op ?_ | with_reducible refine i_cb ?_ | with_reducible refine i_cons ?_ | with_reducible refine i_nil ?_ | with_reducible refine i_expr ?_ | with_reducible refine i_ret ?_ | with_reducible refine i_retN ?_ | with_reducible refine i_next ?_ | with_reducible refine i_for ?_ | with_reducible refine i_par ?_ | with_reducible refine i_test ?_ | with_reducible refine i_tup ?_ | with_reducible refine i_lst ?_ | ((with_reducible refine i_sz ?_ ?_); (focus exact Nat.le_of_ble_eq_true rfl)) | with_reducible refine i_lstO ?_ | with_reducible refine i_break ?_ | with_reducible refine i_cont ?_ | with_reducible refine i_gnil ?_ | with_reducible refine i_gcons ?_ | with_reducible refine i_tru ?_ | with_reducible refine i_and ?_ | with_reducible refine i_or ?_ | with_reducible refine i_not ?_ | with_reducible refine i_andV ?_ | with_reducible refine i_orV ?_ | with_reducible refine i_notV ?_ | with_reducible refine i_neg ?_ | with_reducible refine i_chain ?_ | with_reducible refine i_call ?_ | with_reducible refine i_callK ?_ | with_reducible refine i_append ?_ | with_reducible refine i_gsub ?_ | with_reducible refine i_sl ?_ | with_reducible refine i_slT ?_ | with_reducible refine i_slL ?_ | with_reducible refine i_oN ?_ | with_reducible refine i_oS ?_ | with_reducible refine i_lc ?_ | with_reducible refine i_lc2 ?_ | with_reducible refine i_lc2O ?_ | with_reducible refine i_lcO ?_ | with_reducible refine i_yes ?_ | with_reducible refine i_listRg1 ?_ | with_reducible refine i_rg1 ?_ | with_reducible refine i_rg2 ?_ | with_reducible refine i_seqI ?_ | with_reducible refine i_seqT ?_ | with_reducible refine i_seqL ?_ | with_reducible refine i_lt ?_ | with_reducible refine i_le ?_ | with_reducible refine i_gt ?_ | with_reducible refine i_ge ?_ | with_reducible refine i_sub ?_ | with_reducible refine i_addI ?_ | with_reducible refine i_int ?_ | with_reducible refine i_intb ?_ | with_reducible refine i_abs ?_ | with_reducible refine i_min2 ?_ | with_reducible refine i_max2 ?_ | with_reducible refine i_isN ?_ | with_reducible refine i_notN ?_ | with_reducible refine i_lenL ?_ | with_reducible refine i_lenT ?_ | ((with_reducible apply i_ixO); (focus (first | assumption | exact setO_same | (rw [setO_ne (by assumption)]; first | assumption | exact setO_same))); exact rfl) | ((with_reducible apply i_lenO); (focus (first | assumption | exact setO_same | (rw [setO_ne (by assumption)]; first | assumption | exact setO_same)))) | ((with_reducible apply i_appK); (focus (first | assumption | exact setO_same | (rw [setO_ne (by assumption)]; first | assumption | exact setO_same)))) | ((with_reducible apply i_subK); (focus (first | assumption | exact setO_same | (rw [setO_ne (by assumption)]; first | assumption | exact setO_same))); exact rfl) | ((with_reducible apply i_slO); (focus (first | assumption | exact setO_same | (rw [setO_ne (by assumption)]; first | assumption | exact setO_same)))) | ((with_reducible apply i_seqO); (focus (first | assumption | exact setO_same | (rw [setO_ne (by assumption)]; first | assumption | exact setO_same)))) | ((with_reducible apply i_appK2); (focus (first | assumption | exact setO_same | (rw [setO_ne (by assumption)]; first | assumption | exact setO_same)))) | with_reducible refine i_ice ?_ | with_reducible refine i_iceL ?_ | ((with_reducible apply i_iceK); (focus (first | assumption | exact setO_same | (rw [setO_ne (by assumption)]; first | assumption | exact setO_same)))) | with_reducible refine i_fld ?_ | ((with_reducible apply i_fldK); (focus (first | assumption | exact setO_same | (rw [setO_ne (by assumption)]; first | assumption | exact setO_same))); exact rfl) | with_reducible refine i_sfld ?_ | with_reducible refine i_make ?_ | with_reducible refine i_callK0 ?_ | with_reducible refine i_enum2 ?_ | with_reducible refine i_enumL ?_ | with_reducible refine i_enumT ?_ | with_reducible refine i_par3 ?_ | with_reducible refine i_dsp2 ?_ | ((with_reducible apply i_isi (b := true)); exact rfl; exact rfl; exact rfl) | ((with_reducible apply i_isi (b := false)); exact rfl; exact rfl; exact rfl) | with_reducible refine i_eqI ?_ | with_reducible refine i_neI ?_ | with_reducible refine i_truB ?_ | ((with_reducible apply i_fldI); exact rfl) | with_reducible refine i_iceI ?_ | with_reducible refine i_join ?_ | with_reducible refine i_dict0 ?_ | with_reducible refine i_isiI ?_ | with_reducible refine i_ownIn ?_ | with_reducible refine i_ownEq ?_ | with_reducible refine i_ownLen ?_ | with_reducible refine i_ownStr ?_ | with_reducible refine i_strS ?_ | with_reducible refine i_fmt ?_ | with_reducible refine i_pop ?_ | with_reducible refine i_listRg2 ?_ | with_reducible refine i_listRg2O ?_ | ((with_reducible apply i_popK); (focus (first | assumption | exact setO_same | (rw [setO_ne (by assumption)]; first | assumption | exact setO_same)))) | with_reducible refine i_raise ?_ | with_reducible refine i_tryAs ?_ | with_reducible refine i_xf ?_ | ((with_reducible apply i_xfK); exact rfl) | with_reducible refine i_js ?_ | with_reducible refine i_js0 ?_ | with_reducible refine i_makeK0 ?_ | with_reducible refine i_own ?_ | with_reducible refine i_ownT ?_ | with_reducible refine i_lenZ ?_ | with_reducible refine i_sortZ ?_ | with_reducible refine i_setL ?_ | with_reducible refine i_setLT ?_ | with_reducible refine i_sc ?_ | with_reducible refine i_setQ ?_ | with_reducible refine i_sc2 ?_ | with_reducible refine i_lenB ?_ | with_reducible refine i_bl ?_ | with_reducible refine i_tm ?_ | with_reducible refine i_lcnt ?_ | with_reducible refine i_setTI ?_ | ((with_reducible apply i_augL); exact rfl) | with_reducible refine i_scB ?_ | with_reducible refine i_key ?_ | with_reducible refine i_revL ?_ | with_reducible refine i_revT ?_ | with_reducible refine i_zip ?_ | with_reducible refine i_ltAI ?_ | with_reducible refine i_ltAS ?_ | with_reducible refine i_inRg1 ?_ | with_reducible refine i_inRg2 ?_ | with_reducible refine i_listRg1O ?_ | with_reducible refine i_tryM ?_ | with_reducible refine i_tryN ?_ | with_reducible refine i_upd ?_ | with_reducible refine i_mat ?_ | with_reducible refine i_matK ?_ | with_reducible refine i_mc0 ?_ | ((with_reducible apply i_mcY); (focus exact rfl)) | ((with_reducible apply i_mcN); (focus exact Nat.ne_of_beq_eq_false rfl)) | with_reducible refine i_ltT ?_ | with_reducible refine i_xi ?_ | with_reducible refine i_split ?_ | with_reducible refine i_count ?_ | with_reducible refine i_m0 ?_ | with_reducible refine i_m0K ?_ | with_reducible refine i_starA ?_ | with_reducible refine i_cm ?_ | with_reducible refine i_cmK ?_ | ((with_reducible apply i_makeL); exact rfl) | with_reducible refine i_int2I ?_ | with_reducible refine i_int2B ?_ | with_reducible refine i_clear ?_ | ((with_reducible apply i_clearK); (focus (first | assumption | exact setO_same | (rw [setO_ne (by assumption)]; first | assumption | exact setO_same)))) | with_reducible refine i_meth ?_ | with_reducible refine i_methM ?_ | ((with_reducible apply i_methKwO); (focus (first | assumption | exact setO_same | (rw [setO_ne (by assumption)]; first | assumption | exact setO_same))); exact rfl) | with_reducible refine i_extend ?_ | with_reducible refine i_lam ?_ | with_reducible refine i_dput ?_ | with_reducible refine i_dict0N ?_ | with_reducible refine i_dict1 ?_ | with_reducible refine i_disp2 ?_ | with_reducible refine i_disp3 ?_ | with_reducible refine i_dispN ?_ | with_reducible refine i_goC ?_ | ((with_reducible apply i_goK); exact rfl) | with_reducible refine i_goN ?_ | with_reducible refine i_setd ?_ | with_reducible refine i_idxL ?_ | with_reducible refine i_ixLK ?_ | with_reducible refine i_dc ?_ | with_reducible refine i_dct ?_ | with_reducible refine i_ckw ?_ | with_reducible refine i_iceA ?_ | with_reducible refine i_get2 ?_ | with_reducible refine i_get1 ?_ | with_reducible refine i_prop ?_ | with_reducible refine i_propI ?_ | ((with_reducible apply i_methI); exact rfl) | ((with_reducible apply i_methO); (focus (first | assumption | exact setO_same | (rw [setO_ne (by assumption)]; first | assumption | exact setO_same))); exact rfl))
local macro_rules | `(tactic| walk_at "dl") => `(tactic| repeat (walk_at "d1"))
local macro_rules | `(tactic| walk_at "dw") => `(tactic| repeat (first | with_reducible refine i_if ?_ | with_reducible refine i_ifE ?_ | walk_at "d1"))
section
variable {P : Program} {w : World} {K : Frag} {mg : Str → Option Value} {base : Heap}
open Exq (putL flen tot)
def ansD : Option Fau → D
  | none => .non
  | some f => .tup [.int (f.length : Nat), .tup (f.map fauD)]
/-- how many moments there can be -/
structure XSm (X : Exq) : Prop where
  nn : X.nn ≤ 2
  far : X.long + X.wid ^ X.nn ≤ 4900
  all : (X.long + 1) * (2 ^ X.nl * X.wid ^ X.nn) ≤ 900000
def lgArg (d : D) (o : Option (List Int)) : Prop := (o = none ∧ d = .non) ∨ ∃ u, o = some u ∧ (d = .tup (u.map D.int) ∨ d = .lst (u.map D.int))
/-- the search as it stands in the heap -/
def StX (w : World) (K : Frag) (X : Exq) (O : Ow) (sp dx pl pk : Addr) (O' : Ow) (lv : List (List Mom)) (kn : List (Nat × List D)) (qs : List Addr) : Prop := Sr w K O' ⟨sp, dx, pl, pk, qs⟩ X.long lv kn ∧ (∀ a ∈ (⟨sp, dx, pl, pk, qs⟩ : Sad).all, O a = none) ∧ SubO O O'
theorem StX.put {X : Exq} {O O1 O2 : Ow} {sp dx pl pk : Addr} {lv : List (List Mom)} {kn : List (Nat × List D)} {qs : List Addr} {e : Mom} (h : StX w K X O sp dx pl pk O1 lv kn qs) {A' : Sad} (h2 : Sr w K O2 A' X.long (putL lv e) kn) (e1 : A'.ps = sp) (e2 : A'.pl = pl) (e3 : A'.pk = pk) {t : List Addr} (e4 : A'.qs = qs ++ t) (ht : ∀ a ∈ t, O1 a = none) (kp : KpS ⟨sp, dx, pl, pk, qs⟩ O1 O2) : StX w K X O sp A'.dx pl pk O2 (putL lv e) kn (qs ++ t) := by
  obtain ⟨h0, fr, sub⟩ := h
  obtain ⟨a1, a2, a3, a4, a5⟩ := A'
  dsimp only at e1 e2 e3 e4
  subst e1 e2 e3 e4
  refine ⟨h2, fun a ha => ?_, fun a o ea => ?_⟩
  · simp only [Sad.all, List.mem_cons, List.mem_append] at ha
    rcases ha with rfl | rfl | rfl | ha | ha
    · exact fr _ (by simp [Sad.all])
    · exact fr _ (by simp [Sad.all])
    · exact fr _ (by simp [Sad.all])
    · exact fr _ (by simp [Sad.all, ha])
    · exact sub.gone (ht a ha)
  · exact kp a o (fun ha => by rw [fr a ha] at ea; cases ea) (sub a o ea)
theorem fau_add (f : Fau) (a : Nat) (ks : List Nat) : f.map fauD ++ ks.map (fun k => D.tup [.int ((a : Nat) + 1), .int ((k : Nat) : Int)]) = (f ++ ks.map fun k => (((a + 1 : Nat) : Int), ((k : Nat) : Int))).map fauD := by
  rw [List.map_append, List.map_map]
  congr 1
theorem first_len (X : Exq) (l8 : X.logs.length ≤ 8) : X.first.length ≤ 256 := by
  unfold Exq.first
  split
  · exact Nat.le_trans (xFirst_len X (X.logs.length - 1)) (Nat.le_trans (Nat.pow_le_pow_right (by decide) (show X.logs.length - 1 ≤ 8 by omega)) (by decide))
  · simp
theorem first_fl {X : Exq} {x : Fau × List D} (h : x ∈ X.first) : x.1.length ≤ X.logs.length := by
  obtain ⟨_, r, _, rfl⟩ := Exq.first_mem.mp h
  unfold Exq.bodF
  rw [List.length_map]
  have := List.length_filter_le (fun k => decide (r k = 1)) ((List.range (X.logs.length - 1)).map (· + 1))
  rw [List.length_map, List.length_range] at this
  omega
theorem going_nil (ps : List D) : (ps.filterMap fun d => if isRw d then some d else none) = [] ↔ Exq.going ps = [] := by
  rw [List.filterMap_eq_nil_iff]
  constructor
  · intro h
    rw [List.eq_nil_iff_forall_not_mem]
    intro k hk
    have hr := Exq.going_mem.mp hk
    rw [List.getD_eq_getElem?_getD] at hr
    cases e : ps[k]? with
    | none => rw [e] at hr; cases hr
    | some d =>
      rw [e] at hr
      have := h d (List.mem_of_getElem? e)
      rw [if_pos (show isRw d = true from hr)] at this
      cases this
  · intro h d hd
    by_cases hr : isRw d = true
    · obtain ⟨k, hk⟩ := List.mem_iff_getElem?.mp hd
      have : k ∈ Exq.going ps := Exq.going_mem.mpr (by rw [List.getD_eq_getElem?_getD, hk]; exact hr)
      rw [h] at this
      exact (List.not_mem_nil this).elim
    · rw [if_neg hr]
theorem good_rows {ps : List D} (h : ∀ d ∈ ps, plK d = true) : good (.lst (ps.filterMap fun d => if isRw d then some d else none)) = true := good_lstI fun d hd => by
  obtain ⟨e, _, he⟩ := List.mem_filterMap.mp hd
  split at he
  · rename_i hr
    cases he
    obtain ⟨i, rfl⟩ := isRw_iff.mp hr
    exact ⟨good_int i, by simp [py, PyData.depth]⟩
  · cases he
theorem pl_plK {n : Int} {ws : List Str} {d : D} (h : plB n ws d = true) : plK d = true := by
  rcases plB_cases h with ⟨i, rfl, _⟩ | ⟨s, rfl, _⟩ <;> rfl
theorem lo_plK {X : Exq} {q : Mom} (lo : Exq.Lo X q) : ∀ d ∈ q.2.1, plK d = true := fun d hd => by
  obtain ⟨k, hk⟩ := List.mem_iff_getElem?.mp hd
  have hl := (List.getElem?_eq_some_iff.mp hk).1
  have := lo.pl k (by rw [← lo.len]; exact hl)
  rw [List.getD_eq_getElem?_getD, hk] at this
  exact pl_plK this
theorem kn_plK {X : Exq} (xp : Exq.XP X) {lv : List (List Mom)} {kn kn' : List (Nat × List D)} {num spot : Nat} (h : Exq.SI X lv kn kn' num spot) : ∀ m ∈ kn, ∀ d ∈ m.2, plK d = true := fun m hm d hd => by
  obtain ⟨r, r1, rfl, _⟩ := h.rep m hm
  exact lo_plK (Exq.Re.lo xp r1.re) d hd
theorem lv_short {lv : List (List Mom)} {b : Nat} (h : lv.length ≤ b + 1) {e : Mom} (he : flen e ≤ b) : (putL lv e).length ≤ b + 1 := by
  rw [Exq.putL_len]
  omega
def f_explained (K : Frag) : DF := fun ds O q _ => ∃ (X : Exq) (es : List D), ds = [endD (He.ga K "End") X.hs X.ss, .lst es] ∧ es.length = X.logs.length ∧ (∀ (k : Nat) (d : D) (o : Option (List Int)), es[k]? = some d → X.logs[k]? = some o → lgArg d o) ∧ XOk X ∧ XSm X ∧
  ∀ r O', SubO O O' → Exq.Ans X r → q (ansD r) O'
abbrev N_explained : List Str := ["end", "logs", "log", "search", "faults", "places", "number", "spot", "waiting", "at", "place", "deaf", "later", "station"]
abbrev P_explained : List Str := ["end", "logs"]
theorem sc_explained : FnScope N_explained P_explained (defScope s_explained) := ⟨rfl, rfl, rfl, by decide +kernel, rfl, by decide +kernel, by decide +kernel⟩
theorem bd_explained : Bd0 "explained" "explained" s_explained P_explained := fun _ _ _ _ _ _ us hl => match us, hl with | [_, _], _ => rfl
abbrev Fn_explained (P : Program) (w : World) (K : Frag) (mg : Str → Option Value) (base : Heap) : Prop := Fn P w K mg base "explained" "explained" s_explained [] [] P_explained 2 5 (f_explained K) (He.ga K "explained")
structure C_explained (P : Program) (w : World) (K : Frag) (mg : Str → Option Value) (base : Heap) : Prop where
  Search___init__ : Fn_Search___init__ P w K mg base
  Search_is_new : Fn_Search_is_new P w K mg base
  Search_put : Fn_Search_put P w K mg base
  first_places : Fn_first_places P w K mg base
  is_row : Fn_is_row P w K mg base
  later_places : Fn_later_places P w K mg base
theorem ok_explained {P : Program} {w : World} {K : Frag} {mg : Str → Option Value} {base : Heap} (F : HasD K "explained" "explained" s_explained [] [] (He.ga K "explained")) (T : Txt K mg) (C : C_explained P w K mg base) : Fn_explained P w K mg base := by
  have sc := sc_explained
  refine fn_E (k := 4) F sc rfl fun cdv A outer s H E O0 H0 F0 ds O q xx hl hf S => ⟨_,
      (ds_cons (ds_setLc (simG_name (vs := [2]) (i := 2) (by decide)) (ps_setLc (i := 1) (own := [("log", 2)]) (g := (gName 2)) rfl sc.nd rfl rfl (sw_true rfl rfl rfl (by decide +kernel)) (di_seq S (de_var (pv 1))) (blkOk_by (own := [("log", 2)]) (N := N_explained) (sc := defScope s_explained) (by decide +kernel)) (fun _ _ _ _ _ => (pg_name (i := 2) sc.nd rfl (by first | exact Or.inl rfl | exact Or.inr rfl))) (fun _ _ _ _ _ => dts_nil) (fun _ _ _ _ _ => (de_if (st_is S.blk (de_var (pv 2)) de_non) de_non (so_tuple S.blk rfl T.b_tuple (da_cons (de_var (pv 2)) da_nil))))))
      (ds_cons (ds_set (ps_set (i := 3) sc.nd rfl (by first | exact Or.inl rfl | exact Or.inr rfl) (so_makeF S C.Search___init__ (by decide) T.g_Search T.mk_Search bd_Search___init__ rfl (da_cons (de_var (pv 1)) da_nil))))
      (ds_cons (ds_for (ps_for S.po rfl (di_seq S (so_callF S C.first_places (by decide) T.g_first_places bd_first_places rfl (da_cons (de_var (pv 0)) (da_cons (de_var (pv 1)) da_nil)))) (dg_tup rfl rfl (dgs_cons (dg_name (pg_name (i := 4) sc.nd rfl (by first | exact Or.inl rfl | exact Or.inr rfl))) (dgs_cons (dg_name (pg_name (i := 5) sc.nd rfl (by first | exact Or.inl rfl | exact Or.inr rfl))) dgs_nil)))
       (ds_one (ds_expr (so_meth S T.c_Search T.m_Search_put C.Search_put (by decide) bd_Search_put (de_var (pv 3)) (da_cons de_int (da_cons (de_var (pv 5)) (da_cons (de_var (pv 4)) da_nil))))))))
      (ds_cons (ds_set (ps_set (i := 6) sc.nd rfl (by first | exact Or.inl rfl | exact Or.inr rfl) de_int))
      (ds_cons (ds_while (ps_while S.po (st_lt S (de_var (pv 6)) (so_len S rfl T.b_len (da_cons (de_fld S T.c_Search T.n_Search_levels (de_var (pv 3))) da_nil)))
       (ds_cons (ds_par (ps_par (i := 7) (j := 8) rfl sc.nd rfl rfl (by decide) rfl rfl (da_cons de_int (da_cons (so_ix S (de_fld S T.c_Search T.n_Search_levels (de_var (pv 3))) (de_var (pv 6)) (fun _ _ => rfl)) da_nil)) (by rfl)))
       (ds_cons (ds_while (ps_while S.po (st_lt S (de_var (pv 7)) (so_len S rfl T.b_len (da_cons (de_var (pv 8)) da_nil)))
        (ds_cons (ds_asg (ps_asg (so_ix S (de_var (pv 8)) (de_var (pv 7)) (fun _ _ => rfl)) (dg_tup rfl rfl (dgs_cons (dg_name (pg_name (i := 9) sc.nd rfl (by first | exact Or.inl rfl | exact Or.inr rfl))) (dgs_cons (dg_name (pg_name (i := 5) sc.nd rfl (by first | exact Or.inl rfl | exact Or.inr rfl))) (dgs_cons (dg_name (pg_name (i := 4) sc.nd rfl (by first | exact Or.inl rfl | exact Or.inr rfl))) dgs_nil))))))
        (ds_cons (ss_augI (ps_aug (i := 7) sc.nd rfl (by first | exact Or.inl rfl | exact Or.inr rfl) de_int ip_add))
        (ds_cons (ds_if (st_eq S (de_lc (simG_name (vs := [10]) (i := 10) (by decide)) (pe_lc (own := [("place", 10)]) (g := (gName 10)) rfl sc.nd (di_seq S (de_var (pv 5))) (blkOk_by (own := [("place", 10)]) (N := N_explained) (sc := defScope s_explained) (by decide +kernel)) (fun _ _ _ _ _ => (pg_name (i := 10) sc.nd rfl (by first | exact Or.inl rfl | exact Or.inr rfl))) (fun _ _ _ _ _ => (dts_one (st_tru S.blk (so_callF S.blk C.is_row (by decide) T.g_is_row bd_is_row rfl (da_cons (de_var (pv 10)) da_nil))))) (fun _ _ _ _ _ => (de_var (pv 10))))) (de_lst da_nil))
         (ds_one (ds_ret (de_tup (da_cons (de_var (pv 6)) (da_cons (de_var (pv 4)) da_nil)))))
         ds_nil)
        (ds_one (ds_if (st_tru S (so_meth S T.c_Search T.m_Search_is_new C.Search_is_new (by decide) bd_Search_is_new (de_var (pv 3)) (da_cons (de_var (pv 9)) (da_cons (de_var (pv 5)) da_nil))))
         (ds_one (ds_for (ps_for S.po rfl (di_seq S (so_callF S C.later_places (by decide) T.g_later_places bd_later_places rfl (da_cons (de_var (pv 0)) (da_cons (de_var (pv 1)) (da_cons (de_var (pv 9)) (da_cons (de_var (pv 5)) da_nil)))))) (dg_tup rfl rfl (dgs_cons (dg_name (pg_name (i := 11) sc.nd rfl (by first | exact Or.inl rfl | exact Or.inr rfl))) (dgs_cons (dg_name (pg_name (i := 12) sc.nd rfl (by first | exact Or.inl rfl | exact Or.inr rfl))) dgs_nil)))
          (ds_one (ds_expr (so_meth S T.c_Search T.m_Search_put C.Search_put (by decide) bd_Search_put (de_var (pv 3)) (da_cons (so_add S (de_var (pv 9)) de_int) (da_cons (de_var (pv 12)) (da_cons (so_add S (de_var (pv 4)) (so_tuple S rfl T.b_tuple (da_cons (de_lc (simG_name (vs := [13]) (i := 13) (by decide)) (pe_lc (own := [("station", 13)]) (g := (gName 13)) rfl sc.nd (di_seq S (de_var (pv 11))) (blkOk_by (own := [("station", 13)]) (N := N_explained) (sc := defScope s_explained) (by decide +kernel)) (fun _ _ _ _ _ => (pg_name (i := 13) sc.nd rfl (by first | exact Or.inl rfl | exact Or.inr rfl))) (fun _ _ _ _ _ => dts_nil) (fun _ _ _ _ _ => (de_tup (da_cons (so_add S.blk (de_var (pv 9)) de_int) (da_cons (de_var (pv 13)) da_nil)))))) da_nil))) da_nil)))))))))
         ds_nil)))))))
       (ds_one (ss_augI (ps_aug (i := 6) sc.nd rfl (by first | exact Or.inl rfl | exact Or.inr rfl) de_int ip_add)))))))
      (ds_one (ds_ret de_non)))))))
      , ?_⟩
  obtain ⟨X, es, rfl, hel, hes, ok, sm, hq⟩ := hf
  have l1 := ok.l1
  have l8 := ok.l8
  have xp := ok.xp
  walk_at "dl"
  refine ⟨line_ok (by omega), ?_⟩
  refine lcGo_map (fun d => match d with | .lst us => .tup us | d => d) trivial (fun d hd k z hk => ?_) ?_
  · obtain ⟨i, hi⟩ := List.mem_iff_getElem?.mp hd
    have hil := (List.getElem?_eq_some_iff.mp hi).1
    have := hes i d _ hi (List.getElem?_eq_getElem (by omega))
    rcases this with ⟨_, rfl⟩ | ⟨u, _, rfl | rfl⟩
    · walk_at "dl"
      refine iteT ?_
      walk_at "dw"
      refine iteT ?_
      walk_at "dl"
      exact hk _ (.refl _)
    · walk_at "dl"
      refine iteT ?_
      walk_at "dw"
      refine iteF ?_
      walk_at "dl"
      refine ⟨_, rfl, ?_⟩
      exact hk _ (.refl _)
    · walk_at "dl"
      refine iteT ?_
      walk_at "dw"
      refine iteF ?_
      walk_at "dl"
      refine ⟨_, rfl, ?_⟩
      exact hk _ (.refl _)
  have elg : es.map (fun d => match d with | .lst us => .tup us | d => d) = X.logs.map lgV := by
    apply List.ext_getElem?
    intro i
    rw [List.getElem?_map, List.getElem?_map]
    by_cases hi : i < es.length
    · rw [List.getElem?_eq_getElem hi, List.getElem?_eq_getElem (show i < X.logs.length by omega), Option.map_some, Option.map_some]
      rcases hes i _ _ (List.getElem?_eq_getElem hi) (List.getElem?_eq_getElem (show i < X.logs.length by omega)) with ⟨e1, e2⟩ | ⟨u, e1, e2 | e2⟩
      · rw [e1, e2]; rfl
      · rw [e1, e2]; rfl
      · rw [e1, e2]; rfl
    · rw [List.getElem?_eq_none (by omega), List.getElem?_eq_none (by omega)]
      rfl
  rw [elg]
  walk_at "dl"
  refine ⟨rfl, fun x dx hx hdx hne => ?_⟩
  refine ⟨x, dx, X.logs, rfl, setO_same, by omega, fun O1 A eA eq hS hfr sub0 => ⟨rfl, ?_⟩⟩
  rw [delO_set hx] at sub0
  obtain ⟨ps, dx', pl, pk, qs⟩ := A
  dsimp only at eA eq
  subst eA eq
  have hS : Sr w K O1 ⟨ps, dx', pl, pk, []⟩ X.long [] [] := hS
  have fr : ∀ a ∈ (⟨ps, dx', pl, pk, []⟩ : Sad).all, O a = none := fun a ha => by
    rcases hfr a ha with rfl | h
    · exact hx
    · by_cases z : a = ps
      · rw [z]; exact hx
      · rw [setO_ne z] at h; exact h
  clear hfr
  walk_at "dl"
  refine ⟨rfl, X, rfl, ok, fun O2 sub2 => ?_⟩
  have hS2 := hS.sub sub2
  have sub02 := sub0.trans sub2
  have fl8 := first_len X l8
  have st2 : StX w K X O ps dx' pl pk O2 [] [] [] := ⟨hS2, fr, sub02⟩
  clear hS hS2 sub0 sub02 sub2 fr hx hne hdx
  walk_at "dl"
  refine forGo_inv (fun i env O' => ∃ (x2 x4 x5 x6 x7 x8 x9 x10 x11 x12 x13 : Option D) (dx : Addr) (lv : List (List Mom)) (qs : List Addr), env = [some (endD (He.ga K "End") X.hs X.ss), some (.lst (X.logs.map lgV)), x2, some (.ref ps), x4, x5, x6, x7, x8, x9, x10, x11, x12, x13] ∧ StX w K X O ps dx pl pk O' lv [] qs ∧ (∀ k, ∀ e ∈ lv.getD k [], X.Re e ∧ flen e = k ∧ Exq.ChE X [] e) ∧ (∀ x ∈ X.first.take i, Exq.Ent lv (0, x.2, x.1)) ∧ tot lv = i ∧ lv.length ≤ X.logs.length * 4901 + 1)
    ⟨_, _, _, _, _, _, _, _, _, _, _, _, _, _, rfl, st2, fun k e he => by simp at he, fun x hx => by simp at hx, rfl, by simp⟩ (fun _ _ _ _ _ => trivial) ?_ ?_
  · rintro N i y env O3 hy ⟨x2, x4, x5, x6, x7, x8, x9, x10, x11, x12, x13, dx, lv, qs, rfl, st, h1, h2, h3, h4⟩ hN
    rw [List.getElem?_map] at hy
    obtain ⟨⟨f, pp⟩, hx, rfl⟩ := Option.map_eq_some_iff.mp hy
    have hxm := List.mem_of_getElem? hx
    have hil := (List.getElem?_eq_some_iff.mp hx).1
    have hfl := first_fl hxm
    dsimp only at hfl
    unfold fpD
    have hs := st.1.self
    dsimp only at hs
    walk_at "dl"
    refine ⟨rfl, ⟨ps, dx, pl, pk, qs⟩, X.long, lv, [], (0, pp, f), rfl, st.1, by show f.length ≤ _; omega, by omega, by omega, fun O4 A' g1 g2 g3 g4 ⟨t, g5, g6⟩ kp => ?_⟩
    have hre : X.Re (0, pp, f) := .start (x := (f, pp)) hxm
    refine hN _ _ _ (.refl _) ⟨_, _, _, _, _, _, _, _, _, _, _, _, _, _, rfl, st.put g1 g2 g3 g4 g5 g6 kp, fun k e he => ?_, fun x hx' => ?_, ?_, ?_⟩
    · rw [Exq.putL_get] at he
      split at he
      · rename_i z
        rcases List.mem_append.mp he with he | he
        · exact h1 k e he
        · rw [List.mem_singleton.mp he]; exact ⟨hre, z.symm, Exq.ChE.start⟩
      · exact h1 k e he
    · rw [List.take_add_one, hx, Option.toList_some] at hx'
      rcases List.mem_append.mp hx' with hx' | hx'
      · exact (h2 x hx').put _
      · rw [List.mem_singleton.mp hx']; exact Exq.Ent.self _ _
    · rw [Exq.tot_putL, h3]
    · refine lv_short h4 ?_
      show f.length ≤ _
      omega
  · rintro env O3 ⟨x2, x4, x5, x6, x7, x8, x9, x10, x11, x12, x13, dx, lv, qs, rfl, st, h1, h2, h3, h4⟩
    rw [List.length_map, List.take_length] at h2
    rw [List.length_map] at h3
    have si := Exq.SI.start h1 h2
    have hB : X.logs.length * 4901 + 1 ≤ 40000 := by omega
    have hM : X.allM.length ≤ 900000 := Nat.le_trans Exq.allM_len sm.all
    walk_at "dl"
    refine wh_inv (fun m env O' => ∃ (num : Nat) (x2 x4 x5 x7 x8 x9 x10 x11 x12 x13 : Option D) (dx : Addr) (lv : List (List Mom)) (kn : List (Nat × List D)) (qs : List Addr), env = [some (endD (He.ga K "End") X.hs X.ss), some (.lst (X.logs.map lgV)), x2, some (.ref ps), x4, x5, some (.int (num : Nat)), x7, x8, x9, x10, x11, x12, x13] ∧ StX w K X O ps dx pl pk O' lv kn qs ∧ Exq.SI X lv kn kn num 0 ∧ tot lv ≤ 256 + 4 * kn.length ∧ lv.length ≤ X.logs.length * 4901 + 1 ∧ num ≤ lv.length ∧ m = X.logs.length * 4901 + 1 - num) _
      ⟨0, _, _, _, _, _, _, _, _, _, _, _, _, _, _, rfl, st, si, by omega, h4, Nat.zero_le _, rfl⟩ ?_
    clear st h1 h2 h3 h4 si st2
    rintro m N env O3 ⟨num, x2, x4, x5, x7, x8, x9, x10, x11, x12, x13, dx, lv, kn, qs, rfl, st, si, h3, h4, h5, rfl⟩ hN
    have hs := st.1.self
    have hl := st.1.lvO
    have hn := st.1.ln
    have hkl := Nat.le_trans (si.marks xp) hM
    dsimp only at hs hl hn
    walk_at "dw"
    rw [List.length_map, hn]
    refine if_d (fun hlt => ?_) (fun hlt => ?_)
    case refine_2 =>
      walk_at "dl"
      exact rt_same (hq none _ st.2.2 (si.none xp (by omega)))
    obtain ⟨q0, hq0⟩ : ∃ q0, qs[num]? = some q0 := ⟨_, List.getElem?_eq_getElem (by omega)⟩
    walk_at "dl"
    refine i_ixO (d := .ref q0) hl ?_ ?_
    · obtain ⟨d, e1, e2⟩ := atI_in (ds := qs.map D.ref) (i := (num : Int)) (by omega) (by rw [List.length_map]; omega)
      rw [e2, ← e1, Int.toNat_natCast, List.getElem?_map, hq0]
      rfl
    walk_at "dl"
    refine wh_inv (fun m env O' => ∃ (spot : Nat) (x2 x4 x5 x9 x10 x11 x12 x13 : Option D) (dx : Addr) (lv : List (List Mom)) (kn : List (Nat × List D)) (qs : List Addr), env = [some (endD (He.ga K "End") X.hs X.ss), some (.lst (X.logs.map lgV)), x2, some (.ref ps), x4, x5, some (.int (num : Nat)), some (.int (spot : Nat)), some (.ref q0), x9, x10, x11, x12, x13] ∧ StX w K X O ps dx pl pk O' lv kn qs ∧ qs[num]? = some q0 ∧ Exq.SI X lv kn kn num spot ∧ tot lv ≤ 256 + 4 * kn.length ∧ lv.length ≤ X.logs.length * 4901 + 1 ∧ num < lv.length ∧ spot ≤ (lv.getD num []).length ∧ m = 5 * (X.allM.length - kn.length) + ((lv.getD num []).length - spot)) _
      ⟨0, _, _, _, _, _, _, _, _, _, _, _, _, rfl, st, hq0, si, h3, h4, by omega, Nat.zero_le _, rfl⟩ ?_
    have hNN := hN
    clear st si h3 h4 h5 hs hl hn hkl hN hq0
    rintro m N2 env O4 ⟨spot, x2, x4, x5, x9, x10, x11, x12, x13, dx, lv, kn, qs, rfl, st, hq0, si, h3, h4, h5, h6, rfl⟩ hN
    have hs := st.1.self
    have hl := st.1.lvO
    have hn := st.1.ln
    have hw := st.1.el _ _ hq0
    have hmk := si.marks xp
    have hkl := Nat.le_trans hmk hM
    have htg := Exq.tot_ge lv num
    dsimp only at hs hl hn
    walk_at "dw"
    rw [List.length_map]
    refine if_d (fun hlt => ?_) (fun hlt => ?_)
    case refine_2 =>
      walk_at "dl"
      refine hNN _ _ _ _ ?_ (.refl _) ⟨num + 1, _, _, _, _, _, _, _, _, _, _, _, _, _, _, rfl, st, si.level (by omega), h3, h4, by omega, rfl⟩
      omega
    obtain ⟨⟨a, pp, f⟩, he⟩ : ∃ e, (lv.getD num [])[spot]? = some e := ⟨_, List.getElem?_eq_getElem (by omega)⟩
    obtain ⟨hre, hfl, hch⟩ := si.en num _ (List.mem_of_getElem? he)
    have lo := Exq.Re.lo xp hre
    have hplk := lo_plK lo
    have ha := hch.le
    have far := sm.far
    dsimp only at ha hfl hplk
    walk_at "dl"
    refine i_ixO (d := momD (a, pp, f)) hw ?_ ?_
    · obtain ⟨d, e1, e2⟩ := atI_in (ds := (lv.getD num []).map momD) (i := (spot : Int)) (by omega) (by rw [List.length_map]; omega)
      rw [e2, ← e1, Int.toNat_natCast, List.getElem?_map, he]
      rfl
    unfold momD
    have hppl : pp.length = X.logs.length := lo.len
    walk_at "dw"
    refine ⟨line_ok (by show pp.length ≤ _; omega), ?_⟩
    refine lcGo_fm (fun d => if isRw d then some d else none) trivial (fun d hd k z h1 h0 => ?_) ?_
    · have hpd : (∃ s, d = .str s) ∨ ∃ i : Int, d = .int i := by
        obtain ⟨i, hi⟩ := List.mem_iff_getElem?.mp hd
        have hi' : i < pp.length := (List.getElem?_eq_some_iff.mp hi).1
        have := lo.pl i (by omega)
        rw [show ((a, pp, f) : Mom).2.1 = pp from rfl, List.getD_eq_getElem?_getD, hi] at this
        exact pl_row this
      walk_at "dl"
      refine ⟨rfl, d, rfl, hpd, ?_⟩
      refine ⟨isRw d, rfl, ?_⟩
      cases e : isRw d with
      | true =>
        refine iteT ?_
        walk_at "dl"
        exact h1 _ _ (by rw [if_pos e]) (.refl _)
      | false =>
        refine iteF ?_
        exact h0 _ (by rw [if_neg (by rw [e]; decide)]) (.refl _)
    walk_at "dl"
    refine i_eqNil (good_rows hplk) ?_
    have hgn := going_nil pp
    cases hem : (pp.filterMap fun d => if isRw d then some d else none).isEmpty with
    | true =>
      have hg : Exq.going pp = [] := hgn.mp (List.isEmpty_iff.mp hem)
      refine iteT ?_
      walk_at "dl"
      have := hq (some f) _ st.2.2 (si.found xp he hg)
      rw [← hfl]
      exact rt_same this
    | false =>
      have hg : Exq.going pp ≠ [] := fun z => by rw [hgn.mpr z] at hem; cases hem
      refine iteF ?_
      refine i_next ?_
      walk_at "dw"
      refine ⟨rfl, ⟨ps, dx, pl, pk, qs⟩, X.long, lv, kn, a, pp, rfl, st.1, hkl, kn_plK xp si, hplk, fun hk => ?_, fun hk => ?_⟩
      · refine ⟨_, rfl, ?_⟩
        refine iteF ?_
        walk_at "dl"
        refine hN _ _ _ _ ?_ (.refl _) ⟨spot + 1, _, _, _, _, _, _, _, _, _, _, _, _, rfl, st, hq0, si.skip he hk, h3, h4, h5, by omega, rfl⟩
        omega
      · refine ⟨_, rfl, ?_⟩
        refine iteT ?_
        walk_at "dl"
        have stk : StX w K X O ps dx pl pk (setO O4 pk (.dN w ((kn ++ [(min a X.long, pp)]).map knD))) lv (kn ++ [(min a X.long, pp)]) qs := ⟨st.1.know, st.2.1, fun x o e => by
          rw [setO_ne fun z => by rw [z, st.2.1 pk (by simp [Sad.all])] at e; cases e]
          exact st.2.2 x o e⟩
        refine ⟨rfl, X, a, pp, f, rfl, ok, lo, hg, Nat.le_trans sm.nn (by decide), fun O5 sub5 => ?_⟩
        have st5 : StX w K X O ps dx pl pk O5 lv (kn ++ [(min a X.long, pp)]) qs := ⟨stk.1.sub sub5, stk.2.1, stk.2.2.trans sub5⟩
        have llen : (X.later a pp).length ≤ 4 := Nat.le_trans (Exq.later_len hppl) (Nat.le_trans (Nat.pow_le_pow_right (by decide) sm.nn) (by decide))
        have si5 := si.wide (kn2 := kn ++ [(min a X.long, pp)]) fun m hm => List.mem_append_left _ hm
        walk_at "dl"
        refine forGo_inv (fun i env O' => ∃ (x2 x10 x11 x12 x13 : Option D) (dx : Addr) (lv' : List (List Mom)) (qs : List Addr), env = [some (endD (He.ga K "End") X.hs X.ss), some (.lst (X.logs.map lgV)), x2, some (.ref ps), some (.tup (f.map fauD)), some (.tup pp), some (.int (num : Nat)), some (.int ((spot : Nat) + 1)), some (.ref q0), some (.int (a : Nat)), x10, x11, x12, x13] ∧ StX w K X O ps dx pl pk O' lv' (kn ++ [(min a X.long, pp)]) qs ∧ qs[num]? = some q0 ∧ Exq.SI X lv' kn (kn ++ [(min a X.long, pp)]) num spot ∧ (∀ e' ∈ (X.next (a, pp, f)).take i, Exq.Ent lv' e') ∧ tot lv' ≤ 256 + 4 * kn.length + i ∧ lv'.length ≤ X.logs.length * 4901 + 1 ∧ num < lv'.length ∧ (lv'.getD num [])[spot]? = some (a, pp, f) ∧ (lv'.getD num []).length ≤ (lv.getD num []).length + i)
          ⟨_, _, _, _, _, _, _, _, rfl, st5, hq0, si5, fun e' h' => by simp at h', by omega, h4, h5, he, by omega⟩ (fun _ _ _ _ _ => trivial) ?_ ?_
        · rintro N3 i y env O6 hy ⟨x2, x10, x11, x12, x13, dx, lv', qs, rfl, st, hq0, si, hent, h3, h4, h5, he, h6⟩ hN3
          rw [List.getElem?_map] at hy
          obtain ⟨x, hx, rfl⟩ := Option.map_eq_some_iff.mp hy
          have hxm := List.mem_of_getElem? hx
          have hil := (List.getElem?_eq_some_iff.mp hx).1
          have hs := st.1.self
          dsimp only at hs
          have hnx : (X.next (a, pp, f))[i]? = some (Exq.nxt a f x) := by
            unfold Exq.next
            rw [List.getElem?_map]
            dsimp only
            rw [hx]
            rfl
          have hnm := List.mem_of_getElem? hnx
          have hre2 : X.Re (Exq.nxt a f x) := .step hre hg hnm
          have hch2 : Exq.ChE X (kn ++ [(min a X.long, pp)]) (Exq.nxt a f x) := Exq.ChE.step xp hre hch hnm hk (fun m hm => List.mem_append_left _ hm) (List.mem_append_right _ List.mem_cons_self)
          have hxl : x.1.length ≤ 8 := by
            obtain ⟨e, _, rfl⟩ := Exq.later_mem.mp hxm
            have h1 := List.length_filter_le (fun k => decide (e k ≠ X.line pp)) (Exq.going pp)
            have h2 := List.length_filter_le (fun k => isRw (pp.getD k .non)) (List.range pp.length)
            rw [List.length_range] at h2
            have h3 : (Exq.going pp).length ≤ pp.length := h2
            show (List.filter _ _).length ≤ 8
            omega
          have hf0 : f.length = num := hfl
          have hfl2 : flen (Exq.nxt a f x) ≤ X.logs.length * 4901 := by
            refine Nat.le_trans (Exq.Re.flen_le xp hre2) (Nat.mul_le_mul_left _ ?_)
            have := hch2.le
            omega
          have hfl3 : num ≤ flen (Exq.nxt a f x) := by
            unfold flen Exq.nxt
            rw [List.length_append]
            omega
          have hsp := (List.getElem?_eq_some_iff.mp he).1
          unfold lpD
          walk_at "dl"
          refine ⟨line_ok (by rw [List.length_map]; omega), ?_⟩
          refine lcGo_map (fun d => .tup [.int ((a : Nat) + 1), d]) trivial (fun d hd k z hz => ?_) ?_
          · obtain ⟨j, _, rfl⟩ := List.mem_map.mp hd
            walk_at "dl"
            refine iteT ?_
            walk_at "dl"
            exact hz _ (.refl _)
          rw [List.map_map]
          walk_at "dl"
          refine ⟨_, rfl, ?_⟩
          refine i_addT (line_ok (by rw [List.length_map, List.length_map]; omega)) ?_
          rw [show f.map fauD ++ x.1.map ((fun d => D.tup [.int ((a : Nat) + 1), d]) ∘ fun k => D.int ((k : Nat) : Int)) = (f ++ x.1.map fun k => (((a + 1 : Nat) : Int), ((k : Nat) : Int))).map fauD from fau_add f a x.1]
          walk_at "dl"
          refine ⟨rfl, ⟨ps, dx, pl, pk, qs⟩, X.long, lv', kn ++ [(min a X.long, pp)], Exq.nxt a f x, rfl, st.1, by omega, by omega, by omega, fun O7 A' g1 g2 g3 g4 ⟨t, g5, g6⟩ kp => ?_⟩
          refine hN3 _ _ _ (.refl _) ⟨_, _, _, _, _, _, _, _, rfl, st.put g1 g2 g3 g4 g5 g6 kp, ?_, si.put hre2 hch2 hfl3 (by omega), fun e' h' => ?_, ?_, lv_short h4 hfl2, ?_, ?_, ?_⟩
          · rw [List.getElem?_append_left (List.getElem?_eq_some_iff.mp hq0).1]; exact hq0
          · rw [List.take_add_one, hnx, Option.toList_some] at h'
            rcases List.mem_append.mp h' with h' | h'
            · exact (hent e' h').put _
            · rw [List.mem_singleton.mp h']; exact Exq.Ent.self _ _
          · rw [Exq.tot_putL]; omega
          · rw [Exq.putL_len]; omega
          · rw [Exq.putL_get]
            split
            · rw [List.getElem?_append_left hsp]; exact he
            · exact he
          · rw [Exq.putL_get]
            split
            · rw [List.length_append, List.length_singleton]; omega
            · omega
        · rintro env O6 ⟨x2, x10, x11, x12, x13, dx, lv', qs, rfl, st, hq0, si, hent, h3, h4, h5, he, h6⟩
          rw [List.length_map] at hent h3 h6
          have hsp := (List.getElem?_eq_some_iff.mp he).1
          have sin := Exq.SI.new (e := (a, pp, f)) si he hk hg (show a < 5000 by omega) fun e' h' => hent e' (by
            rw [List.take_of_length_le (by unfold Exq.next; rw [List.length_map]; exact Nat.le_refl _)]
            exact h')
          have hml := sin.marks xp
          rw [List.length_append, List.length_singleton] at hml
          walk_at "dl"
          refine hN _ _ _ _ ?_ (.refl _) ⟨spot + 1, _, _, _, _, _, _, _, _, _, lv', _, _, rfl, st, hq0, sin, ?_, h4, h5, by omega, rfl⟩
          · rw [List.length_append, List.length_singleton]; omega
          · rw [List.length_append, List.length_singleton]; omega
end
end K62
set_option Elab.async false
set_option linter.all false
set_option maxRecDepth 100000
set_option maxHeartbeats 4000000
namespace K62
open PySem PySem.Spec PyProof.Rows L2 DL
open ClX (CRead CVal)
local macro_rules | `(tactic| walk_at "d1") => `(tactic| first | ((with_reducible apply i_var); exact rfl) | ((with_reducible apply i_gtup); exact rfl) | ((with_reducible apply i_augI); exact rfl) | ((with_reducible apply i_ixT); exact rfl) | ((with_reducible apply i_ixL); exact rfl) | with_reducible refine i_seq ?_ | with_reducible refine i_asg ?_ | with_reducible refine i_gname ?_ | with_reducible refine i_c ?_ | with_reducible refine i_op ?_ | with_reducible refine i_cb ?_ | with_reducible refine i_cons ?_ | with_reducible refine i_nil ?_ | with_reducible refine i_expr ?_ | with_reducible refine i_ret ?_ | with_reducible refine i_retN ?_ | with_reducible refine i_next ?_ | with_reducible refine i_for ?_ | with_reducible refine i_par ?_ | with_reducible refine i_test ?_ | with_reducible refine i_tup ?_ | with_reducible refine i_lst ?_ | ((with_reducible refine i_sz ?_ ?_); (focus exact Nat.le_of_ble_eq_true rfl)) | with_reducible refine i_lstO ?_ | with_reducible refine i_break ?_ | with_reducible refine i_cont ?_ | with_reducible refine i_gnil ?_ | with_reducible refine i_gcons ?_ | with_reducible refine i_tru ?_ | with_reducible refine i_and ?_ | with_reducible refine i_or ?_ | with_reducible refine i_not ?_ | with_reducible refine i_andV ?_ | with_reducible refine i_orV ?_ | with_reducible refine i_notV ?_ | with_reducible refine i_neg ?_ | with_reducible refine i_chain ?_ | with_reducible refine i_call ?_ | with_reducible refine i_callK ?_ | with_reducible refine i_append ?_ | with_reducible refine i_gsub ?_ | with_reducible refine i_sl ?_ | with_reducible refine i_slT ?_ | with_reducible refine i_slL ?_ | with_reducible refine i_oN ?_ | with_reducible refine i_oS ?_ | with_reducible refine i_lc ?_ | with_reducible refine i_lc2 ?_ | with_reducible refine i_lc2O ?_ | with_reducible refine i_lcO ?_ | with_reducible refine i_yes ?_ | with_reducible refine i_listRg1 ?_ | with_reducible refine i_rg1 ?_ | with_reducible refine i_rg2 ?_ | with_reducible refine i_seqI ?_ | with_reducible refine i_seqT ?_ | with_reducible refine i_seqL ?_ | with_reducible refine i_lt ?_ | with_reducible refine i_le ?_ | with_reducible refine i_gt ?_ | with_reducible refine i_ge ?_ | with_reducible refine i_sub ?_ | with_reducible refine i_addI ?_ | with_reducible refine i_int ?_ | with_reducible refine i_intb ?_ | with_reducible refine i_abs ?_ | with_reducible refine i_min2 ?_ | with_reducible refine i_max2 ?_ | with_reducible refine i_isN ?_ | with_reducible refine i_notN ?_ | with_reducible refine i_lenL ?_ | with_reducible refine i_lenT ?_ | ((with_reducible apply i_ixO); (focus (first | assumption | exact setO_same | (rw [setO_ne (by assumption)]; first | assumption | exact setO_same))); exact rfl) | ((with_reducible apply i_lenO); (focus (first | assumption | exact setO_same | (rw [setO_ne (by assumption)]; first | assumption | exact setO_same)))) | ((with_reducible apply i_appK); (focus (first | assumption | exact setO_same | (rw [setO_ne (by assumption)]; first | assumption | exact setO_same)))) | ((with_reducible apply i_subK); (focus (first | assumption | exact setO_same | (rw [setO_ne (by assumption)]; first | assumption | exact setO_same))); exact rfl) | ((with_reducible apply i_slO); (focus (first | assumption | exact setO_same | (rw [setO_ne (by assumption)]; first | assumption | exact setO_same)))) | ((with_reducible apply i_seqO); (focus (first | assumption | exact setO_same | (rw [setO_ne (by assumption)]; first | assumption | exact setO_same)))) | ((with_reducible apply i_appK2); (focus (first | assumption | exact setO_same | (rw [setO_ne (by assumption)]; first | assumption | exact setO_same)))) | with_reducible refine i_ice ?_ | with_reducible refine i_iceL ?_ | ((with_reducible apply i_iceK); (focus (first | assumption | exact setO_same | (rw [setO_ne (by assumption)]; first | assumption | exact setO_same)))) | with_reducible refine i_fld ?_ | ((with_reducible apply i_fldK); (focus (first | assumption | exact setO_same | (rw [setO_ne (by assumption)]; first | assumption | exact setO_same))); exact rfl) | with_reducible refine i_sfld ?_ | with_reducible refine i_make ?_ | with_reducible refine i_callK0 ?_ | with_reducible refine i_enum2 ?_ | with_reducible refine i_enumL ?_ | with_reducible refine i_enumT ?_ | with_reducible refine i_par3 ?_ | with_reducible refine i_dsp2 ?_ | ((with_reducible apply i_isi (b := true)); exact rfl; exact rfl; exact rfl) | ((with_reducible apply i_isi (b := false)); exact rfl; exact rfl; exact rfl) | with_reducible refine i_eqI ?_ | with_reducible refine i_neI ?_ | with_reducible refine i_truB ?_ | ((with_reducible apply i_fldI); exact rfl) | with_reducible refine i_iceI ?_ | with_reducible refine i_join ?_ | with_reducible refine i_dict0 ?_ | with_reducible refine i_isiI ?_ | with_reducible refine i_ownIn ?_ | with_reducible refine i_ownEq ?_ | with_reducible refine i_ownLen ?_ | with_reducible refine i_ownStr ?_ | with_reducible refine i_strS ?_ | with_reducible refine i_fmt ?_ | with_reducible refine i_pop ?_ | with_reducible refine i_listRg2 ?_ | with_reducible refine i_listRg2O ?_ | ((with_reducible apply i_popK); (focus (first | assumption | exact setO_same | (rw [setO_ne (by assumption)]; first | assumption | exact setO_same)))) | with_reducible refine i_raise ?_ | with_reducible refine i_tryAs ?_ | with_reducible refine i_xf ?_ | ((with_reducible apply i_xfK); exact rfl) | with_reducible refine i_js ?_ | with_reducible refine i_js0 ?_ | with_reducible refine i_makeK0 ?_ | with_reducible refine i_own ?_ | with_reducible refine i_ownT ?_ | with_reducible refine i_lenZ ?_ | with_reducible refine i_sortZ ?_ | with_reducible refine i_setL ?_ | with_reducible refine i_setLT ?_ | with_reducible refine i_sc ?_ | with_reducible refine i_setQ ?_ | with_reducible refine i_sc2 ?_ | with_reducible refine i_lenB ?_ | with_reducible refine i_bl ?_ | with_reducible refine i_tm ?_ | with_reducible refine i_lcnt ?_ | with_reducible refine i_setTI ?_ | ((with_reducible apply i_augL); exact rfl) | with_reducible refine i_scB ?_ | with_reducible refine i_key ?_ | with_reducible refine i_revL ?_ | with_reducible refine i_revT ?_ | with_reducible refine i_zip ?_ | with_reducible refine i_ltAI ?_ | with_reducible refine i_ltAS ?_ | with_reducible refine i_inRg1 ?_ | with_reducible refine i_inRg2 ?_ | with_reducible refine i_listRg1O ?_ | with_reducible refine i_tryM ?_ | with_reducible refine i_tryN ?_ | with_reducible refine i_upd ?_ | with_reducible refine i_mat ?_ | with_reducible refine i_matK ?_ | with_reducible refine i_mc0 ?_ | ((with_reducible apply i_mcY); (focus exact rfl)) | ((with_reducible apply i_mcN); (focus exact Nat.ne_of_beq_eq_false rfl)) | with_reducible refine i_ltT ?_ | with_reducible refine i_xi ?_ | with_reducible refine i_split ?_ | with_reducible refine i_count ?_ | with_reducible refine i_m0 ?_ | with_reducible refine i_m0K ?_ | with_reducible refine i_starA ?_ | with_reducible refine i_cm ?_ | with_reducible refine i_cmK ?_ | ((with_reducible apply i_makeL); exact rfl) | with_reducible refine i_int2I ?_ | with_reducible refine i_int2B ?_ | with_reducible refine i_clear ?_ | ((with_reducible apply i_clearK); (focus (first | assumption | exact setO_same | (rw [setO_ne (by assumption)]; first | assumption | exact setO_same)))) | with_reducible refine i_meth ?_ | with_reducible refine i_methM ?_ | ((with_reducible apply i_methKwO); (focus (first | assumption | exact setO_same | (rw [setO_ne (by assumption)]; first | assumption | exact setO_same))); exact rfl) | with_reducible refine i_extend ?_ | with_reducible refine i_lam ?_ | with_reducible refine i_dput ?_ | with_reducible refine i_dict0N ?_ | with_reducible refine i_dict1 ?_ | with_reducible refine i_disp2 ?_ | with_reducible refine i_disp3 ?_ | with_reducible refine i_dispN ?_ | with_reducible refine i_goC ?_ | ((with_reducible apply i_goK); exact rfl) | with_reducible refine i_goN ?_ | with_reducible refine i_setd ?_ | with_reducible refine i_idxL ?_ | with_reducible refine i_ixLK ?_ | with_reducible refine i_dc ?_ | with_reducible refine i_dct ?_ | with_reducible refine i_ckw ?_ | with_reducible refine i_iceA ?_ | with_reducible refine i_get2 ?_ | with_reducible refine i_get1 ?_ | with_reducible refine i_prop ?_ | with_reducible refine i_propI ?_ | ((with_reducible apply i_methI); exact rfl) | ((with_reducible apply i_methO); (focus (first | assumption | exact setO_same | (rw [setO_ne (by assumption)]; first | assumption | exact setO_same))); exact rfl))
local macro_rules | `(tactic| walk_at "dl") => `(tactic| repeat (walk_at "d1"))
local macro_rules | `(tactic| walk_at "dw") => `(tactic| repeat (first | with_reducible refine i_if ?_ | with_reducible refine i_ifE ?_ | walk_at "d1"))
section
variable {P : Program} {w : World} {K : Frag} {mg : Str → Option Value} {base : Heap}
def wlkD (rs : List D) : D → List Int → D
  | pl, [] => pl
  | pl, b :: u => if isRw pl then wlkD rs (nxD rs pl b) u else .non
def kSt (k : Nat) : Int := if k = 2 then 1 else 0
theorem mch_ix (hs ss : List D) {k : Nat} (hk : k < 3) : atI [D.lst hs, .lst ss] (kSt k) = some (.lst (mSt hs ss k)) := by
  rcases (show k = 0 ∨ k = 1 ∨ k = 2 by omega) with rfl | rfl | rfl <;> rfl
def f_law_walk : DF := fun ds O q _ => ∃ (k : Nat) (hs ss : List D) (u : List Int), ds = [.lst [.lst hs, .lst ss], .int (kSt k), .tup (u.map D.int), .int (rSt k)] ∧ k < 3 ∧ Sound hs ss ∧ bits u ∧ q (wlkD (mSt hs ss k) (.int (rSt k)) u) O
abbrev N_law_walk : List Str := ["_law_rows_here", "_law_kind", "_law_bits", "_law_body", "_law_place", "_law_bit"]
abbrev P_law_walk : List Str := ["_law_rows_here", "_law_kind", "_law_bits", "_law_body"]
theorem sc_law_walk : FnScope N_law_walk P_law_walk (defScope s_law_walk) := ⟨rfl, rfl, rfl, by decide +kernel, rfl, by decide +kernel, by decide +kernel⟩
theorem bd_law_walk : Bd0 "_law_walk" "_law_walk" s_law_walk P_law_walk := fun _ _ _ _ _ _ us hl => match us, hl with | [_, _, _, _], _ => rfl
abbrev Fn_law_walk (P : Program) (w : World) (K : Frag) (mg : Str → Option Value) (base : Heap) : Prop := Fn P w K mg base "_law_walk" "_law_walk" s_law_walk [] [] P_law_walk 4 1 f_law_walk (He.ga K "_law_walk")
theorem ok_law_walk {P : Program} {w : World} {K : Frag} {mg : Str → Option Value} {base : Heap} (F : HasD K "_law_walk" "_law_walk" s_law_walk [] [] (He.ga K "_law_walk")) (T : Txt K mg) : Fn_law_walk P w K mg base := by
  have sc := sc_law_walk
  refine fn_E (k := 0) F sc rfl fun cdv A outer s H E O0 H0 F0 ds O q xx hl hf S => ⟨_,
      (ds_cons (ds_set (ps_set (i := 4) sc.nd rfl (by first | exact Or.inl rfl | exact Or.inr rfl) (de_var (pv 3))))
      (ds_cons (ds_for (ps_for S.po rfl (di_seq S (de_var (pv 2))) (dg_name (pg_name (i := 5) sc.nd rfl (by first | exact Or.inl rfl | exact Or.inr rfl)))
       (ds_cons (ds_if (dt_not (st_tru S (so_isi S rfl T.b_isinstance (da_cons (de_var (pv 4)) (da_cons (so_ty (n := "int") rfl T.b_int) da_nil)))))
        (ds_one (ds_ret de_non))
        ds_nil)
       (ds_one (ds_set (ps_set (i := 4) sc.nd rfl (by first | exact Or.inl rfl | exact Or.inr rfl) (so_ix S (so_ix S (so_ix S (de_var (pv 0)) (de_var (pv 1)) (fun _ _ => rfl)) (de_var (pv 4)) (fun _ _ => rfl)) (so_add S de_int (de_var (pv 5))) (fun _ _ => rfl))))))))
      (ds_one (ds_ret (de_var (pv 4))))))
      , ?_⟩
  obtain ⟨k, hs, ss, u, rfl, hk, so, hb, hq⟩ := hf
  obtain ⟨hm, hf⟩ := st_ok so hk
  have hix := mch_ix hs ss hk
  generalize hrs : mSt hs ss k = rs at hm hf hq hix
  generalize hpl : D.int (rSt k) = pl0 at hf hq
  walk_at "dl"
  refine forGo_inv (fun i env O' => ∃ (pl : D) (x5 : Option D), env = [some (.lst [.lst hs, .lst ss]), some (.int (kSt k)), some (.tup (u.map D.int)), some pl0, some pl, x5] ∧ plB rs.length (wSt k) pl = true ∧ wlkD rs pl0 u = wlkD rs pl (u.drop i) ∧ O' = O)
    ⟨pl0, _, rfl, hf, rfl, rfl⟩ (fun _ _ _ _ _ => trivial) ?_ ?_
  · rintro N i y env O2 hy ⟨pl, x5, rfl, hp, he, rfl⟩ hN
    obtain ⟨b, hbi, rfl⟩ := map_get hy
    have hi := (List.getElem?_eq_some_iff.mp hbi).1
    have ed : u.drop i = b :: u.drop (i + 1) := by
      rw [List.drop_eq_getElem_cons hi]
      congr 1
      exact (List.getElem?_eq_some_iff.mp hbi).2
    have hbb := hb b (List.mem_of_getElem? hbi)
    rw [ed] at he
    rcases plB_cases hp with ⟨c, rfl, c0, c1⟩ | ⟨s, rfl, hs'⟩
    case inr =>
      walk_at "dw"
      refine iteT ?_
      walk_at "dl"
      rw [he] at hq
      exact rt_same hq
    walk_at "dw"
    refine iteF ?_
    refine i_next ?_
    obtain ⟨a1, a2, a3, ea, _, pa2, pa3, ia⟩ := row_at hm c0 c1
    have ja : atI [.int a1, a2, a3] (1 + b) = some (nxD rs (.int c) b) := by
      have : nxD rs (.int c) b = if b = 0 then a2 else a3 := by simp only [nxD, ea]
      rw [this]
      rcases hbb with rfl | rfl <;> rfl
    walk_at "dl"
    refine i_ixL hix ?_
    walk_at "dl"
    refine i_ixL ia ?_
    walk_at "dl"
    refine i_ixT ja ?_
    walk_at "dl"
    exact hN _ _ _ (.refl _) ⟨_, _, rfl, nx_pl hm hp b, he, rfl⟩
  · rintro env O2 ⟨pl, x5, rfl, hp, he, rfl⟩
    rw [List.length_map, List.drop_length] at he
    walk_at "dl"
    rw [he] at hq
    exact rt_same hq
theorem atI_last (ds : List D) (d : D) : atI (ds ++ [d]) (-1) = some d := by
  unfold atI ixN
  rw [if_neg (by decide), if_pos (by simp only [List.length_append, List.length_singleton]; omega)]
  have : (-1 + ((ds ++ [d]).length : Int)).toNat = ds.length := by simp only [List.length_append, List.length_singleton]; omega
  simp only [Option.bind_some, this]
  simp
def f_law_way : DF := fun ds O q _ => ∃ (p : Addr) (m : Int) (k : Nat) (hs ss : List D), ds = [.ref p, .lst [.lst hs, .lst ss], .int (kSt k), .int (rSt k)] ∧ Bag O p m ∧ m < 2 ^ 36 ∧ k < 3 ∧ Sound hs ss ∧ ∀ u O', Ex p O O' → Bag O' p (m + 12) → bits u → u.length ≤ 12 → q (.tup (u.map D.int)) O'
abbrev N_law_way : List Str := ["_law_bag_here", "_law_rows_here", "_law_kind", "_law_body", "_law_place", "_law_bits"]
abbrev P_law_way : List Str := ["_law_bag_here", "_law_rows_here", "_law_kind", "_law_body"]
theorem sc_law_way : FnScope N_law_way P_law_way (defScope s_law_way) := ⟨rfl, rfl, rfl, by decide +kernel, rfl, by decide +kernel, by decide +kernel⟩
theorem bd_law_way : Bd0 "_law_way" "_law_way" s_law_way P_law_way := fun _ _ _ _ _ _ us hl => match us, hl with | [_, _, _, _], _ => rfl
abbrev Fn_law_way (P : Program) (w : World) (K : Frag) (mg : Str → Option Value) (base : Heap) : Prop := Fn P w K mg base "_law_way" "_law_way" s_law_way [] [] P_law_way 4 2 f_law_way (He.ga K "_law_way")
structure C_law_way (P : Program) (w : World) (K : Frag) (mg : Str → Option Value) (base : Heap) : Prop where
  law_take : Fn_law_take P w K mg base
theorem ok_law_way {P : Program} {w : World} {K : Frag} {mg : Str → Option Value} {base : Heap} (F : HasD K "_law_way" "_law_way" s_law_way [] [] (He.ga K "_law_way")) (T : Txt K mg) (C : C_law_way P w K mg base) : Fn_law_way P w K mg base := by
  have sc := sc_law_way
  refine fn_E (k := 1) F sc rfl fun cdv A outer s H E O0 H0 F0 ds O q xx hl hf S => ⟨_,
      (ds_cons (ds_par (ps_par (i := 4) (j := 5) rfl sc.nd rfl rfl (by decide) rfl rfl (da_cons (de_var (pv 3)) (da_cons (de_lstO da_nil) da_nil)) (by rfl)))
      (ds_cons (ds_while (ps_while S.po (PW.pt (dw_and (st_tru S (so_isi S rfl T.b_isinstance (da_cons (de_var (pv 4)) (da_cons (so_ty (n := "int") rfl T.b_int) da_nil)))) (dw_and1 (st_lt S (so_len S rfl T.b_len (da_cons (de_var (pv 5)) da_nil)) de_int))))
       (ds_cons (ds_expr (so_append S (de_var (pv 5)) (da_cons (so_callF S C.law_take (by decide) T.g_law_take bd_law_take rfl (da_cons (de_var (pv 0)) (da_cons de_int da_nil))) da_nil)))
       (ds_one (ds_set (ps_set (i := 4) sc.nd rfl (by first | exact Or.inl rfl | exact Or.inr rfl) (so_ix S (so_ix S (so_ix S (de_var (pv 1)) (de_var (pv 2)) (fun _ _ => rfl)) (de_var (pv 4)) (fun _ _ => rfl)) (so_add S de_int (so_ix S (de_var (pv 5)) (so_neg S de_int) (fun _ _ => rfl))) (fun _ _ => rfl))))))))
      (ds_one (ds_ret (so_tuple S rfl T.b_tuple (da_cons (de_var (pv 5)) da_nil))))))
      , ?_⟩
  obtain ⟨p, m, k, hs, ss, rfl, hb, hm2, hk, so, hq⟩ := hf
  obtain ⟨hm, hf⟩ := st_ok so hk
  have hix := mch_ix hs ss hk
  generalize hrs : mSt hs ss k = rs at hm hf hix
  generalize hpl : D.int (rSt k) = pl0 at hf
  walk_at "dl"
  intro pb hpb
  walk_at "dl"
  refine wh_inv (fun mm env O' => ∃ (pl : D) (u : List Int) (pb : Addr), env = [some (.ref p), some (.lst [.lst hs, .lst ss]), some (.int (kSt k)), some pl0, some pl, some (.ref pb)] ∧ plB rs.length (wSt k) pl = true ∧ bits u ∧ u.length ≤ 12 ∧ O' pb = some (.lst (u.map D.int)) ∧ O pb = none ∧ pb ≠ p ∧ Ex p O O' ∧ Bag O' p (m + u.length) ∧ mm = 12 - u.length) _
    ⟨pl0, [], pb, rfl, hf, fun _ h => (List.not_mem_nil h).elim, by simp, setO_same, hpb, hb.off hpb, Ex.refl.fresh (hb.off hpb) hpb, (hb.other hpb).mono (by simp), rfl⟩ ?_
  rintro mm N env O1 ⟨pl, u, pb, rfl, hp, hu, hul, f1, pb0, npb, ex, bg, rfl⟩ hN
  rcases plB_cases hp with ⟨c, rfl, c0, c1⟩ | ⟨s, rfl, hs'⟩
  case inr =>
    walk_at "dw"
    refine iteF ?_
    refine iteF ?_
    walk_at "dl"
    refine ⟨_, asL_ref f1, ?_⟩
    exact rt_same (hq u _ ex (bg.mono (by omega)) hu hul)
  walk_at "dw"
  refine iteT ?_
  walk_at "dw"
  rw [List.length_map]
  refine if_d (fun hlt => ?_) (fun hlt => ?_)
  case refine_2 =>
    walk_at "dl"
    refine ⟨_, asL_ref f1, ?_⟩
    exact rt_same (hq u _ ex (bg.mono (by omega)) hu hul)
  walk_at "dl"
  refine ⟨rfl, p, 2, _, rfl, bg, by omega, by decide, by decide, fun b o h0 h1 hb2 => ?_⟩
  have f2 : setO O1 p o pb = some (.lst (u.map D.int)) := by rw [setO_ne npb]; exact f1
  have hbb : b = 0 ∨ b = 1 := by omega
  obtain ⟨a1, a2, a3, ea, _, pa2, pa3, ia⟩ := row_at hm c0 c1
  have ja : atI [.int a1, a2, a3] (1 + b) = some (nxD rs (.int c) b) := by
    have : nxD rs (.int c) b = if b = 0 then a2 else a3 := by simp only [nxD, ea]
    rw [this]
    rcases hbb with rfl | rfl <;> rfl
  have f3 : setO (setO O1 p o) pb (.lst (u.map D.int ++ [.int b])) pb = some (.lst ((u ++ [b]).map D.int)) := by rw [setO_same, List.map_append]; rfl
  walk_at "dl"
  · rw [List.length_map, sizeLine_eq]; omega
  walk_at "dl"
  refine i_ixL hix ?_
  walk_at "dl"
  refine i_ixL ia ?_
  walk_at "dl"
  refine i_ixO f3 (d := .int b) ?_ ?_
  · rw [List.map_append]; exact atI_last _ _
  walk_at "dl"
  refine i_ixT ja ?_
  walk_at "dl"
  refine hN _ _ _ _ ?_ (.refl _) ⟨_, u ++ [b], pb, rfl, nx_pl hm hp b, ?_, ?_, f3, pb0, npb, ?_, ?_, rfl⟩
  · rw [List.length_append, List.length_singleton]; omega
  · intro x hx
    rcases List.mem_append.mp hx with hx | hx
    · exact hu x hx
    · rw [List.mem_singleton.mp hx]; exact hbb
  · rw [List.length_append, List.length_singleton]; omega
  · exact ex.set.mine pb0
  · rw [List.length_append, List.length_singleton]
    exact (hb2.put npb).mono (by push_cast; omega)
theorem bits_all : ∀ {es : List D}, es.all bitB = true → ∃ u : List Int, bits u ∧ es = u.map D.int
  | [], _ => ⟨[], fun _ h => (List.not_mem_nil h).elim, rfl⟩
  | d :: es, h => by
    rw [List.all_cons, Bool.and_eq_true] at h
    obtain ⟨u, hu, rfl⟩ := bits_all h.2
    obtain ⟨b, rfl, hb⟩ := bitB_int h.1
    refine ⟨b :: u, fun x hx => ?_, rfl⟩
    rcases List.mem_cons.mp hx with rfl | hx
    · exact hb
    · exact hu x hx
theorem lgE_no (rs : List D) : ∀ {es : List D} (pl : D), (∃ d ∈ es, bitB d = false) → lgE rs pl es = false
  | [], _, h => by obtain ⟨_, h, _⟩ := h; cases h
  | d :: es, pl, ⟨d', h, hb⟩ => by
    show (isRw pl && bitB d && _) = false
    cases hd : bitB d with
    | false => simp
    | true =>
      obtain ⟨b, rfl, _⟩ := bitB_int hd
      rcases List.mem_cons.mp h with rfl | h
      · rw [hb] at hd; cases hd
      · dsimp only
        rw [lgE_no rs _ ⟨d', h, hb⟩, Bool.and_false]
theorem wlk_lg {rs : List D} {ws : List Str} (hm : Mach ws rs) : ∀ (u : List Int) (pl : D), plB rs.length ws pl = true → (wlkD rs pl u = .non ∧ lgP rs pl u = false) ∨ (∃ s, wlkD rs pl u = .str s ∧ lgP rs pl u = true) ∨ ∃ i, wlkD rs pl u = .int i ∧ lgP rs pl u = false
  | [], pl, h => by
    rcases plB_cases h with ⟨i, rfl, _⟩ | ⟨s, rfl, _⟩
    · exact .inr (.inr ⟨i, rfl, rfl⟩)
    · exact .inr (.inl ⟨s, rfl, rfl⟩)
  | b :: u, pl, h => by
    have ih := wlk_lg hm u (nxD rs pl b) (nx_pl hm h b)
    show ((if isRw pl then _ else _) = _ ∧ (isRw pl && _) = _) ∨ (∃ s, (if isRw pl then _ else _) = _ ∧ (isRw pl && _) = _) ∨ ∃ i, (if isRw pl then _ else _) = _ ∧ (isRw pl && _) = _
    cases isRw pl with
    | true => simpa using ih
    | false => exact .inl ⟨rfl, rfl⟩
def f_law_is_due : DF := fun ds O q _ => ∃ (k : Nat) (hs ss : List D) (d : D), ds = [.lst [.lst hs, .lst ss], .str (sSt k), d] ∧ k < 3 ∧ Sound hs ss ∧ (good d = true ∨ ∃ t, tyN O d = some t ∧ t ≠ "tuple") ∧ q (.bl (lgD (mSt hs ss k) (.int (rSt k)) d)) O
abbrev N_law_is_due : List Str := ["_law_rows_here", "_law_start", "_law_thing", "_law_bit"]
abbrev P_law_is_due : List Str := ["_law_rows_here", "_law_start", "_law_thing"]
theorem sc_law_is_due : FnScope N_law_is_due P_law_is_due (defScope s_law_is_due) := ⟨rfl, rfl, rfl, by decide +kernel, rfl, by decide +kernel, by decide +kernel⟩
theorem bd_law_is_due : Bd0 "_law_is_due" "_law_is_due" s_law_is_due P_law_is_due := fun _ _ _ _ _ _ us hl => match us, hl with | [_, _, _], _ => rfl
abbrev Fn_law_is_due (P : Program) (w : World) (K : Frag) (mg : Str → Option Value) (base : Heap) : Prop := Fn P w K mg base "_law_is_due" "_law_is_due" s_law_is_due [] [] P_law_is_due 3 2 f_law_is_due (He.ga K "_law_is_due")
structure C_law_is_due (P : Program) (w : World) (K : Frag) (mg : Str → Option Value) (base : Heap) : Prop where
  law_walk : Fn_law_walk P w K mg base
theorem ok_law_is_due {P : Program} {w : World} {K : Frag} {mg : Str → Option Value} {base : Heap} (F : HasD K "_law_is_due" "_law_is_due" s_law_is_due [] [] (He.ga K "_law_is_due")) (T : Txt K mg) (C : C_law_is_due P w K mg base) : Fn_law_is_due P w K mg base := by
  have sc := sc_law_is_due
  refine fn_E (k := 1) F sc rfl fun cdv A outer s H E O0 H0 F0 ds O q xx hl hf S => ⟨_,
      (ds_cons (ds_if (dt_not (st_tru S (so_isi S rfl T.b_isinstance (da_cons (de_var (pv 2)) (da_cons (so_ty (n := "tuple") rfl T.b_tuple) da_nil)))))
       (ds_one (ds_ret de_bl))
       ds_nil)
      (ds_cons (ds_for (ps_for S.po rfl (di_seq S (de_var (pv 2))) (dg_name (pg_name (i := 3) sc.nd rfl (by first | exact Or.inl rfl | exact Or.inr rfl)))
       (ds_one (ds_if (PW.pt (dw_or (st_tru S (so_isi S rfl T.b_isinstance (da_cons (de_var (pv 3)) (da_cons (so_ty (n := "bool") rfl T.b_bool) da_nil)))) (dw_or (dt_not (st_tru S (so_isi S rfl T.b_isinstance (da_cons (de_var (pv 3)) (da_cons (so_ty (n := "int") rfl T.b_int) da_nil))))) (dw_or1 (st_notin S (de_var (pv 3)) (de_tup (da_cons de_int (da_cons de_int da_nil))))))))
        (ds_one (ds_ret de_bl))
        ds_nil))))
      (ds_one (ds_ret (so_isi S rfl T.b_isinstance (da_cons (so_callF S C.law_walk (by decide) T.g_law_walk bd_law_walk rfl (da_cons (de_var (pv 0)) (da_cons (so_int S rfl T.b_int (da_cons (so_eq S (de_var (pv 1)) de_str) da_nil)) (da_cons (de_var (pv 2)) (da_cons (so_int S rfl T.b_int (da_cons (so_eq S (de_var (pv 1)) de_str) da_nil)) da_nil))))) (da_cons (so_ty (n := "str") rfl T.b_str) da_nil)))))))
      , ?_⟩
  obtain ⟨k, hs, ss, d, rfl, hk, so, hd, hq⟩ := hf
  have gk : strGood (sSt k) = true := by
    rcases (show k = 0 ∨ k = 1 ∨ k = 2 by omega) with rfl | rfl | rfl <;> decide +kernel
  walk_at "dw"
  have notT : ∀ t, tyN O d = some t → t ≠ "tuple" → lgD (mSt hs ss k) (.int (rSt k)) d = false := fun t e n => by
    cases d <;> try rfl
    exact absurd (Option.some.inj e).symm n
  rcases hd with hd | ⟨t, e, hn⟩
  case inr =>
    refine i_isi (b := false) e rfl (kit_ne hn) ?_
    refine ⟨false, rfl, ?_⟩
    refine iteT ?_
    walk_at "dw"
    rw [notT t e hn] at hq
    exact rt_same hq
  cases d with
  | tup es =>
    walk_at "dw"
    refine iteF ?_
    refine i_next ?_
    walk_at "dl"
    refine forGo_inv (fun i env O' => ∃ (x3 : Option D), env = [some (.lst [.lst hs, .lst ss]), some (.str (sSt k)), some (.tup es), x3] ∧ (es.take i).all bitB = true ∧ O' = O)
      ⟨_, rfl, rfl, rfl⟩ (fun _ _ _ _ _ => trivial) ?_ ?_
    · rintro N i y env O2 hy ⟨x3, rfl, he, rfl⟩ hN
      have hym := List.mem_of_getElem? hy
      have gy : good y = true := good_tup hd y hym
      have no : bitB y = false → q (.bl false) O2 := fun hb => by
        have := lgE_no (mSt hs ss k) (.int (rSt k)) ⟨y, hym, hb⟩
        have hq : q (.bl (lgE (mSt hs ss k) (.int (rSt k)) es)) O2 := hq
        rw [this] at hq
        exact hq
      have yes : bitB y = true → ((es.take (i + 1)).all bitB = true) := fun hb => by
        rw [List.take_add_one, hy, Option.toList_some, List.all_append, he]
        simp [hb]
      cases y with
      | bl b =>
        walk_at "dw"
        refine iteT ?_
        walk_at "dl"
        exact rt_same (no rfl)
      | int b =>
        walk_at "dw"
        refine iteF ?_
        walk_at "dw"
        refine iteF ?_
        walk_at "dw"
        refine i_notinTI (ws := [0, 1]) ?_
        cases hb : bitB (.int b) with
        | false =>
          rw [show ([0, 1] : List Int).contains b = false from by simpa [bitB] using hb]
          refine iteT ?_
          walk_at "dl"
          exact rt_same (no hb)
        | true =>
          rw [show ([0, 1] : List Int).contains b = true from by simpa [bitB] using hb]
          refine iteF ?_
          refine i_next ?_
          exact hN _ _ _ (.refl _) ⟨_, rfl, yes hb, rfl⟩
      | ref _ => simp [good, pd] at gy
      | ty _ => simp [good, pd] at gy
      | ins _ _ _ => simp [good, pd] at gy
      | _ =>
        walk_at "dw"
        refine iteF ?_
        walk_at "dw"
        refine iteT ?_
        walk_at "dl"
        exact rt_same (no rfl)
    · rintro env O2 ⟨x3, rfl, he, rfl⟩
      rw [List.take_length] at he
      obtain ⟨u, hu, rfl⟩ := bits_all he
      walk_at "dl"
      refine i_eqS gk (by decide +kernel) ?_
      walk_at "dl"
      refine i_eqS gk (by decide +kernel) ?_
      walk_at "dl"
      rw [show (if decide (sSt k = "sender") = true then (1 : Int) else 0) = kSt k from by
        rcases (show k = 0 ∨ k = 1 ∨ k = 2 by omega) with rfl | rfl | rfl <;> decide +kernel,
        show (if decide (sSt k = "wrong") = true then (1 : Int) else 0) = rSt k from by
        rcases (show k = 0 ∨ k = 1 ∨ k = 2 by omega) with rfl | rfl | rfl <;> decide +kernel]
      have hq : q (.bl (lgE (mSt hs ss k) (.int (rSt k)) (u.map D.int))) O2 := hq
      rw [lgE_bits _ _ _ hu] at hq
      obtain ⟨hm, hf⟩ := st_ok so hk
      refine ⟨rfl, k, hs, ss, u, rfl, hk, so, hu, ?_⟩
      rcases wlk_lg hm u _ hf with ⟨e1, e2⟩ | ⟨s, e1, e2⟩ | ⟨i, e1, e2⟩
      · rw [e1]; rw [e2] at hq
        walk_at "dl"
        exact rt_same hq
      · rw [e1]; rw [e2] at hq
        walk_at "dl"
        exact rt_same hq
      · rw [e1]; rw [e2] at hq
        walk_at "dl"
        exact rt_same hq
  | _ =>
    first
      | (refine i_isi (b := false) rfl rfl rfl ?_
         refine ⟨false, rfl, ?_⟩
         refine iteT ?_
         walk_at "dw"
         exact rt_same hq)
      | simp [good, pd] at hd
theorem cutD_mem {ds : List D} {l u : Option Int} {d : D} (h : d ∈ DL.cutD ds l u) : d ∈ ds := by
  unfold DL.cutD at h
  exact List.mem_of_mem_drop (List.mem_of_mem_take h)
theorem cutD_len {ds : List D} {l u : Option Int} : (DL.cutD ds l u).length ≤ ds.length := by
  unfold DL.cutD
  rw [List.length_take, List.length_drop]
  omega
theorem good_cat {a b : List D} (h1 : ∀ d ∈ a, good d = true ∧ (py d).depth ≤ 60) (h2 : ∀ d ∈ b, good d = true ∧ (py d).depth ≤ 60) : ∀ d ∈ a ++ b, good d = true ∧ (py d).depth ≤ 60 := fun d hd => (List.mem_append.mp hd).elim (h1 d) (h2 d)
def f_law_bent : DF := fun ds O q _ => ∃ (p : Addr) (m : Int) (u : List Int), ds = [.ref p, .tup (u.map D.int)] ∧ Bag O p m ∧ m < 2 ^ 36 ∧ u.length ≤ 20 ∧ ∀ d O', Ex p O O' → Bag O' p (m + 3) → good d = true → q d O'
abbrev N_law_bent : List Str := ["_law_bag_here", "_law_bits", "_law_way_here", "_law_spot", "_law_odd", "_law_bit"]
abbrev P_law_bent : List Str := ["_law_bag_here", "_law_bits"]
theorem sc_law_bent : FnScope N_law_bent P_law_bent (defScope s_law_bent) := ⟨rfl, rfl, rfl, by decide +kernel, rfl, by decide +kernel, by decide +kernel⟩
theorem bd_law_bent : Bd0 "_law_bent" "_law_bent" s_law_bent P_law_bent := fun _ _ _ _ _ _ us hl => match us, hl with | [_, _], _ => rfl
abbrev Fn_law_bent (P : Program) (w : World) (K : Frag) (mg : Str → Option Value) (base : Heap) : Prop := Fn P w K mg base "_law_bent" "_law_bent" s_law_bent [] [] P_law_bent 2 3 f_law_bent (He.ga K "_law_bent")
structure C_law_bent (P : Program) (w : World) (K : Frag) (mg : Str → Option Value) (base : Heap) : Prop where
  law_of : Fn_law_of P w K mg base
  law_take : Fn_law_take P w K mg base
theorem ok_law_bent {P : Program} {w : World} {K : Frag} {mg : Str → Option Value} {base : Heap} (F : HasD K "_law_bent" "_law_bent" s_law_bent [] [] (He.ga K "_law_bent")) (T : Txt K mg) (C : C_law_bent P w K mg base) : Fn_law_bent P w K mg base := by
  have sc := sc_law_bent
  refine fn_E (k := 2) F sc rfl fun cdv A outer s H E O0 H0 F0 ds O q xx hl hf S => ⟨_,
      (ds_cons (ds_par (ps_par (i := 2) (j := 3) rfl sc.nd rfl rfl (by decide) rfl rfl (da_cons (so_callF S C.law_take (by decide) T.g_law_take bd_law_take rfl (da_cons (de_var (pv 0)) (da_cons de_int da_nil))) (da_cons (so_callF S C.law_take (by decide) T.g_law_take bd_law_take rfl (da_cons (de_var (pv 0)) (da_cons (so_add S (so_len S rfl T.b_len (da_cons (de_var (pv 1)) da_nil)) de_int) da_nil))) da_nil)) (by rfl)))
      (ds_cons (ds_if (st_lt S (de_var (pv 2)) de_int)
       (ds_one (ds_ret (so_ix S (de_lst (da_cons (de_slice rfl (de_var (pv 1)) do_none (do_some (so_neg S de_int))) (da_cons (so_add S (de_var (pv 1)) (de_tup (da_cons de_int da_nil))) da_nil))) (de_var (pv 2)) (fun _ _ => rfl))))
       ds_nil)
      (ds_cons (ds_if (st_eq S (de_var (pv 2)) de_int)
       (ds_one (ds_ret (so_add S (de_slice rfl (de_var (pv 1)) do_none (do_some (de_var (pv 3)))) (de_slice rfl (de_var (pv 1)) (do_some (so_add S (de_var (pv 3)) de_int)) do_none))))
       ds_nil)
      (ds_cons (ds_if (st_eq S (de_var (pv 2)) de_int)
       (ds_cons (ds_set (ps_set (i := 4) sc.nd rfl (by first | exact Or.inl rfl | exact Or.inr rfl) (so_callF S C.law_of (by decide) T.g_law_of bd_law_of rfl (da_cons (de_var (pv 0)) (da_cons (de_lst (da_cons de_bl (da_cons de_bl (da_cons de_non (da_cons de_str (da_cons de_int (da_cons (so_neg S de_int) (da_cons (de_tup (da_cons de_int da_nil)) (da_cons (so_pow S de_int de_int) da_nil))))))))) da_nil)))))
       (ds_one (ds_ret (so_add S (so_add S (de_slice rfl (de_var (pv 1)) do_none (do_some (de_var (pv 3)))) (de_tup (da_cons (de_var (pv 4)) da_nil))) (de_slice rfl (de_var (pv 1)) (do_some (so_add S (de_var (pv 3)) de_int)) do_none)))))
       ds_nil)
      (ds_one (ds_ret (so_add S (so_add S (de_slice rfl (de_var (pv 1)) do_none (do_some (de_var (pv 3)))) (so_tuple S rfl T.b_tuple (da_cons (de_lc (simG_name (vs := [5]) (i := 5) (by decide)) (pe_lc (own := [("_law_bit", 5)]) (g := (gName 5)) rfl sc.nd (di_seq S (de_slice rfl (de_var (pv 1)) (do_some (de_var (pv 3))) (do_some (so_add S (de_var (pv 3)) de_int)))) (blkOk_by (own := [("_law_bit", 5)]) (N := N_law_bent) (sc := defScope s_law_bent) (by decide +kernel)) (fun _ _ _ _ _ => (pg_name (i := 5) sc.nd rfl (by first | exact Or.inl rfl | exact Or.inr rfl))) (fun _ _ _ _ _ => dts_nil) (fun _ _ _ _ _ => (so_sub S.blk de_int (de_var (pv 5)))))) da_nil))) (de_slice rfl (de_var (pv 1)) (do_some (so_add S (de_var (pv 3)) de_int)) do_none))))))))
      , ?_⟩
  obtain ⟨p, m, u, rfl, hb, hm2, hul, hq⟩ := hf
  walk_at "dl"
  refine ⟨rfl, p, 5, _, rfl, hb, by omega, by decide, by decide, fun w1 o1 w10 w11 hb1 => ?_⟩
  walk_at "dl"
  rw [List.length_map]
  refine ⟨rfl, p, _, _, rfl, hb1, by omega, by omega, by omega, fun sp o2 s0 s1 hb2 => ?_⟩
  obtain ⟨sp, rfl⟩ := Int.eq_ofNat_of_zero_le s0
  have ex : Ex p O (setO (setO O p o1) p o2) := Ex.refl.set.set
  have hspl : sp ≤ (u.map D.int).length := by rw [List.length_map]; omega
  have gu : ∀ d ∈ u.map D.int, good d = true ∧ (py d).depth ≤ 60 := fun d hd => by
    obtain ⟨i, _, rfl⟩ := List.mem_map.mp hd
    exact ⟨good_int i, by simp [py, PyData.depth]⟩
  have g1 : ∀ d ∈ [D.int 1], good d = true ∧ (py d).depth ≤ 60 := fun d hd => by
    rw [List.mem_singleton.mp hd]
    exact ⟨good_int 1, by simp [py, PyData.depth]⟩
  have cl : ∀ l u', (DL.cutD (u.map D.int) l u').length ≤ 20 := fun l u' => Nat.le_trans cutD_len (by rw [List.length_map]; exact hul)
  have gc : ∀ l u', ∀ d ∈ DL.cutD (u.map D.int) l u', good d = true ∧ (py d).depth ≤ 60 := fun l u' d hd => gu d (cutD_mem hd)
  walk_at "dw"
  refine if_d (fun c1 => ?_) (fun c1 => ?_)
  · walk_at "dl"
    refine i_addT (line_ok (by rw [List.length_map]; simp; omega)) ?_
    walk_at "dl"
    rcases (show w1 = 0 ∨ w1 = 1 by omega) with rfl | rfl
    · refine i_ixL (d := .tup (DL.cutD (u.map D.int) none (some (-1)))) rfl ?_
      exact rt_same (hq _ _ ex (hb2.mono (by omega)) (good_tupI (gc _ _)))
    · refine i_ixL (d := .tup (u.map D.int ++ [.int 1])) rfl ?_
      exact rt_same (hq _ _ ex (hb2.mono (by omega)) (good_tupI (good_cat gu g1)))
  refine i_next ?_
  walk_at "dw"
  refine if_d (fun c2 => ?_) (fun c2 => ?_)
  · walk_at "dl"
    refine i_addT (line_ok (by have := cl none (some ((sp : Nat) : Int)); have := cl (some ((sp : Int) + 1)) none; omega)) ?_
    walk_at "dl"
    exact rt_same (hq _ _ ex (hb2.mono (by omega)) (good_tupI (good_cat (gc _ _) (gc _ _))))
  refine i_next ?_
  walk_at "dw"
  refine if_d (fun c3 => ?_) (fun c3 => ?_)
  · walk_at "dl"
    refine i_pow (powW (m := 4) (by decide) (by decide) (by decide) (by decide)) ?_
    walk_at "dl"
    refine ⟨rfl, p, _, _, rfl, hb2, by omega, by simp, by simp, fun o od hod hb3 => ?_⟩
    have god : good o = true ∧ (py o).depth ≤ 60 := by
      simp only [List.mem_cons, List.mem_nil_iff, or_false] at hod
      rcases hod with rfl | rfl | rfl | rfl | rfl | rfl | rfl | rfl
      all_goals first | exact ⟨good_int _, by simp [py, PyData.depth]⟩ | exact ⟨by decide +kernel, by decide +kernel⟩
    walk_at "dl"
    refine i_addT (line_ok (by have := cl none (some ((sp : Nat) : Int)); rw [List.length_singleton]; omega)) ?_
    walk_at "dl"
    refine i_addT (line_ok (by have := cl none (some ((sp : Nat) : Int)); have := cl (some ((sp : Int) + 1)) none; rw [List.length_append, List.length_singleton]; omega)) ?_
    walk_at "dl"
    exact rt_same (hq _ _ ex.set (hb3.mono (by omega)) (good_tupI (good_cat (good_cat (gc _ _) fun d hd => by rw [List.mem_singleton.mp hd]; exact god) (gc _ _))))
  refine i_next ?_
  walk_at "dl"
  refine ⟨line_ok (by have := cl (some ((sp : Nat) : Int)) (some ((sp : Int) + 1)); omega), ?_⟩
  refine lcGo_map (fun d => match d with | .int b => .int (1 - b) | d => d) trivial (fun d hd z z2 hz => ?_) ?_
  · obtain ⟨b, _, rfl⟩ := List.mem_map.mp (cutD_mem hd)
    walk_at "dl"
    refine iteT ?_
    walk_at "dl"
    exact hz _ (.refl _)
  have gm : ∀ d ∈ (DL.cutD (u.map D.int) (some ((sp : Nat) : Int)) (some ((sp : Int) + 1))).map (fun d => match d with | .int b => .int (1 - b) | d => d), good d = true ∧ (py d).depth ≤ 60 := fun d hd => by
    obtain ⟨e, he, rfl⟩ := List.mem_map.mp hd
    obtain ⟨b, _, rfl⟩ := List.mem_map.mp (cutD_mem he)
    exact ⟨good_int _, by simp [py, PyData.depth]⟩
  walk_at "dl"
  refine ⟨_, rfl, ?_⟩
  have k1 := cl none (some ((sp : Nat) : Int))
  have k2 := cl (some ((sp : Nat) : Int)) (some ((sp : Int) + 1))
  have k3 := cl (some ((sp : Int) + 1)) none
  refine i_addT (line_ok (by rw [List.length_map]; omega)) ?_
  walk_at "dl"
  refine i_addT (line_ok (by rw [List.length_append, List.length_map]; omega)) ?_
  exact rt_same (hq _ _ ex (hb2.mono (by omega)) (good_tupI (good_cat (good_cat (gc _ _) gm) (gc _ _))))
end
end K62
set_option Elab.async false
set_option linter.all false
set_option maxRecDepth 100000
set_option maxHeartbeats 4000000
namespace K62
open PySem PySem.Spec PyProof.Rows L2 DL
open ClX (CRead CVal)
local macro_rules | `(tactic| walk_at "d1") => `(tactic| first | ((with_reducible apply i_var); exact rfl) | ((with_reducible apply i_gtup); exact rfl) | ((with_reducible apply i_augI); exact rfl) | ((with_reducible apply i_ixT); exact rfl) | ((with_reducible apply i_ixL); exact rfl) | with_reducible refine i_seq ?_ | with_reducible refine i_asg ?_ | with_reducible refine i_gname ?_ | with_reducible refine i_c ?_ | with_reducible refine i_op ?_ | with_reducible refine i_cb ?_ | with_reducible refine i_cons ?_ | with_reducible refine i_nil ?_ | with_reducible refine i_expr ?_ | with_reducible refine i_ret ?_ | with_reducible refine i_retN ?_ | with_reducible refine i_next ?_ | with_reducible refine i_for ?_ | with_reducible refine i_par ?_ | with_reducible refine i_test ?_ | with_reducible refine i_tup ?_ | with_reducible refine i_lst ?_ | ((with_reducible refine i_sz ?_ ?_); (focus exact Nat.le_of_ble_eq_true rfl)) | with_reducible refine i_lstO ?_ | with_reducible refine i_break ?_ | with_reducible refine i_cont ?_ | with_reducible refine i_gnil ?_ | with_reducible refine i_gcons ?_ | with_reducible refine i_tru ?_ | with_reducible refine i_and ?_ | with_reducible refine i_or ?_ | with_reducible refine i_not ?_ | with_reducible refine i_andV ?_ | with_reducible refine i_orV ?_ | with_reducible refine i_notV ?_ | with_reducible refine i_neg ?_ | with_reducible refine i_chain ?_ | with_reducible refine i_call ?_ | with_reducible refine i_callK ?_ | with_reducible refine i_append ?_ | with_reducible refine i_gsub ?_ | with_reducible refine i_sl ?_ | with_reducible refine i_slT ?_ | with_reducible refine i_slL ?_ | with_reducible refine i_oN ?_ | with_reducible refine i_oS ?_ | with_reducible refine i_lc ?_ | with_reducible refine i_lc2 ?_ | with_reducible refine i_lc2O ?_ | with_reducible refine i_lcO ?_ | with_reducible refine i_yes ?_ | with_reducible refine i_listRg1 ?_ | with_reducible refine i_rg1 ?_ | with_reducible refine i_rg2 ?_ | with_reducible refine i_seqI ?_ | with_reducible refine i_seqT ?_ | with_reducible refine i_seqL ?_ | with_reducible refine i_lt ?_ | with_reducible refine i_le ?_ | with_reducible refine i_gt ?_ | with_reducible refine i_ge ?_ | with_reducible refine i_sub ?_ | with_reducible refine i_addI ?_ | with_reducible refine i_int ?_ | with_reducible refine i_intb ?_ | with_reducible refine i_abs ?_ | with_reducible refine i_min2 ?_ | with_reducible refine i_max2 ?_ | with_reducible refine i_isN ?_ | with_reducible refine i_notN ?_ | with_reducible refine i_lenL ?_ | with_reducible refine i_lenT ?_ | ((with_reducible apply i_ixO); (focus (first | assumption | exact setO_same | (rw [setO_ne (by assumption)]; first | assumption | exact setO_same))); exact rfl) | ((with_reducible apply i_lenO); (focus (first | assumption | exact setO_same | (rw [setO_ne (by assumption)]; first | assumption | exact setO_same)))) | ((with_reducible apply i_appK); (focus (first | assumption | exact setO_same | (rw [setO_ne (by assumption)]; first | assumption | exact setO_same)))) | ((with_reducible apply i_subK); (focus (first | assumption | exact setO_same | (rw [setO_ne (by assumption)]; first | assumption | exact setO_same))); exact rfl) | ((with_reducible apply i_slO); (focus (first | assumption | exact setO_same | (rw [setO_ne (by assumption)]; first | assumption | exact setO_same)))) | ((with_reducible apply i_seqO); (focus (first | assumption | exact setO_same | (rw [setO_ne (by assumption)]; first | assumption | exact setO_same)))) | ((with_reducible apply i_appK2); (focus (first | assumption | exact setO_same | (rw [setO_ne (by assumption)]; first | assumption | exact setO_same)))) | with_reducible refine i_ice ?_ | with_reducible refine i_iceL ?_ | ((with_reducible apply i_iceK); (focus (first | assumption | exact setO_same | (rw [setO_ne (by assumption)]; first | assumption | exact setO_same)))) | with_reducible refine i_fld ?_ | ((with_reducible apply i_fldK); (focus (first | assumption | exact setO_same | (rw [setO_ne (by assumption)]; first | assumption | exact setO_same))); exact rfl) | with_reducible refine i_sfld ?_ | with_reducible refine i_make ?_ | with_reducible refine i_callK0 ?_ | with_reducible refine i_enum2 ?_ | with_reducible refine i_enumL ?_ | with_reducible refine i_enumT ?_ | with_reducible refine i_par3 ?_ | with_reducible refine i_dsp2 ?_ | ((with_reducible apply i_isi (b := true)); exact rfl; exact rfl; exact rfl) | ((with_reducible apply i_isi (b := false)); exact rfl; exact rfl; exact rfl) | with_reducible refine i_eqI ?_ | with_reducible refine i_neI ?_ | with_reducible refine i_truB ?_ | ((with_reducible apply i_fldI); exact rfl) | with_reducible refine i_iceI ?_ | with_reducible refine i_join ?_ | with_reducible refine i_dict0 ?_ | with_reducible refine i_isiI ?_ | with_reducible refine i_ownIn ?_ | with_reducible refine i_ownEq ?_ | with_reducible refine i_ownLen ?_ | with_reducible refine i_ownStr ?_ | with_reducible refine i_strS ?_ | with_reducible refine i_fmt ?_ | with_reducible refine i_pop ?_ | with_reducible refine i_listRg2 ?_ | with_reducible refine i_listRg2O ?_ | ((with_reducible apply i_popK); (focus (first | assumption | exact setO_same | (rw [setO_ne (by assumption)]; first | assumption | exact setO_same)))) | with_reducible refine i_raise ?_ | with_reducible refine i_tryAs ?_ | with_reducible refine i_xf ?_ | ((with_reducible apply i_xfK); exact rfl) | with_reducible refine i_js ?_ | with_reducible refine i_js0 ?_ | with_reducible refine i_makeK0 ?_ | with_reducible refine i_own ?_ | with_reducible refine i_ownT ?_ | with_reducible refine i_lenZ ?_ | with_reducible refine i_sortZ ?_ | with_reducible refine i_setL ?_ | with_reducible refine i_setLT ?_ | with_reducible refine i_sc ?_ | with_reducible refine i_setQ ?_ | with_reducible refine i_sc2 ?_ | with_reducible refine i_lenB ?_ | with_reducible refine i_bl ?_ | with_reducible refine i_tm ?_ | with_reducible refine i_lcnt ?_ | with_reducible refine i_setTI ?_ | ((with_reducible apply i_augL); exact rfl) | with_reducible refine i_scB ?_ | with_reducible refine i_key ?_ | with_reducible refine i_revL ?_ | with_reducible refine i_revT ?_ | with_reducible refine i_zip ?_ | with_reducible refine i_ltAI ?_ | with_reducible refine i_ltAS ?_ | with_reducible refine i_inRg1 ?_ | with_reducible refine i_inRg2 ?_ | with_reducible refine i_listRg1O ?_ | with_reducible refine i_tryM ?_ | with_reducible refine i_tryN ?_ | with_reducible refine i_upd ?_ | with_reducible refine i_mat ?_ | with_reducible refine i_matK ?_ | with_reducible refine i_mc0 ?_ | ((with_reducible apply i_mcY); (focus exact rfl)) | ((with_reducible apply i_mcN); (focus exact Nat.ne_of_beq_eq_false rfl)) | with_reducible refine i_ltT ?_ | with_reducible refine i_xi ?_ | with_reducible refine i_split ?_ | with_reducible refine i_count ?_ | with_reducible refine i_m0 ?_ | with_reducible refine i_m0K ?_ | with_reducible refine i_starA ?_ | with_reducible refine i_cm ?_ | with_reducible refine i_cmK ?_ | ((with_reducible apply i_makeL); exact rfl) | with_reducible refine i_int2I ?_ | with_reducible refine i_int2B ?_ | with_reducible refine i_clear ?_ | ((with_reducible apply i_clearK); (focus (first | assumption | exact setO_same | (rw [setO_ne (by assumption)]; first | assumption | exact setO_same)))) | with_reducible refine i_meth ?_ | with_reducible refine i_methM ?_ | ((with_reducible apply i_methKwO); (focus (first | assumption | exact setO_same | (rw [setO_ne (by assumption)]; first | assumption | exact setO_same))); exact rfl) | with_reducible refine i_extend ?_ | with_reducible refine i_lam ?_ | with_reducible refine i_dput ?_ | with_reducible refine i_dict0N ?_ | with_reducible refine i_dict1 ?_ | with_reducible refine i_disp2 ?_ | with_reducible refine i_disp3 ?_ | with_reducible refine i_dispN ?_ | with_reducible refine i_goC ?_ | ((with_reducible apply i_goK); exact rfl) | with_reducible refine i_goN ?_ | with_reducible refine i_setd ?_ | with_reducible refine i_idxL ?_ | with_reducible refine i_ixLK ?_ | with_reducible refine i_dc ?_ | with_reducible refine i_dct ?_ | with_reducible refine i_ckw ?_ | with_reducible refine i_iceA ?_ | with_reducible refine i_get2 ?_ | with_reducible refine i_get1 ?_ | with_reducible refine i_prop ?_ | with_reducible refine i_propI ?_ | ((with_reducible apply i_methI); exact rfl) | ((with_reducible apply i_methO); (focus (first | assumption | exact setO_same | (rw [setO_ne (by assumption)]; first | assumption | exact setO_same))); exact rfl))
local macro_rules | `(tactic| walk_at "dl") => `(tactic| repeat (walk_at "d1"))
local macro_rules | `(tactic| walk_at "dw") => `(tactic| repeat (first | with_reducible refine i_if ?_ | with_reducible refine i_ifE ?_ | walk_at "d1"))
section
def soundB (hs ss : List D) (L : List Int) : Bool :=
  decide (2 ≤ hs.length) && decide (hs.length ≤ 20) && decide (1 ≤ ss.length) && decide (ss.length ≤ 20) && hs.all (rowB hs.length wHear) && ss.all (rowB ss.length wSend) && L.contains 1 &&
    L.all fun i => match hs[i.toNat]? with | some r => nextsB L r && noWord "taken" r | none => true
theorem soundB_ok {hs ss : List D} {L : List Int} (h : soundB hs ss L = true) : Sound hs ss := by
  unfold soundB at h
  simp only [Bool.and_eq_true, decide_eq_true_eq] at h
  obtain ⟨⟨⟨⟨⟨⟨⟨h1, h2⟩, h3⟩, h4⟩, h5⟩, h6⟩, h7⟩, h8⟩ := h
  refine ⟨h1, by omega, h3, by omega, fun r hr => List.all_eq_true.mp h5 r hr, fun r hr => List.all_eq_true.mp h6 r hr, L, List.contains_iff_mem.mp h7, fun i hi r hr => ?_, fun i hi r hr => ?_⟩
  all_goals
    have := List.all_eq_true.mp h8 i hi
    rw [hr] at this
    simp only [Bool.and_eq_true] at this
  · exact this.1
  · exact this.2
/-- the warned rows of a voting machine -/
def warned (v r : Nat) : List Int := ((plcs v r).zipIdx.filter fun e => decide (e.1.2.2 < 0)).map fun e => (e.2 : Int)
theorem vote_all : ∀ (v n : Fin 3) (r : Fin 2), soundB (vRows (v.val + 1) (n.val + 1) (r.val + 1) "taken" "lost") (vRows (v.val + 1) (n.val + 1) (r.val + 1) "done" "again") (warned (v.val + 1) (r.val + 1)) = true := by decide +kernel
theorem tiny_b : soundB tinyH tinyS [1] = true := by decide +kernel
theorem flag_b : soundB flagH flagS [1, 3] = true := by decide +kernel
theorem folP_pl {n : Int} {w1 w2 l : Str} {b : Bool} {d : D} (h : FolP n [w1, w2, l] l b d) (hw : ∀ s ∈ ([w1, w2, l] : List Str), s ∈ ws) : plB n ws d = true := by
  rcases h with ⟨i, rfl, i0, i1, _⟩ | ⟨s, rfl, hs, _⟩
  · simp [plB, i0, i1]
  · simp only [plB]
    exact List.contains_iff_mem.mpr (hw s hs)
theorem rowsP_mach {n : Int} {w1 w2 l : Str} {bad : Bool} {rs : List D} {ws : List Str} (h : RowsP n w1 w2 l bad rs) (hw : ∀ s ∈ ([w1, w2, l] : List Str), s ∈ ws) : Mach ws rs := fun r hr => by
  obtain ⟨j, hj⟩ := List.mem_iff_getElem?.mp hr
  obtain ⟨b, x, y, rfl, hb, hx, hy⟩ := h.row j r hj
  rw [h.len]
  have h1 := folP_pl hx hw
  have h2 := folP_pl hy hw
  simp only [rowB, h1, h2, Bool.and_true]
  rcases hb with rfl | rfl <;> rfl
def odds (n : Int) : List Int := (zs 0 n).filter fun i => decide (i % 2 = 1)
theorem odds_mem {n i : Int} : i ∈ odds n ↔ (0 ≤ i ∧ i < n) ∧ i % 2 = 1 := by
  unfold odds
  rw [List.mem_filter, decide_eq_true_iff]
  constructor
  · rintro ⟨h1, h2⟩
    exact ⟨zs_mem h1, h2⟩
  · rintro ⟨⟨h0, h1⟩, h2⟩
    refine ⟨?_, h2⟩
    unfold zs
    exact List.mem_map.mpr ⟨i.toNat, List.mem_range.mpr (by omega), by omega⟩
theorem folP_odd {n : Int} {w1 w2 : Str} {d : D} (h : FolP n [w1, w2, "lost"] "lost" true d) : (∃ i, d = .int i ∧ (odds n).contains i = true) ∨ d = .str "lost" := by
  rcases h with ⟨i, rfl, i0, i1, i2⟩ | ⟨s, rfl, _, hs⟩
  · exact .inl ⟨i, rfl, List.contains_iff_mem.mpr (odds_mem.mpr ⟨⟨i0, i1⟩, i2 rfl⟩)⟩
  · exact .inr (by rw [hs rfl])
theorem lrows_ok {hs ss : List D} (h : LRows hs ss) : Sound hs ss ∧ hs.length ≤ 20 ∧ ss.length ≤ 20 := by
  cases h with
  | tiny =>
    have s := soundB_ok tiny_b
    exact ⟨s, by decide, by decide⟩
  | flag =>
    have s := soundB_ok flag_b
    exact ⟨s, by decide, by decide⟩
  | @vote v n r v0 v1 n0 n1 r0 r1 =>
    have a := vote_all ⟨v - 1, by omega⟩ ⟨n - 1, by omega⟩ ⟨r - 1, by omega⟩
    simp only [show v - 1 + 1 = v by omega, show n - 1 + 1 = n by omega, show r - 1 + 1 = r by omega] at a
    have hl := plcs_len v0 v1 r0 r1
    exact ⟨soundB_ok a, by simp only [vRows, List.length_map]; exact hl, by simp only [vRows, List.length_map]; exact hl⟩
  | drawn h1 h2 =>
    obtain ⟨n, n0, n1, hr⟩ := h1
    obtain ⟨k, k0, k1, sr⟩ := h2
    have e1 := hr.len
    have e2 := sr.len
    have s : Sound hs ss := by
      refine ⟨by omega, by omega, by omega, by omega, rowsP_mach hr (by simp [wHear]), rowsP_mach sr (by simp [wSend]), odds n, odds_mem.mpr ⟨⟨by decide, by omega⟩, by decide⟩, fun i hi r hri => ?_, fun i hi r hri => ?_⟩
      all_goals
        obtain ⟨⟨i0, i1⟩, i2⟩ := odds_mem.mp hi
        obtain ⟨b, x, y, rfl, hb, hx, hy⟩ := hr.row i.toNat r hri
        rw [show (true && decide ((i.toNat : Int) % 2 = 1)) = true from by rw [show (i.toNat : Int) = i by omega, decide_eq_true i2]; rfl] at hx hy
        rcases folP_odd hx with ⟨ix, rfl, ex⟩ | rfl <;> rcases folP_odd hy with ⟨iy, rfl, ey⟩ | rfl
        all_goals first
          | (simp only [nextsB, ex, ey, Bool.and_self]; done)
          | (simp only [nextsB, ex, Bool.and_self]; done)
          | (simp only [nextsB, ey, Bool.and_self]; done)
          | rfl
          | decide +kernel
    exact ⟨s, by omega, by omega⟩
end
section
theorem no_first {X : Exq} (h : X.first = []) {q : Mom} (hq : X.Re q) : False := by
  induction hq with
  | start hx => rw [h] at hx; cases hx
  | step _ _ _ ih => exact ih
theorem ans_none {X : Exq} {r : Option Fau} (h : X.first = []) (a : Exq.Ans X r) : r = none := by
  cases a with
  | no _ => rfl
  | yes hq _ _ => exact (no_first h hq).elim
theorem first_no0 {X : Exq} (h : X.okS 0 0 = false) : X.first = [] := by
  unfold Exq.first
  rw [h]
  rfl
theorem first_no1 {X : Exq} (hl : X.logs.length = 2) (h0 : X.okS 1 0 = false) (h1 : X.okS 1 1 = false) : X.first = [] := by
  unfold Exq.first
  rw [hl]
  split
  · show X.fstep [([], [.int 0])] 1 = []
    unfold Exq.fstep
    rw [h0, h1]
    rfl
  · rfl
theorem lgP_ext (rs : List D) : ∀ (u : List Int) (pl : D) (b : Int) (v : List Int), lgP rs pl u = true → lgP rs pl (u ++ b :: v) = false
  | [], pl, b, v, h => by
    have h : (!isRw pl) = true := h
    show (isRw pl && _) = false
    cases e : isRw pl with
    | true => rw [e] at h; cases h
    | false => rfl
  | c :: u, pl, b, v, h => by
    have h : (isRw pl && lgP rs (nxD rs pl c) u) = true := h
    rw [Bool.and_eq_true] at h
    show (isRw pl && lgP rs (nxD rs pl c) (u ++ b :: v)) = false
    rw [lgP_ext rs u _ b v h.2, Bool.and_false]
theorem lgP_cut {rs : List D} {u : List Int} {pl : D} (h : lgP rs pl u = true) (hne : u ≠ []) : lgP rs pl u.dropLast = false := by
  cases e : lgP rs pl u.dropLast with
  | false => rfl
  | true =>
    have := lgP_ext rs u.dropLast pl (u.getLast hne) [] e
    rw [List.dropLast_concat_getLast hne, h] at this
    cases this
/-- the tiny end -/
def tinyX (n : Nat) (b : Int) : Exq := ⟨tinyH, tinyS, List.replicate n (some [b])⟩
theorem tiny_log {n : Nat} {b : Int} {k : Nat} (h : k < n) : (tinyX n b).log k = some [b] := by
  unfold tinyX Exq.log
  dsimp only
  rw [List.getElem?_replicate, if_pos h]
  rfl
theorem tiny_ok {n : Nat} {b : Int} (hb : b = 0 ∨ b = 1) (n1 : 1 ≤ n) (n8 : n ≤ 8) : XOk (tinyX n b) := by
  refine ⟨soundB_ok tiny_b, by simpa [tinyX] using n1, by simpa [tinyX] using n8, fun u hu => ?_⟩
  have : some u = some [b] := by
    have := List.eq_of_mem_replicate hu
    exact this
  cases this
  exact ⟨fun x hx => by rw [List.mem_singleton.mp hx]; exact hb, by simp⟩
theorem all_logs {X : Exq} (h : ∀ k, k < X.logs.length → (X.log k).isNone = false) : X.nn = 0 ∧ X.nl ≤ X.logs.length := by
  unfold Exq.nn Exq.nl
  constructor
  · rw [List.length_eq_zero_iff, List.filter_eq_nil_iff]
    intro k hk
    rw [h k (List.mem_range.mp hk)]
    decide
  · have := List.length_filter_le (fun k => !(X.log k).isNone) (List.range X.logs.length)
    rw [List.length_range] at this
    exact this
theorem tiny_sm {n : Nat} {b : Int} (n8 : n ≤ 6) : XSm (tinyX n b) := by
  obtain ⟨h1, h2⟩ := all_logs (X := tinyX n b) fun k hk => by rw [tiny_log (by simpa [tinyX] using hk)]; rfl
  have hl : (tinyX n b).long ≤ 1 := by
    rcases (show n = 0 ∨ n = 1 ∨ n = 2 ∨ n = 3 ∨ n = 4 ∨ n = 5 ∨ n = 6 by omega) with rfl | rfl | rfl | rfl | rfl | rfl | rfl <;> exact Nat.le_of_ble_eq_true rfl
  have hln : (tinyX n b).logs.length = n := by simp [tinyX]
  rw [hln] at h2
  refine ⟨by omega, by rw [h1, Nat.pow_zero]; omega, ?_⟩
  rw [h1, Nat.pow_zero, Nat.mul_one]
  refine Nat.le_trans (Nat.mul_le_mul (show (tinyX n b).long + 1 ≤ 2 by omega) (Nat.pow_le_pow_right (by decide) (show (tinyX n b).nl ≤ 6 by omega))) (by decide)
theorem tiny_one {n : Nat} (n1 : 2 ≤ n) (n6 : n ≤ 6) {r : Option Fau} (a : Exq.Ans (tinyX n 1) r) : r = some [] := by
  have hre : ∃ q, (tinyX n 1).Re q ∧ Exq.going q.2.1 = [] ∧ q.2.2 = [] := by
    rcases (show n = 2 ∨ n = 3 ∨ n = 4 ∨ n = 5 ∨ n = 6 by omega) with rfl | rfl | rfl | rfl | rfl
    all_goals
      refine ⟨_, .step (.start (x := Exq.bodF _ fun _ => 0) (Exq.first_mem.mpr ⟨rfl, fun _ => 0, fun k k1 k2 => ⟨by show 0 ≤ 1; omega, ?_⟩, rfl⟩)) (fun z => by cases z) (List.mem_of_getElem? (i := 0) rfl), rfl, rfl⟩
      unfold Exq.okS
      rw [tiny_log (by simp [tinyX] at k2; omega)]
      unfold Exq.m
      rw [if_neg (by omega)]
      rfl
  obtain ⟨q, h1, h2, h3⟩ := hre
  cases a with
  | no h => exact absurd h2 (h q h1)
  | yes hq hg hm =>
    have := hm q h1 h2
    unfold Exq.flen at this
    rw [h3] at this
    rw [List.length_eq_zero_iff.mp (Nat.le_zero.mp this)]
theorem tiny_zero {n : Nat} (n1 : 2 ≤ n) (n6 : n ≤ 6) {r : Option Fau} (a : Exq.Ans (tinyX n 0) r) : ∃ p, r = some [p] := by
  have hre : ∃ q, (tinyX n 0).Re q ∧ Exq.going q.2.1 = [] ∧ q.2.2.length = 1 := by
    rcases (show n = 2 ∨ n = 3 ∨ n = 4 ∨ n = 5 ∨ n = 6 by omega) with rfl | rfl | rfl | rfl | rfl
    all_goals
      refine ⟨_, .step (.start (x := Exq.bodF _ fun k => if k = 1 then 1 else 0) (Exq.first_mem.mpr ⟨rfl, fun k => if k = 1 then 1 else 0, fun k k1 k2 => ⟨by show (if k = 1 then 1 else 0) ≤ 1; split <;> omega, ?_⟩, rfl⟩)) (fun z => by cases z) (List.mem_of_getElem? (i := 0) rfl), rfl, rfl⟩
      unfold Exq.okS
      rw [tiny_log (by simp [tinyX] at k2; omega)]
      unfold Exq.m
      rw [if_neg (by omega)]
      dsimp only
      split <;> rfl
  have hno : ∀ q, (tinyX n 0).Re q → Exq.flen q = 0 → q = (0, List.replicate n (.int 0), []) := fun q hq => by
    induction hq with
    | start hx =>
      intro hf
      obtain ⟨_, r, hr, rfl⟩ := Exq.first_mem.mp hx
      have hln : (tinyX n 0).logs.length = n := by simp [tinyX]
      rw [hln] at hr ⊢
      have r0 : ∀ k, 1 ≤ k → k ≤ n - 1 → r k = 0 := fun k k1 k2 => by
        have h1 := (hr k k1 k2).1
        rw [hln] at hf
        by_cases z : r k = 1
        · have : k ∈ ((List.range (n - 1)).map (· + 1)).filter fun k => decide (r k = 1) := List.mem_filter.mpr ⟨List.mem_map.mpr ⟨k - 1, List.mem_range.mpr (by omega), by omega⟩, by simp [z]⟩
          have h2 := List.length_pos_of_mem this
          have h3 : (List.map _ _).length = 0 := hf
          rw [List.length_map] at h3
          omega
        · omega
      rw [Exq.bodF_congr (r' := fun _ => 0) fun k k1 k2 => r0 k k1 k2]
      rcases (show n = 2 ∨ n = 3 ∨ n = 4 ∨ n = 5 ∨ n = 6 by omega) with rfl | rfl | rfl | rfl | rfl <;> rfl
    | @step q q' hq hg hn ih =>
      intro hf
      obtain ⟨x, hx, rfl⟩ := List.mem_map.mp hn
      have h0 : Exq.flen q = 0 ∧ x.1.length = 0 := by
        unfold Exq.flen Exq.nxt at hf
        rw [List.length_append, List.length_map] at hf
        exact ⟨by unfold Exq.flen; omega, by omega⟩
      have := ih h0.1
      subst this
      obtain ⟨e, he, rfl⟩ := Exq.later_mem.mp hx
      exfalso
      have h2 := h0.2
      have hl : (tinyX n 0).line (List.replicate n (.int 0)) = 1 := by
        rcases (show n = 2 ∨ n = 3 ∨ n = 4 ∨ n = 5 ∨ n = 6 by omega) with rfl | rfl | rfl | rfl | rfl <;> rfl
      have hg0 : 0 ∈ Exq.going (List.replicate n (D.int 0)) := by
        rcases (show n = 2 ∨ n = 3 ∨ n = 4 ∨ n = 5 ∨ n = 6 by omega) with rfl | rfl | rfl | rfl | rfl <;> exact List.mem_of_getElem? (i := 0) rfl
      have h3 := he 0 hg0
      unfold Exq.ears at h3
      rw [tiny_log (by omega)] at h3
      have h4 : e 0 = 0 := List.mem_singleton.mp h3
      have h5 : 0 ∈ (Exq.going (List.replicate n (D.int 0))).filter fun k => decide (e k ≠ (tinyX n 0).line (List.replicate n (D.int 0))) := List.mem_filter.mpr ⟨hg0, by rw [h4, hl]; decide⟩
      have h6 := List.length_pos_of_mem h5
      dsimp only at h2
      omega
  obtain ⟨q, h1, h2, h3⟩ := hre
  cases a with
  | no h => exact absurd h2 (h q h1)
  | @yes q2 hq hg hm =>
    have h4 := hm q h1 h2
    unfold Exq.flen at h4
    rw [h3] at h4
    have h5 : q2.2.2.length ≠ 0 := fun z => by
      have := hno _ hq z
      rw [this] at hg
      rcases (show n = 2 ∨ n = 3 ∨ n = 4 ∨ n = 5 ∨ n = 6 by omega) with rfl | rfl | rfl | rfl | rfl <;> cases hg
    have h6 : q2.2.2.length = 1 := by omega
    obtain ⟨p, hp⟩ := List.length_eq_one_iff.mp h6
    exact ⟨p, by rw [hp]⟩
/-- the questions of the law -/
theorem cut_last {u : List Int} : DL.cutD (u.map D.int) none (some (-1)) = u.dropLast.map D.int := by
  unfold DL.cutD
  rw [List.map_dropLast, List.dropLast_eq_take, HT.sIx_none, List.drop_zero, List.length_map]
  congr 1
  unfold HT.sIx
  simp
  omega
theorem two_ok {hs ss : List D} (so : Sound hs ss) {a b : Option (List Int)} (ha : ∀ u, a = some u → bits u ∧ u.length ≤ 14) (hb : ∀ u, b = some u → bits u ∧ u.length ≤ 14) (l1 : hs.length ≤ 20) (l2 : ss.length ≤ 20) (hn : a.isNone = false) : XOk ⟨hs, ss, [a, b]⟩ ∧ XSm ⟨hs, ss, [a, b]⟩ := by
  have hlong : (Exq.mk hs ss [a, b]).long ≤ 14 := by
    cases a with
    | none => cases hn
    | some u =>
      have h1 := (ha u rfl).2
      cases b with
      | none => show max 0 u.length ≤ 14; omega
      | some v =>
        have h2 := (hb v rfl).2
        show max (max 0 u.length) v.length ≤ 14
        omega
  have hnn : (Exq.mk hs ss [a, b]).nn ≤ 1 := by
    cases a with
    | none => cases hn
    | some u => cases b <;> exact Nat.le_of_ble_eq_true rfl
  have hnl : (Exq.mk hs ss [a, b]).nl ≤ 2 := by
    unfold Exq.nl
    exact Nat.le_trans (List.length_filter_le _ _) (by simp)
  have hw : (Exq.mk hs ss [a, b]).wid ≤ 22 := by
    unfold Exq.wid
    dsimp only
    omega
  have hp : (Exq.mk hs ss [a, b]).wid ^ (Exq.mk hs ss [a, b]).nn ≤ 22 := by
    rcases (show (Exq.mk hs ss [a, b]).nn = 0 ∨ (Exq.mk hs ss [a, b]).nn = 1 by omega) with e | e
    · rw [e, Nat.pow_zero]; omega
    · rw [e, Nat.pow_one]; exact hw
  refine ⟨⟨so, by simp, by simp, fun u hu => ?_⟩, by omega, by omega, ?_⟩
  · simp only [List.mem_cons, List.mem_nil_iff, or_false] at hu
    rcases hu with hu | hu
    · exact ⟨(ha u hu.symm).1, by have := (ha u hu.symm).2; omega⟩
    · exact ⟨(hb u hu.symm).1, by have := (hb u hu.symm).2; omega⟩
  · refine Nat.le_trans (Nat.mul_le_mul (show _ ≤ 15 by omega) (Nat.mul_le_mul (Nat.pow_le_pow_right (by decide) hnl) hp)) (by decide)
theorem two_args {a b : Option (List Int)} {da db : D} (h1 : lgArg da a) (h2 : lgArg db b) : ∀ (k : Nat) (d : D) (o : Option (List Int)), [da, db][k]? = some d → [a, b][k]? = some o → lgArg d o := fun k d o e1 e2 => by
  match k with
  | 0 => cases e1; cases e2; exact h1
  | 1 => cases e1; cases e2; exact h2
  | k + 2 => simp at e1
theorem tiny_args {n : Nat} {b : Int} : ∀ (k : Nat) (d : D) (o : Option (List Int)), (List.replicate n (D.tup [.int b]))[k]? = some d → (tinyX n b).logs[k]? = some o → lgArg d o := fun k d o e1 e2 => by
  unfold tinyX at e2
  dsimp only at e2
  rw [List.getElem?_replicate] at e1 e2
  split at e1
  · rename_i h
    rw [if_pos h] at e2
    cases e1; cases e2; exact .inr ⟨[b], rfl, .inl rfl⟩
  · cases e1
theorem bits_drop {u : List Int} (h : bits u) : bits u.dropLast := fun x hx => h x (List.dropLast_subset _ hx)
theorem bits_snoc {u : List Int} {b : Int} (h : bits u) (hb : b = 0 ∨ b = 1) : bits (u ++ [b]) := fun x hx => (List.mem_append.mp hx).elim (h x) fun hx => by rw [List.mem_singleton.mp hx]; exact hb
theorem rep_one {d : D} : ∀ n : Nat, (List.replicate n [d]).flatten = List.replicate n d
  | 0 => rfl
  | n + 1 => by rw [List.replicate_succ, List.flatten_cons, rep_one n]; rfl
theorem i_nxJ {t : DTS} {M k c : DL.Env → Ow → Prop} {rt : DQ} {env : DL.Env} {O : Ow} (R : DL.Env → Ow → Prop) (h1 : ∀ N : DL.Env → Ow → Prop, (∀ e o, R e o → N e o) → t { nx := N, rt := rt, bk := k, ct := c } env O) (h2 : ∀ e o, R e o → M e o) : t { nx := M, rt := rt, bk := k, ct := c } env O := h1 M h2
def tupI (w : List Int) : D := .tup (w.map D.int)
theorem good_tI (w : List Int) : good (tupI w) = true := good_tupI fun d hd => by
  obtain ⟨i, _, rfl⟩ := List.mem_map.mp hd
  exact ⟨good_int i, by simp [py, PyData.depth]⟩
theorem ok1_of {hs ss : List D} {u v : List Int} (h : lgP hs (.int 0) v = false) (h' : lgP hs (.int 1) v = false) : (Exq.mk hs ss [some u, some v]).first = [] := first_no1 rfl h h'
theorem ok0_of {hs ss : List D} {u : List Int} {o : Option (List Int)} (h : lgP ss (.int 0) u = false) : (Exq.mk hs ss [some u, o]).first = [] := first_no0 h
end
end K62
set_option Elab.async false
set_option linter.all false
set_option maxRecDepth 100000
set_option maxHeartbeats 4000000
namespace K62
open PySem PySem.Spec PyProof.Rows L2 DL
open ClX (CRead CVal)
local macro_rules | `(tactic| walk_at "d1") => `(tactic| first | ((with_reducible apply i_var); exact rfl) | ((with_reducible apply i_gtup); exact rfl) | ((with_reducible apply i_augI); exact rfl) | ((with_reducible apply i_ixT); exact rfl) | ((with_reducible apply i_ixL); exact rfl) | with_reducible refine i_seq ?_ | with_reducible refine i_asg ?_ | with_reducible refine i_gname ?_ | with_reducible refine i_c ?_ | with_reducible refine i_op ?_ | with_reducible refine i_cb ?_ | with_reducible refine i_cons ?_ | with_reducible refine i_nil ?_ | with_reducible refine i_expr ?_ | with_reducible refine i_ret ?_ | with_reducible refine i_retN ?_ | with_reducible refine i_next ?_ | with_reducible refine i_for ?_ | with_reducible refine i_par ?_ | with_reducible refine i_test ?_ | with_reducible refine i_tup ?_ | with_reducible refine i_lst ?_ | ((with_reducible refine i_sz ?_ ?_); (focus exact Nat.le_of_ble_eq_true rfl)) | with_reducible refine i_lstO ?_ | with_reducible refine i_break ?_ | with_reducible refine i_cont ?_ | with_reducible refine i_gnil ?_ | with_reducible refine i_gcons ?_ | with_reducible refine i_tru ?_ | with_reducible refine i_and ?_ | with_reducible refine i_or ?_ | with_reducible refine i_not ?_ | with_reducible refine i_andV ?_ | with_reducible refine i_orV ?_ | with_reducible refine i_notV ?_ | with_reducible refine i_neg ?_ | with_reducible refine i_chain ?_ | with_reducible refine i_call ?_ | with_reducible refine i_callK ?_ | with_reducible refine i_append ?_ | with_reducible refine i_gsub ?_ | with_reducible refine i_sl ?_ | with_reducible refine i_slT ?_ | with_reducible refine i_slL ?_ | with_reducible refine i_oN ?_ | with_reducible refine i_oS ?_ | with_reducible refine i_lc ?_ | with_reducible refine i_lc2 ?_ | with_reducible refine i_lc2O ?_ | with_reducible refine i_lcO ?_ | with_reducible refine i_yes ?_ | with_reducible refine i_listRg1 ?_ | with_reducible refine i_rg1 ?_ | with_reducible refine i_rg2 ?_ | with_reducible refine i_seqI ?_ | with_reducible refine i_seqT ?_ | with_reducible refine i_seqL ?_ | with_reducible refine i_lt ?_ | with_reducible refine i_le ?_ | with_reducible refine i_gt ?_ | with_reducible refine i_ge ?_ | with_reducible refine i_sub ?_ | with_reducible refine i_addI ?_ | with_reducible refine i_int ?_ | with_reducible refine i_intb ?_ | with_reducible refine i_abs ?_ | with_reducible refine i_min2 ?_ | with_reducible refine i_max2 ?_ | with_reducible refine i_isN ?_ | with_reducible refine i_notN ?_ | with_reducible refine i_lenL ?_ | with_reducible refine i_lenT ?_ | ((with_reducible apply i_ixO); (focus (first | assumption | exact setO_same | (rw [setO_ne (by assumption)]; first | assumption | exact setO_same))); exact rfl) | ((with_reducible apply i_lenO); (focus (first | assumption | exact setO_same | (rw [setO_ne (by assumption)]; first | assumption | exact setO_same)))) | ((with_reducible apply i_appK); (focus (first | assumption | exact setO_same | (rw [setO_ne (by assumption)]; first | assumption | exact setO_same)))) | ((with_reducible apply i_subK); (focus (first | assumption | exact setO_same | (rw [setO_ne (by assumption)]; first | assumption | exact setO_same))); exact rfl) | ((with_reducible apply i_slO); (focus (first | assumption | exact setO_same | (rw [setO_ne (by assumption)]; first | assumption | exact setO_same)))) | ((with_reducible apply i_seqO); (focus (first | assumption | exact setO_same | (rw [setO_ne (by assumption)]; first | assumption | exact setO_same)))) | ((with_reducible apply i_appK2); (focus (first | assumption | exact setO_same | (rw [setO_ne (by assumption)]; first | assumption | exact setO_same)))) | with_reducible refine i_ice ?_ | with_reducible refine i_iceL ?_ | ((with_reducible apply i_iceK); (focus (first | assumption | exact setO_same | (rw [setO_ne (by assumption)]; first | assumption | exact setO_same)))) | with_reducible refine i_fld ?_ | ((with_reducible apply i_fldK); (focus (first | assumption | exact setO_same | (rw [setO_ne (by assumption)]; first | assumption | exact setO_same))); exact rfl) | with_reducible refine i_sfld ?_ | with_reducible refine i_make ?_ | with_reducible refine i_callK0 ?_ | with_reducible refine i_enum2 ?_ | with_reducible refine i_enumL ?_ | with_reducible refine i_enumT ?_ | with_reducible refine i_par3 ?_ | with_reducible refine i_dsp2 ?_ | ((with_reducible apply i_isi (b := true)); exact rfl; exact rfl; exact rfl) | ((with_reducible apply i_isi (b := false)); exact rfl; exact rfl; exact rfl) | with_reducible refine i_eqI ?_ | with_reducible refine i_neI ?_ | with_reducible refine i_truB ?_ | ((with_reducible apply i_fldI); exact rfl) | with_reducible refine i_iceI ?_ | with_reducible refine i_join ?_ | with_reducible refine i_dict0 ?_ | with_reducible refine i_isiI ?_ | with_reducible refine i_ownIn ?_ | with_reducible refine i_ownEq ?_ | with_reducible refine i_ownLen ?_ | with_reducible refine i_ownStr ?_ | with_reducible refine i_strS ?_ | with_reducible refine i_fmt ?_ | with_reducible refine i_pop ?_ | with_reducible refine i_listRg2 ?_ | with_reducible refine i_listRg2O ?_ | ((with_reducible apply i_popK); (focus (first | assumption | exact setO_same | (rw [setO_ne (by assumption)]; first | assumption | exact setO_same)))) | with_reducible refine i_raise ?_ | with_reducible refine i_tryAs ?_ | with_reducible refine i_xf ?_ | ((with_reducible apply i_xfK); exact rfl) | with_reducible refine i_js ?_ | with_reducible refine i_js0 ?_ | with_reducible refine i_makeK0 ?_ | with_reducible refine i_own ?_ | with_reducible refine i_ownT ?_ | with_reducible refine i_lenZ ?_ | with_reducible refine i_sortZ ?_ | with_reducible refine i_setL ?_ | with_reducible refine i_setLT ?_ | with_reducible refine i_sc ?_ | with_reducible refine i_setQ ?_ | with_reducible refine i_sc2 ?_ | with_reducible refine i_lenB ?_ | with_reducible refine i_bl ?_ | with_reducible refine i_tm ?_ | with_reducible refine i_lcnt ?_ | with_reducible refine i_setTI ?_ | ((with_reducible apply i_augL); exact rfl) | with_reducible refine i_scB ?_ | with_reducible refine i_key ?_ | with_reducible refine i_revL ?_ | with_reducible refine i_revT ?_ | with_reducible refine i_zip ?_ | with_reducible refine i_ltAI ?_ | with_reducible refine i_ltAS ?_ | with_reducible refine i_inRg1 ?_ | with_reducible refine i_inRg2 ?_ | with_reducible refine i_listRg1O ?_ | with_reducible refine i_tryM ?_ | with_reducible refine i_tryN ?_ | with_reducible refine i_upd ?_ | with_reducible refine i_mat ?_ | with_reducible refine i_matK ?_ | with_reducible refine i_mc0 ?_ | ((with_reducible apply i_mcY); (focus exact rfl)) | ((with_reducible apply i_mcN); (focus exact Nat.ne_of_beq_eq_false rfl)) | with_reducible refine i_ltT ?_ | with_reducible refine i_xi ?_ | with_reducible refine i_split ?_ | with_reducible refine i_count ?_ | with_reducible refine i_m0 ?_ | with_reducible refine i_m0K ?_ | with_reducible refine i_starA ?_ | with_reducible refine i_cm ?_ | with_reducible refine i_cmK ?_ | ((with_reducible apply i_makeL); exact rfl) | with_reducible refine i_int2I ?_ | with_reducible refine i_int2B ?_ | with_reducible refine i_clear ?_ | ((with_reducible apply i_clearK); (focus (first | assumption | exact setO_same | (rw [setO_ne (by assumption)]; first | assumption | exact setO_same)))) | with_reducible refine i_meth ?_ | with_reducible refine i_methM ?_ | ((with_reducible apply i_methKwO); (focus (first | assumption | exact setO_same | (rw [setO_ne (by assumption)]; first | assumption | exact setO_same))); exact rfl) | with_reducible refine i_extend ?_ | with_reducible refine i_lam ?_ | with_reducible refine i_dput ?_ | with_reducible refine i_dict0N ?_ | with_reducible refine i_dict1 ?_ | with_reducible refine i_disp2 ?_ | with_reducible refine i_disp3 ?_ | with_reducible refine i_dispN ?_ | with_reducible refine i_goC ?_ | ((with_reducible apply i_goK); exact rfl) | with_reducible refine i_goN ?_ | with_reducible refine i_setd ?_ | with_reducible refine i_idxL ?_ | with_reducible refine i_ixLK ?_ | with_reducible refine i_dc ?_ | with_reducible refine i_dct ?_ | with_reducible refine i_ckw ?_ | with_reducible refine i_iceA ?_ | with_reducible refine i_get2 ?_ | with_reducible refine i_get1 ?_ | with_reducible refine i_prop ?_ | with_reducible refine i_propI ?_ | ((with_reducible apply i_methI); exact rfl) | ((with_reducible apply i_methO); (focus (first | assumption | exact setO_same | (rw [setO_ne (by assumption)]; first | assumption | exact setO_same))); exact rfl))
local macro_rules | `(tactic| walk_at "dl") => `(tactic| repeat (walk_at "d1"))
local macro_rules | `(tactic| walk_at "dw") => `(tactic| repeat (first | with_reducible refine i_if ?_ | with_reducible refine i_ifE ?_ | walk_at "d1"))
section
variable {P : Program} {w : World} {K : Frag} {mg : Str → Option Value} {base : Heap}
def f_law : DF := fun ds O q _ => ∃ ns : List Int, ds = [.lst (ns.map D.int)] ∧ ns.length ≤ 63 ∧ ∀ O', q (.bl true) O'
abbrev N_law : List Str := ["_law_script", "_law_at", "_law_bag_here", "_law_rows_here", "_law_tail", "_law_start", "_law_turn", "_law_bits", "_law_some", "_law_thing", "_law_sender_bits", "_law_tiny", "_law_many"]
abbrev P_law : List Str := ["_law_script"]
theorem sc_law : FnScope N_law P_law (defScope s_law) := ⟨rfl, rfl, rfl, by decide +kernel, rfl, by decide +kernel, by decide +kernel⟩
abbrev Fn_law (P : Program) (w : World) (K : Frag) (mg : Str → Option Value) (base : Heap) : Prop := Fn P w K mg base "law" "law" s_law [] [] P_law 1 7 f_law (He.ga K "law")
structure C_law (P : Program) (w : World) (K : Frag) (mg : Str → Option Value) (base : Heap) : Prop where
  End___init__ : Fn_End___init__ P w K mg base
  law_bag : Fn_law_bag P w K mg base
  law_bent : Fn_law_bent P w K mg base
  law_is_due : Fn_law_is_due P w K mg base
  law_rows : Fn_law_rows P w K mg base
  law_take : Fn_law_take P w K mg base
  law_way : Fn_law_way P w K mg base
  explained : Fn_explained P w K mg base
  is_log : Fn_is_log P w K mg base
theorem ok_law {P : Program} {w : World} {K : Frag} {mg : Str → Option Value} {base : Heap} (F : HasD K "law" "law" s_law [] [] (He.ga K "law")) (T : Txt K mg) (C : C_law P w K mg base) : Fn_law P w K mg base := by
  have sc := sc_law
  refine fn_E (k := 6) F sc rfl fun cdv A outer s H E O0 H0 F0 ds O q xx hl hf S => ⟨_,
      (ds_cons (ds_for (ps_for S.po rfl (di_range1 rfl T.b_range (da_cons (so_max2 S rfl rfl T.b_max (da_cons de_int (da_cons (so_min2 S rfl rfl T.b_min (da_cons de_int (da_cons (so_len S rfl T.b_len (da_cons (de_var (pv 0)) da_nil)) da_nil))) da_nil))) da_nil)) (dg_name (pg_name (i := 1) sc.nd rfl (by first | exact Or.inl rfl | exact Or.inr rfl)))
       (ds_cons (ds_set (ps_set (i := 2) sc.nd rfl (by first | exact Or.inl rfl | exact Or.inr rfl) (so_callF S C.law_bag (by decide) T.g_law_bag bd_law_bag rfl (da_cons (de_var (pv 0)) (da_cons (de_var (pv 1)) da_nil)))))
       (ds_cons (ds_set (ps_set (i := 3) sc.nd rfl (by first | exact Or.inl rfl | exact Or.inr rfl) (so_callF S C.law_rows (by decide) T.g_law_rows bd_law_rows rfl (da_cons (de_var (pv 2)) da_nil))))
       (ds_cons (ds_set (ps_set (i := 4) sc.nd rfl (by first | exact Or.inl rfl | exact Or.inr rfl) (de_iceI (C := He.ga K "End") (so_makeF S C.End___init__ (by decide) T.g_End T.mk_End bd_End___init__ rfl (da_cons (so_ix S (de_var (pv 3)) de_int (fun _ _ => rfl)) (da_cons (so_ix S (de_var (pv 3)) de_int (fun _ _ => rfl)) da_nil))))))
       (ds_cons (ds_for (ps_for S.po rfl (di_seq S (de_lst (da_cons de_str (da_cons de_str (da_cons de_str da_nil))))) (dg_name (pg_name (i := 5) sc.nd rfl (by first | exact Or.inl rfl | exact Or.inr rfl)))
        (ds_one (ds_for (ps_for S.po rfl (di_range1 rfl T.b_range (da_cons de_int da_nil)) (dg_name (pg_name (i := 6) sc.nd rfl (by first | exact Or.inl rfl | exact Or.inr rfl)))
         (ds_cons (ds_set (ps_set (i := 7) sc.nd rfl (by first | exact Or.inl rfl | exact Or.inr rfl) (so_callF S C.law_way (by decide) T.g_law_way bd_law_way rfl (da_cons (de_var (pv 2)) (da_cons (de_var (pv 3)) (da_cons (so_int S rfl T.b_int (da_cons (so_eq S (de_var (pv 5)) de_str) da_nil)) (da_cons (so_int S rfl T.b_int (da_cons (so_eq S (de_var (pv 5)) de_str) da_nil)) da_nil)))))))
         (ds_cons (ds_set (ps_set (i := 8) sc.nd rfl (by first | exact Or.inl rfl | exact Or.inr rfl) (de_lst (da_cons (de_var (pv 7)) (da_cons (so_callF S C.law_bent (by decide) T.g_law_bent bd_law_bent rfl (da_cons (de_var (pv 2)) (da_cons (de_var (pv 7)) da_nil))) (da_cons (so_callF S C.law_bent (by decide) T.g_law_bent bd_law_bent rfl (da_cons (de_var (pv 2)) (da_cons (de_var (pv 7)) da_nil))) (da_cons (so_list S rfl T.b_list (da_cons (de_var (pv 7)) da_nil)) (da_cons (de_tup da_nil) (da_cons (de_lst da_nil) (da_cons de_non (da_cons de_int (da_cons de_bl (da_cons de_str (da_cons so_dict0 da_nil))))))))))))))
         (ds_one (ds_for (ps_for S.po rfl (di_seq S (so_add S (de_var (pv 8)) (de_lst (da_cons (de_tup (da_cons de_int da_nil)) (da_cons (de_tup (da_cons de_int da_nil)) (da_cons (de_tup (da_cons de_int (da_cons de_int da_nil))) (da_cons (de_tup (da_cons de_int (da_cons de_int da_nil))) (da_cons (de_tup (da_cons de_non da_nil)) (da_cons (de_tup (da_cons (de_tup da_nil) da_nil)) da_nil))))))))) (dg_name (pg_name (i := 9) sc.nd rfl (by first | exact Or.inl rfl | exact Or.inr rfl)))
          (ds_one (ds_if (st_ne S (so_repr S rfl T.b_repr (da_cons (so_callF S C.is_log (by decide) T.g_is_log bd_is_log rfl (da_cons (de_var (pv 4)) (da_cons (de_var (pv 5)) (da_cons (de_var (pv 9)) da_nil)))) da_nil)) (so_repr S rfl T.b_repr (da_cons (so_callF S C.law_is_due (by decide) T.g_law_is_due bd_law_is_due rfl (da_cons (de_var (pv 3)) (da_cons (de_var (pv 5)) (da_cons (de_var (pv 9)) da_nil)))) da_nil)))
           (ds_one (ds_ret de_bl))
           ds_nil))))))))))))
       (ds_cons (ds_par (ps_par (i := 10) (j := 7) rfl sc.nd rfl rfl (by decide) rfl rfl (da_cons (so_callF S C.law_way (by decide) T.g_law_way bd_law_way rfl (da_cons (de_var (pv 2)) (da_cons (de_var (pv 3)) (da_cons de_int (da_cons de_int da_nil))))) (da_cons (so_callF S C.law_way (by decide) T.g_law_way bd_law_way rfl (da_cons (de_var (pv 2)) (da_cons (de_var (pv 3)) (da_cons de_int (da_cons de_int da_nil))))) da_nil)) (by rfl)))
       (ds_cons (ds_if (st_tru S (so_callF S C.law_is_due (by decide) T.g_law_is_due bd_law_is_due rfl (da_cons (de_var (pv 3)) (da_cons de_str (da_cons (de_var (pv 10)) da_nil)))))
        (ds_cons (ds_for (ps_for S.po rfl (di_seq S (de_lst (da_cons (de_slice rfl (de_var (pv 7)) do_none (do_some (so_neg S de_int))) (da_cons (so_add S (de_var (pv 7)) (de_tup (da_cons de_int da_nil))) (da_cons (de_tup da_nil) (da_cons (so_add S (de_var (pv 7)) (de_tup (da_cons de_int da_nil))) da_nil)))))) (dg_name (pg_name (i := 9) sc.nd rfl (by first | exact Or.inl rfl | exact Or.inr rfl)))
         (ds_one (ds_if (PW.pt (dw_and (dt_not (st_tru S (so_callF S C.law_is_due (by decide) T.g_law_is_due bd_law_is_due rfl (da_cons (de_var (pv 3)) (da_cons de_str (da_cons (de_var (pv 9)) da_nil)))))) (dw_and1 (dt_not (st_tru S (so_callF S C.law_is_due (by decide) T.g_law_is_due bd_law_is_due rfl (da_cons (de_var (pv 3)) (da_cons de_str (da_cons (de_var (pv 9)) da_nil)))))))))
          (ds_one (ds_if (st_isnot S (so_callF S C.explained (by decide) T.g_explained bd_explained rfl (da_cons (de_var (pv 4)) (da_cons (de_lst (da_cons (de_var (pv 10)) (da_cons (de_var (pv 9)) da_nil))) da_nil))) de_non)
           (ds_one (ds_ret de_bl))
           ds_nil))
          ds_nil))))
        (ds_one (ds_for (ps_for S.po rfl (di_seq S (de_lst (da_cons (de_slice rfl (de_var (pv 10)) do_none (do_some (so_neg S de_int))) (da_cons (so_add S (de_var (pv 10)) (de_tup (da_cons de_int da_nil))) (da_cons (de_tup da_nil) da_nil))))) (dg_name (pg_name (i := 9) sc.nd rfl (by first | exact Or.inl rfl | exact Or.inr rfl)))
         (ds_one (ds_if (PW.pt (dw_or (st_isnot S (so_callF S C.explained (by decide) T.g_explained bd_explained rfl (da_cons (de_var (pv 4)) (da_cons (de_lst (da_cons (de_var (pv 9)) (da_cons de_non da_nil))) da_nil))) de_non) (dw_or1 (st_isnot S (so_callF S C.explained (by decide) T.g_explained bd_explained rfl (da_cons (de_var (pv 4)) (da_cons (de_lst (da_cons (de_var (pv 9)) (da_cons (de_var (pv 7)) da_nil))) da_nil))) de_non))))
          (ds_one (ds_ret de_bl))
          ds_nil))))))
        ds_nil)
       (ds_cons (ds_set (ps_set (i := 11) sc.nd rfl (by first | exact Or.inl rfl | exact Or.inr rfl) (de_iceI (C := He.ga K "End") (so_makeF S C.End___init__ (by decide) T.g_End T.mk_End bd_End___init__ rfl (da_cons (de_lst (da_cons (de_tup (da_cons de_int (da_cons de_str (da_cons de_str da_nil)))) (da_cons (de_tup (da_cons de_int (da_cons de_str (da_cons de_str da_nil)))) da_nil))) (da_cons (de_lst (da_cons (de_tup (da_cons de_int (da_cons de_str (da_cons de_str da_nil)))) da_nil)) da_nil))))))
       (ds_cons (ds_set (ps_set (i := 12) sc.nd rfl (by first | exact Or.inl rfl | exact Or.inr rfl) (so_add S de_int (so_callF S C.law_take (by decide) T.g_law_take bd_law_take rfl (da_cons (de_var (pv 2)) (da_cons de_int da_nil))))))
       (ds_one (ds_if (PW.pt (dw_or (st_ne S (so_callF S C.explained (by decide) T.g_explained bd_explained rfl (da_cons (de_var (pv 11)) (da_cons (so_rep S (de_lstO (da_cons (de_tup (da_cons de_int da_nil)) da_nil)) (so_add S (de_var (pv 12)) de_int)) da_nil))) (de_tup (da_cons de_int (da_cons (de_tup da_nil) da_nil)))) (dw_or1 (st_ne S (so_ix S (so_callF S C.explained (by decide) T.g_explained bd_explained rfl (da_cons (de_var (pv 11)) (da_cons (so_add S (de_lst (da_cons (de_tup (da_cons de_int da_nil)) da_nil)) (so_rep S (de_lstO (da_cons (de_tup (da_cons de_int da_nil)) da_nil)) (de_var (pv 12)))) da_nil))) de_int (fun _ _ => rfl)) de_int))))
        (ds_one (ds_ret de_bl))
        ds_nil))))))))))))
      (ds_one (ds_ret de_bl)))
      , ?_⟩
  obtain ⟨ns, rfl, h0, hq⟩ := hf
  walk_at "dl"
  generalize hm : (if (if ((ns.map D.int).length : Int) < 4 then ((ns.map D.int).length : Int) else 4) > 1 then (if ((ns.map D.int).length : Int) < 4 then ((ns.map D.int).length : Int) else 4) else 1) = mm
  have hm3 : 0 ≤ mm ∧ mm ≤ 4 := by
    subst hm
    split <;> split <;> omega
  refine ⟨⟨by omega, by omega⟩, ?_⟩
  rw [rgD_zs]
  refine forGo_inv (fun i env O' => ∃ x1 x2 x3 x4 x5 x6 x7 x8 x9 x10 x11 x12 : Option D, env = [some (.lst (ns.map D.int)), x1, x2, x3, x4, x5, x6, x7, x8, x9, x10, x11, x12])
    ⟨_, _, _, _, _, _, _, _, _, _, _, _, rfl⟩ (fun _ _ _ _ _ => trivial) ?_ ?_
  · rintro N i y env O' hy ⟨x1, x2, x3, x4, x5, x6, x7, x8, x9, x10, x11, x12, rfl⟩ hN
    obtain ⟨b, hb, rfl⟩ := map_get hy
    obtain ⟨hb0, hb1⟩ := zs_mem (List.mem_of_getElem? hb)
    walk_at "dl"
    refine ⟨rfl, ns, b, rfl, hb0, by omega, fun p o hp hbag => ?_⟩
    walk_at "dl"
    refine ⟨rfl, p, _, rfl, hbag, by decide, fun hs ss O2 ex2 hbag2 lr => ?_⟩
    have so := (lrows_ok lr).1
    walk_at "dl"
    refine i_End (.inl rfl) (.inl rfl) so ?_
    generalize hE : endD (He.ga K "End") hs ss = ED
    walk_at "dl"
    refine forGo_inv (fun j env O' => ∃ x5 x6 x7 x8 x9 x10 x11 x12 : Option D, env = [some (.lst (ns.map D.int)), some (.int b), some (.ref p), some (.lst [.lst hs, .lst ss]), some ED, x5, x6, x7, x8, x9, x10, x11, x12] ∧ Bag O' p (110 + 120 * j))
      ⟨_, _, _, _, _, _, _, _, rfl, hbag2.mono (by omega)⟩ (fun _ _ _ _ _ => trivial) ?_ ?_
    · rintro N2 k y env O3 hy ⟨x5, x6, x7, x8, x9, x10, x11, x12, rfl, hbag3⟩ hN2
      obtain ⟨hk, rfl⟩ : k < 3 ∧ y = .str (sSt k) := by
        match k, hy with
        | 0, hd => cases hd; exact ⟨by omega, rfl⟩
        | 1, hd => cases hd; exact ⟨by omega, rfl⟩
        | 2, hd => cases hd; exact ⟨by omega, rfl⟩
      have gk : strGood (sSt k) = true := by
        rcases (show k = 0 ∨ k = 1 ∨ k = 2 by omega) with rfl | rfl | rfl <;> decide +kernel
      walk_at "dl"
      refine ⟨⟨by decide, by decide⟩, ?_⟩
      rw [rgD_zs]
      refine forGo_inv (fun l env O' => ∃ x6 x7 x8 x9 x10 x11 x12 : Option D, env = [some (.lst (ns.map D.int)), some (.int b), some (.ref p), some (.lst [.lst hs, .lst ss]), some ED, some (.str (sSt k)), x6, x7, x8, x9, x10, x11, x12] ∧ Bag O' p (110 + 120 * k + 18 * l))
        ⟨_, _, _, _, _, _, _, rfl, hbag3.mono (by omega)⟩ (fun _ _ _ _ _ => trivial) ?_ ?_
      · rintro N3 l y env O4 hy ⟨x6, x7, x8, x9, x10, x11, x12, rfl, hbag4⟩ hN3
        have hl6 : l < 6 := by
          have := (List.getElem?_eq_some_iff.mp hy).1
          rw [List.length_map, zs_len] at this
          omega
        walk_at "dl"
        refine i_eqS gk (by decide +kernel) ?_
        walk_at "dl"
        refine i_eqS gk (by decide +kernel) ?_
        walk_at "dl"
        rw [show (if decide (sSt k = "sender") = true then (1 : Int) else 0) = kSt k from by
          rcases (show k = 0 ∨ k = 1 ∨ k = 2 by omega) with rfl | rfl | rfl <;> decide +kernel,
          show (if decide (sSt k = "wrong") = true then (1 : Int) else 0) = rSt k from by
          rcases (show k = 0 ∨ k = 1 ∨ k = 2 by omega) with rfl | rfl | rfl <;> decide +kernel]
        refine ⟨rfl, p, _, k, hs, ss, rfl, hbag4, by omega, hk, so, fun u O5 ex5 hbag5 hu hul => ?_⟩
        walk_at "dl"
        refine ⟨rfl, p, _, u, rfl, hbag5, by omega, by omega, fun d1 O6 ex6 hbag6 gd1 => ?_⟩
        walk_at "dl"
        refine ⟨rfl, p, _, u, rfl, hbag6, by omega, by omega, fun d2 O7 ex7 hbag7 gd2 => ?_⟩
        walk_at "dl"
        refine ⟨_, rfl, ?_⟩
        walk_at "dl"
        intro pd hpd
        walk_at "dl"
        refine i_addL (line_ok (by show _ ≤ _; simp)) ?_
        have npd : p ≠ pd := hbag7.ne hpd
        have hbag8 := hbag7.other (o := .dK []) hpd
        have hpd8 : setO O7 pd (.dK []) pd = some (.dK []) := setO_same
        generalize setO O7 pd (.dK []) = O8 at hbag8 hpd8 ⊢
        have hall : ∀ d ∈ [D.tup (u.map D.int), d1, d2, .lst (u.map D.int), .tup [], .lst [], .non, .int 7, .bl true, .str "01", .ref pd] ++ [D.tup [.int 0], .tup [.int 1], .tup [.int 0, .int 0], .tup [.int 1, .int 1], .tup [.non], .tup [.tup []]], good d = true ∨ ∃ t, tyN O8 d = some t ∧ t ≠ "tuple" := fun d hd => by
          have gu : ∀ d ∈ u.map D.int, good d = true ∧ (py d).depth ≤ 60 := fun d hd => by
            obtain ⟨i, _, rfl⟩ := List.mem_map.mp hd
            exact ⟨good_int i, by simp [py, PyData.depth]⟩
          simp only [List.cons_append, List.nil_append, List.mem_cons, List.mem_nil_iff, or_false] at hd
          rcases hd with rfl | rfl | rfl | rfl | rfl | rfl | rfl | rfl | rfl | rfl | rfl | rfl | rfl | rfl | rfl | rfl | rfl
          · exact .inl (good_tupI gu)
          · exact .inl gd1
          · exact .inl gd2
          · exact .inl (good_lstI gu)
          · exact .inl (by decide +kernel)
          · exact .inl (by decide +kernel)
          · exact .inl (by decide +kernel)
          · exact .inl (by decide +kernel)
          · exact .inl (by decide +kernel)
          · exact .inl (by decide +kernel)
          · exact .inr ⟨"dict", by simp only [tyN, hpd8], by decide⟩
          · exact .inl (by decide +kernel)
          · exact .inl (by decide +kernel)
          · exact .inl (by decide +kernel)
          · exact .inl (by decide +kernel)
          · exact .inl (by decide +kernel)
          · exact .inl (by decide +kernel)
        generalize [D.tup (u.map D.int), d1, d2, .lst (u.map D.int), .tup [], .lst [], .non, .int 7, .bl true, .str "01", .ref pd] ++ [D.tup [.int 0], .tup [.int 1], .tup [.int 0, .int 0], .tup [.int 1, .int 1], .tup [.non], .tup [.tup []]] = dall at hall ⊢
        walk_at "dl"
        refine forGo_inv (fun l env O' => ∃ x6 x7 x8 x9 x10 x11 x12 : Option D, env = [some (.lst (ns.map D.int)), some (.int b), some (.ref p), some (.lst [.lst hs, .lst ss]), some ED, some (.str (sSt k)), x6, x7, x8, x9, x10, x11, x12] ∧ O' = O8)
          ⟨_, _, _, _, _, _, _, rfl, rfl⟩ (fun _ _ _ _ _ => trivial) ?_ ?_
        · rintro N4 l' d env O9 hy ⟨x6, x7, x8, x9, x10, x11, x12, rfl, rfl⟩ hN4
          have hd := hall d (List.mem_of_getElem? hy)
          walk_at "dw"
          refine ⟨rfl, k, hs, ss, d, by rw [← hE]; rfl, hk, so, hd, ?_⟩
          generalize hbb : lgD (mSt hs ss k) (.int (rSt k)) d = bb
          walk_at "dl"
          refine i_repr (by cases bb <;> decide +kernel) ?_
          walk_at "dl"
          refine ⟨rfl, k, hs, ss, d, rfl, hk, so, hd, ?_⟩
          rw [hbb]
          walk_at "dl"
          refine i_repr (by cases bb <;> decide +kernel) ?_
          have gb : strGood (shw (.bl bb)) = true := by cases bb <;> decide +kernel
          refine i_neS gb gb ?_
          rw [decide_eq_true rfl]
          refine iteF ?_
          refine i_next ?_
          exact hN4 _ _ _ (.refl _) ⟨_, _, _, _, _, _, _, rfl, rfl⟩
        · rintro env O9 ⟨x6, x7, x8, x9, x10, x11, x12, rfl, rfl⟩
          exact hN3 _ _ _ (.refl _) ⟨_, _, _, _, _, _, _, rfl, hbag8.mono (by push_cast; omega)⟩
      · rintro env O4 ⟨x6, x7, x8, x9, x10, x11, x12, rfl, hbag4⟩
        rw [List.length_map, zs_len] at hbag4
        exact hN2 _ _ _ (.refl _) ⟨_, _, _, _, _, _, _, _, rfl, hbag4.mono (by omega)⟩
    · rintro env O3 ⟨x5, x6, x7, x8, x9, x10, x11, x12, rfl, hbag3⟩
      have hbag3 : Bag O3 p 470 := hbag3.mono (by decide)
      have hl20 := (lrows_ok lr).2
      walk_at "dl"
      refine ⟨rfl, p, _, 2, hs, ss, rfl, hbag3, by decide, by decide, so, fun u O4 ex4 hbag4 hu hul => ?_⟩
      walk_at "dl"
      refine ⟨rfl, p, _, 0, hs, ss, rfl, hbag4, by decide, by decide, so, fun v O5 ex5 hbag5 hv hvl => ?_⟩
      have gu : good (.tup (u.map D.int)) = true := good_tupI fun d hd => by
        obtain ⟨i, _, rfl⟩ := List.mem_map.mp hd
        exact ⟨good_int i, by simp [py, PyData.depth]⟩
      walk_at "dl"
      refine i_nxJ (fun env O' => ∃ x5 x6 x8 x9 x11 x12 : Option D, env = [some (.lst (ns.map D.int)), some (.int b), some (.ref p), some (.lst [.lst hs, .lst ss]), some ED, x5, x6, some (.tup (v.map D.int)), x8, x9, some (.tup (u.map D.int)), x11, x12] ∧ Bag O' p 500) (fun N2 hN2 => ?_) ?_
      · walk_at "dw"
        refine ⟨rfl, 2, hs, ss, .tup (u.map D.int), rfl, by decide, so, .inl gu, ?_⟩
        rw [show lgD (mSt hs ss 2) (.int (rSt 2)) (.tup (u.map D.int)) = lgP ss (.int 0) u from lgE_bits _ _ _ hu]
        refine ⟨_, rfl, ?_⟩
        cases hlu : lgP ss (.int 0) u with
        | false =>
          refine iteF ?_
          exact hN2 _ _ ⟨_, _, _, _, _, _, rfl, hbag5.mono (by decide)⟩
        | true =>
          refine iteT ?_
          walk_at "dl"
          refine i_addT (line_ok (by rw [List.length_map, List.length_singleton]; omega)) ?_
          walk_at "dl"
          refine i_addT (line_ok (by rw [List.length_map, List.length_singleton]; omega)) ?_
          walk_at "dl"
          rw [cut_last, show [D.tup (v.dropLast.map D.int), .tup (v.map D.int ++ [.int 1]), .tup [], .tup (v.map D.int ++ [.int 0])] = [v.dropLast, v ++ [1], [], v ++ [0]].map tupI from by simp [tupI]]
          have hcan : ∀ x ∈ [v.dropLast, v ++ [1], [], v ++ [0]], bits x ∧ x.length ≤ 14 := fun x hx => by
            simp only [List.mem_cons, List.mem_nil_iff, or_false] at hx
            rcases hx with rfl | rfl | rfl | rfl
            · exact ⟨bits_drop hv, by rw [List.length_dropLast]; omega⟩
            · exact ⟨bits_snoc hv (.inr rfl), by rw [List.length_append, List.length_singleton]; omega⟩
            · exact ⟨fun _ h => (List.not_mem_nil h).elim, by simp⟩
            · exact ⟨bits_snoc hv (.inl rfl), by rw [List.length_append, List.length_singleton]; omega⟩
          generalize [v.dropLast, v ++ [1], [], v ++ [0]] = cans at hcan ⊢
          refine forGo_inv (fun l env O' => ∃ x5 x6 x8 x9 x11 x12 : Option D, env = [some (.lst (ns.map D.int)), some (.int b), some (.ref p), some (.lst [.lst hs, .lst ss]), some ED, x5, x6, some (.tup (v.map D.int)), x8, x9, some (.tup (u.map D.int)), x11, x12] ∧ Bag O' p 500)
            ⟨_, _, _, _, _, _, rfl, hbag5.mono (by decide)⟩ (fun _ _ _ _ _ => trivial) ?_ ?_
          · rintro N4 l' y env O9 hy ⟨x5, x6, x8, x9, x11, x12, rfl, bag9⟩ hN4
            rw [List.getElem?_map] at hy
            obtain ⟨x, hx, rfl⟩ := Option.map_eq_some_iff.mp hy
            obtain ⟨bx, lx⟩ := hcan x (List.mem_of_getElem? hx)
            walk_at "dw"
            refine ⟨rfl, 0, hs, ss, tupI x, rfl, by decide, so, .inl (good_tI x), ?_⟩
            rw [show lgD (mSt hs ss 0) (.int (rSt 0)) (tupI x) = lgP hs (.int 0) x from lgE_bits _ _ _ bx]
            refine ⟨_, rfl, ?_⟩
            cases hx0 : lgP hs (.int 0) x with
            | true =>
              refine iteF ?_
              refine iteF ?_
              exact hN4 _ _ _ (.refl _) ⟨_, _, _, _, _, _, rfl, bag9⟩
            | false =>
              refine iteT ?_
              walk_at "dw"
              refine ⟨rfl, 1, hs, ss, tupI x, rfl, by decide, so, .inl (good_tI x), ?_⟩
              rw [show lgD (mSt hs ss 1) (.int (rSt 1)) (tupI x) = lgP hs (.int 1) x from lgE_bits _ _ _ bx]
              refine ⟨_, rfl, ?_⟩
              cases hx1 : lgP hs (.int 1) x with
              | true =>
                refine iteF ?_
                exact hN4 _ _ _ (.refl _) ⟨_, _, _, _, _, _, rfl, bag9⟩
              | false =>
                refine iteT ?_
                walk_at "dw"
                obtain ⟨k1, k2⟩ := two_ok so (a := some u) (b := some x) (fun _ z => by cases z; exact ⟨hu, by omega⟩) (fun _ z => by cases z; exact ⟨bx, lx⟩) hl20.1 hl20.2 rfl
                refine ⟨rfl, ⟨hs, ss, [some u, some x]⟩, [tupI u, tupI x], by rw [← hE]; rfl, rfl, two_args (.inr ⟨u, rfl, .inl rfl⟩) (.inr ⟨x, rfl, .inl rfl⟩), k1, k2, fun r O10 sub10 an => ?_⟩
                obtain rfl := ans_none (ok1_of hx0 hx1) an
                walk_at "dw"
                refine iteF ?_
                exact hN4 _ _ _ sub10 ⟨_, _, _, _, _, _, rfl, bag9⟩
          · rintro env O9 ⟨x5, x6, x8, x9, x11, x12, rfl, bag9⟩
            walk_at "dl"
            refine i_addT (line_ok (by rw [List.length_map, List.length_singleton]; omega)) ?_
            walk_at "dl"
            rw [cut_last, show [D.tup (u.dropLast.map D.int), .tup (u.map D.int ++ [.int 1]), .tup []] = [u.dropLast, u ++ [1], []].map tupI from by simp [tupI]]
            have hune : u ≠ [] := fun z => by rw [z] at hlu; cases hlu
            have hcan : ∀ x ∈ [u.dropLast, u ++ [1], []], bits x ∧ x.length ≤ 14 ∧ lgP ss (.int 0) x = false := fun x hx => by
              simp only [List.mem_cons, List.mem_nil_iff, or_false] at hx
              rcases hx with rfl | rfl | rfl
              · exact ⟨bits_drop hu, by rw [List.length_dropLast]; omega, lgP_cut hlu hune⟩
              · exact ⟨bits_snoc hu (.inr rfl), by rw [List.length_append, List.length_singleton]; omega, lgP_ext _ _ _ _ _ hlu⟩
              · exact ⟨fun _ h => (List.not_mem_nil h).elim, by simp, rfl⟩
            generalize [u.dropLast, u ++ [1], []] = cans at hcan ⊢
            refine forGo_inv (fun l env O' => ∃ x5 x6 x8 x9 x11 x12 : Option D, env = [some (.lst (ns.map D.int)), some (.int b), some (.ref p), some (.lst [.lst hs, .lst ss]), some ED, x5, x6, some (.tup (v.map D.int)), x8, x9, some (.tup (u.map D.int)), x11, x12] ∧ Bag O' p 500)
              ⟨_, _, _, _, _, _, rfl, bag9⟩ (fun _ _ _ _ _ => trivial) ?_ ?_
            · clear bag9
              rintro N4 l' y env O9 hy ⟨x5, x6, x8, x9, x11, x12, rfl, bag9⟩ hN4
              rw [List.getElem?_map] at hy
              obtain ⟨x, hx, rfl⟩ := Option.map_eq_some_iff.mp hy
              obtain ⟨bx, lx, nx⟩ := hcan x (List.mem_of_getElem? hx)
              walk_at "dw"
              obtain ⟨k1, k2⟩ := two_ok so (a := some x) (b := none) (fun _ z => by cases z; exact ⟨bx, lx⟩) (fun _ z => by cases z) hl20.1 hl20.2 rfl
              refine ⟨rfl, ⟨hs, ss, [some x, none]⟩, [tupI x, .non], by rw [← hE]; rfl, rfl, two_args (.inr ⟨x, rfl, .inl rfl⟩) (.inl ⟨rfl, rfl⟩), k1, k2, fun r O10 sub10 an => ?_⟩
              obtain rfl := ans_none (ok0_of nx) an
              walk_at "dw"
              refine iteF ?_
              walk_at "dw"
              obtain ⟨k1, k2⟩ := two_ok so (a := some x) (b := some v) (fun _ z => by cases z; exact ⟨bx, lx⟩) (fun _ z => by cases z; exact ⟨hv, by omega⟩) hl20.1 hl20.2 rfl
              refine ⟨rfl, ⟨hs, ss, [some x, some v]⟩, [tupI x, tupI v], by rw [← hE]; rfl, rfl, two_args (.inr ⟨x, rfl, .inl rfl⟩) (.inr ⟨v, rfl, .inl rfl⟩), k1, k2, fun r O11 sub11 an => ?_⟩
              obtain rfl := ans_none (ok0_of nx) an
              walk_at "dw"
              refine iteF ?_
              exact hN4 _ _ _ (sub10.trans sub11) ⟨_, _, _, _, _, _, rfl, bag9⟩
            · rintro env O9 ⟨x5, x6, x8, x9, x11, x12, rfl, bag9⟩
              exact hN2 _ _ ⟨_, _, _, _, _, _, rfl, bag9⟩
      rintro env O6 ⟨x5, x6, x8, x9, x11, x12, rfl, hbag6⟩
      walk_at "dl"
      refine i_End (.inl rfl) (.inl rfl) (soundB_ok tiny_b) ?_
      walk_at "dl"
      refine ⟨rfl, p, 5, _, rfl, hbag6, by decide, by decide, by decide, fun mn o6 m0 m1 hbag7 => ?_⟩
      obtain ⟨mn, rfl⟩ := Int.eq_ofNat_of_zero_le m0
      generalize setO O6 p o6 = O7
      walk_at "dw"
      intro pr hpr
      walk_at "dw"
      refine i_rep setO_same ⟨by omega, by omega⟩ (by simp) ?_
      generalize setO O7 pr (.lst [D.tup [.int 1]]) = O8
      have e1 : (1 + ((mn : Nat) : Int) + 1).toNat = mn + 2 := by omega
      rw [rep_one, e1]
      walk_at "dw"
      refine ⟨rfl, tinyX (mn + 2) 1, List.replicate (mn + 2) (.tup [.int 1]), rfl, by simp [tinyX], tiny_args, tiny_ok (.inr rfl) (by omega) (by omega), tiny_sm (by omega), fun r O9 sub9 an => ?_⟩
      obtain rfl := tiny_one (by omega) (by omega) an
      walk_at "dw"
      refine i_neG (x := ansD (some [])) (y := .tup [.int 0, .tup []]) (by decide +kernel) (by decide +kernel) ?_
      rw [show (!PyData.eqv (py (ansD (some []))) (py (D.tup [D.int 0, D.tup []]))) = false from by decide +kernel]
      refine iteF ?_
      walk_at "dw"
      intro pr2 hpr2
      walk_at "dw"
      refine i_rep setO_same ⟨by omega, by omega⟩ (by simp) ?_
      generalize setO O9 pr2 (.lst [D.tup [.int 0]]) = O10
      have e2 : (1 + ((mn : Nat) : Int)).toNat = mn + 1 := by omega
      rw [rep_one, e2]
      refine i_addL (line_ok (by rw [List.length_replicate, List.length_singleton]; omega)) ?_
      rw [List.singleton_append, ← List.replicate_succ]
      walk_at "dw"
      refine ⟨rfl, tinyX (mn + 2) 0, List.replicate (mn + 2) (.tup [.int 0]), rfl, by simp [tinyX], tiny_args, tiny_ok (.inl rfl) (by omega) (by omega), tiny_sm (by omega), fun r O11 sub11 an => ?_⟩
      obtain ⟨fp, rfl⟩ := tiny_zero (by omega) (by omega) an
      walk_at "dw"
      refine i_ixT (ds := [.int 1, .tup [fauD fp]]) (i := 0) (d := .int 1) rfl ?_
      walk_at "dw"
      refine iteF ?_
      refine i_next ?_
      exact hN _ _ _ (.refl _) ⟨_, _, _, _, _, _, _, _, _, _, _, _, rfl⟩
  · rintro env O' ⟨x1, x2, x3, x4, x5, x6, x7, x8, x9, x10, x11, x12, rfl⟩
    walk_at "dl"
    exact rt_same (hq _)
end
end K62
set_option Elab.async false
set_option linter.all false
set_option maxRecDepth 100000
set_option maxHeartbeats 4000000
namespace K62
open PySem PySem.Spec PyProof.Rows L2 DL
open ClX (CRead CVal)
theorem facts {P : Program} {w : World} {K : PySem.W.Frag} {h : Heap} {mg : Str → Option Value} {f : Addr} (X : K.In h) (G : h.Ns mainGlobals mg) (hfa : mg ("law" : Str) = some (.ref f)) (c : SaysX fas fns K) :
    ∃ fd : FuncData, (∀ (s : Shared) (v : Value), BindsTo s fd ⟨[v], []⟩ [("_law_script", v)]) ∧ ∀ base : Heap, K.In base → base.Ns mainGlobals mg → FnG P w K mg base (L2.CX P w) 7 f fd P_law (spD K 1 f_law) := by
  have F_is_integer : HasD K "is_integer" "is_integer" s_is_integer [] [] (He.ga K "is_integer") := c.def_ 0 (z := dd_is_integer) rfl
  have F_is_bit : HasD K "is_bit" "is_bit" s_is_bit [] [] (He.ga K "is_bit") := c.def_ 1 (z := dd_is_bit) rfl
  have F_is_next : HasD K "is_next" "is_next" s_is_next [] [] (He.ga K "is_next") := c.def_ 2 (z := dd_is_next) rfl
  have F_is_row_of : HasD K "is_row_of" "is_row_of" s_is_row_of [] [] (He.ga K "is_row_of") := c.def_ 3 (z := dd_is_row_of) rfl
  have F_checked_rows : HasD K "checked_rows" "checked_rows" s_checked_rows [] [] (He.ga K "checked_rows") := c.def_ 4 (z := dd_checked_rows) rfl
  have F_words_from : HasD K "words_from" "words_from" s_words_from [] [] (He.ga K "words_from") := c.def_ 5 (z := dd_words_from) rfl
  have F_End___init__ : HasD K "__init__" "End.__init__" s_End___init__ [] [] (He.ma K (He.ga K "End") "__init__") := c.def_ 6 (z := dd_End___init__) rfl
  have F_End_hearer : HasD K "hearer" "End.hearer" s_End_hearer [] [] (ga2 K "End" "hearer") := c.def_ 7 (z := dd_End_hearer) rfl
  have F_End_sender : HasD K "sender" "End.sender" s_End_sender [] [] (ga2 K "End" "sender") := c.def_ 8 (z := dd_End_sender) rfl
  have F_law_take : HasD K "_law_take" "_law_take" s_law_take [] [] (He.ga K "_law_take") := c.def_ 9 (z := dd_law_take) rfl
  have F_law_bag : HasD K "_law_bag" "_law_bag" s_law_bag [] [] (He.ga K "_law_bag") := c.def_ 10 (z := dd_law_bag) rfl
  have F_law_of : HasD K "_law_of" "_law_of" s_law_of [] [] (He.ga K "_law_of") := c.def_ 11 (z := dd_law_of) rfl
  have F_law_follow : HasD K "_law_follow" "_law_follow" s_law_follow [] [] (He.ga K "_law_follow") := c.def_ 12 (z := dd_law_follow) rfl
  have F_law_drawn_rows : HasD K "_law_drawn_rows" "_law_drawn_rows" s_law_drawn_rows [] [] (He.ga K "_law_drawn_rows") := c.def_ 13 (z := dd_law_drawn_rows) rfl
  have F_law_voting_place : HasD K "_law_voting_place" "_law_voting_place" s_law_voting_place [] [] (He.ga K "_law_voting_place") := c.def_ 14 (z := dd_law_voting_place) rfl
  have F_law_voting_rows : HasD K "_law_voting_rows" "_law_voting_rows" s_law_voting_rows [] [] (He.ga K "_law_voting_rows") := c.def_ 15 (z := dd_law_voting_rows) rfl
  have F_law_rows : HasD K "_law_rows" "_law_rows" s_law_rows [] [] (He.ga K "_law_rows") := c.def_ 16 (z := dd_law_rows) rfl
  have F_is_row : HasD K "is_row" "is_row" s_is_row [] [] (He.ga K "is_row") := c.def_ 17 (z := dd_is_row) rfl
  have F_is_log : HasD K "is_log" "is_log" s_is_log [] [] (He.ga K "is_log") := c.def_ 18 (z := dd_is_log) rfl
  have F_first_places : HasD K "first_places" "first_places" s_first_places [] [] (He.ga K "first_places") := c.def_ 19 (z := dd_first_places) rfl
  have F_later_places : HasD K "later_places" "later_places" s_later_places [] [] (He.ga K "later_places") := c.def_ 20 (z := dd_later_places) rfl
  have F_Search___init__ : HasD K "__init__" "Search.__init__" s_Search___init__ [] [] (He.ma K (He.ga K "Search") "__init__") := c.def_ 21 (z := dd_Search___init__) rfl
  have F_Search_put : HasD K "put" "Search.put" s_Search_put [] [] (He.ma K (He.ga K "Search") "put") := c.def_ 22 (z := dd_Search_put) rfl
  have F_Search_is_new : HasD K "is_new" "Search.is_new" s_Search_is_new [] [] (He.ma K (He.ga K "Search") "is_new") := c.def_ 23 (z := dd_Search_is_new) rfl
  have F_explained : HasD K "explained" "explained" s_explained [] [] (He.ga K "explained") := c.def_ 24 (z := dd_explained) rfl
  have F_law_walk : HasD K "_law_walk" "_law_walk" s_law_walk [] [] (He.ga K "_law_walk") := c.def_ 25 (z := dd_law_walk) rfl
  have F_law_way : HasD K "_law_way" "_law_way" s_law_way [] [] (He.ga K "_law_way") := c.def_ 26 (z := dd_law_way) rfl
  have F_law_is_due : HasD K "_law_is_due" "_law_is_due" s_law_is_due [] [] (He.ga K "_law_is_due") := c.def_ 27 (z := dd_law_is_due) rfl
  have F_law_bent : HasD K "_law_bent" "_law_bent" s_law_bent [] [] (He.ga K "_law_bent") := c.def_ 28 (z := dd_law_bent) rfl
  have F_law : HasD K "law" "law" s_law [] [] (He.ga K "law") := c.def_ 29 (z := dd_law) rfl
  have e := hfa.symm.trans (He.glo_ok X G (x := "law") (c.fact 60 (f := gloB "law") rfl))
  cases e
  have T : Txt K mg := ⟨He.cls_ok (x := "End") (c.fact 0 (f := clsB "End") rfl),
    He.cls_ok (x := "Search") (c.fact 1 (f := clsB "Search") rfl),
    (let ⟨t, k⟩ := He.str_ok X G (x := "HEARER") (z := "hearer") (c.fact 2 (f := strB "HEARER" "hearer") rfl); ⟨_, k, ⟨t, rfl⟩⟩),
    fun _ => .str _,
    ⟨_, He.glo_ok X G (x := "HEARER_WORDS") (c.fact 3 (f := gloB "HEARER_WORDS") rfl), rfl⟩,
    fun F => .tup (tupX_ok (c.fact 4 (f := tupX "HEARER_WORDS" [.str "taken", .str "lost"]) rfl) F) (RVs.cons (RV.str _) <| RVs.cons (RV.str _) <| RVs.nil),
    (let ⟨t, k⟩ := He.int_ok X G (x := "MOST_BIT") (i := 5000) (c.fact 5 (f := intX "MOST_BIT" 5000) rfl); ⟨_, k, ⟨t, rfl⟩⟩),
    fun _ => .int _,
    (let ⟨t, k⟩ := He.str_ok X G (x := "SENDER") (z := "sender") (c.fact 6 (f := strB "SENDER" "sender") rfl); ⟨_, k, ⟨t, rfl⟩⟩),
    fun _ => .str _,
    ⟨_, He.glo_ok X G (x := "SENDER_WORDS") (c.fact 7 (f := gloB "SENDER_WORDS") rfl), rfl⟩,
    fun F => .tup (tupX_ok (c.fact 8 (f := tupX "SENDER_WORDS" [.str "done", .str "again"]) rfl) F) (RVs.cons (RV.str _) <| RVs.cons (RV.str _) <| RVs.nil),
    (cvalB_ok (c.fact 9 (f := cvalB "End" "MOST" 100) rfl)).1,
    (cvalB_ok (c.fact 9 (f := cvalB "End" "MOST" 100) rfl)).2,
    He.free_ok X G (x := "abs") (c.fact 10 (f := freeB "abs") rfl),
    He.free_ok X G (x := "bool") (c.fact 11 (f := freeB "bool") rfl),
    He.free_ok X G (x := "enumerate") (c.fact 12 (f := freeB "enumerate") rfl),
    He.free_ok X G (x := "int") (c.fact 13 (f := freeB "int") rfl),
    He.free_ok X G (x := "isinstance") (c.fact 14 (f := freeB "isinstance") rfl),
    He.free_ok X G (x := "len") (c.fact 15 (f := freeB "len") rfl),
    He.free_ok X G (x := "list") (c.fact 16 (f := freeB "list") rfl),
    He.free_ok X G (x := "max") (c.fact 17 (f := freeB "max") rfl),
    He.free_ok X G (x := "min") (c.fact 18 (f := freeB "min") rfl),
    He.free_ok X G (x := "range") (c.fact 19 (f := freeB "range") rfl),
    He.free_ok X G (x := "repr") (c.fact 20 (f := freeB "repr") rfl),
    He.free_ok X G (x := "str") (c.fact 21 (f := freeB "str") rfl),
    He.free_ok X G (x := "tuple") (c.fact 22 (f := freeB "tuple") rfl),
    He.glo_ok X G (x := "End") (c.fact 23 (f := gloB "End") rfl),
    He.glo_ok X G (x := "Search") (c.fact 24 (f := gloB "Search") rfl),
    He.glo_ok X G (x := "_law_bag") (c.fact 25 (f := gloB "_law_bag") rfl),
    He.glo_ok X G (x := "_law_bent") (c.fact 26 (f := gloB "_law_bent") rfl),
    He.glo_ok X G (x := "_law_drawn_rows") (c.fact 27 (f := gloB "_law_drawn_rows") rfl),
    He.glo_ok X G (x := "_law_follow") (c.fact 28 (f := gloB "_law_follow") rfl),
    He.glo_ok X G (x := "_law_is_due") (c.fact 29 (f := gloB "_law_is_due") rfl),
    He.glo_ok X G (x := "_law_of") (c.fact 30 (f := gloB "_law_of") rfl),
    He.glo_ok X G (x := "_law_rows") (c.fact 31 (f := gloB "_law_rows") rfl),
    He.glo_ok X G (x := "_law_take") (c.fact 32 (f := gloB "_law_take") rfl),
    He.glo_ok X G (x := "_law_voting_place") (c.fact 33 (f := gloB "_law_voting_place") rfl),
    He.glo_ok X G (x := "_law_voting_rows") (c.fact 34 (f := gloB "_law_voting_rows") rfl),
    He.glo_ok X G (x := "_law_walk") (c.fact 35 (f := gloB "_law_walk") rfl),
    He.glo_ok X G (x := "_law_way") (c.fact 36 (f := gloB "_law_way") rfl),
    He.glo_ok X G (x := "checked_rows") (c.fact 37 (f := gloB "checked_rows") rfl),
    He.glo_ok X G (x := "explained") (c.fact 38 (f := gloB "explained") rfl),
    He.glo_ok X G (x := "first_places") (c.fact 39 (f := gloB "first_places") rfl),
    He.glo_ok X G (x := "is_bit") (c.fact 40 (f := gloB "is_bit") rfl),
    He.glo_ok X G (x := "is_integer") (c.fact 41 (f := gloB "is_integer") rfl),
    He.glo_ok X G (x := "is_log") (c.fact 42 (f := gloB "is_log") rfl),
    He.glo_ok X G (x := "is_next") (c.fact 43 (f := gloB "is_next") rfl),
    He.glo_ok X G (x := "is_row") (c.fact 44 (f := gloB "is_row") rfl),
    He.glo_ok X G (x := "is_row_of") (c.fact 45 (f := gloB "is_row_of") rfl),
    He.glo_ok X G (x := "later_places") (c.fact 46 (f := gloB "later_places") rfl),
    He.glo_ok X G (x := "words_from") (c.fact 47 (f := gloB "words_from") rfl),
    He.meth_ok (x := "Search") (m := "is_new") (c.fact 48 (f := methB "Search" "is_new") rfl),
    He.meth_ok (x := "Search") (m := "put") (c.fact 49 (f := methB "Search" "put") rfl),
    He.mkr_ok (x := "End") (c.fact 50 (f := mkrB "End") rfl),
    He.mkr_ok (x := "Search") (c.fact 51 (f := mkrB "Search") rfl),
    He.noat_ok (x := "End") (f := "hearer_rows") (c.fact 52 (f := noatB "End" "hearer_rows") rfl),
    He.noat_ok (x := "End") (f := "sender_rows") (c.fact 53 (f := noatB "End" "sender_rows") rfl),
    He.noat_ok (x := "End") (f := "table") (c.fact 54 (f := noatB "End" "table") rfl),
    He.noat_ok (x := "Search") (f := "known") (c.fact 55 (f := noatB "Search" "known") rfl),
    He.noat_ok (x := "Search") (f := "levels") (c.fact 56 (f := noatB "Search" "levels") rfl),
    He.noat_ok (x := "Search") (f := "longest") (c.fact 57 (f := noatB "Search" "longest") rfl),
    propB_ok (c.fact 58 (f := propB "End" "hearer") rfl),
    propB_ok (c.fact 59 (f := propB "End" "sender") rfl)⟩
  obtain ⟨fdl, Fl⟩ := F_law
  have b := FunD.bindsA (ps := P_law) Fl fun _ _ _ _ _ _ us hl => match us, hl with | [_], _ => rfl
  refine ⟨fdl, fun s v => b s [v] rfl, fun base _ _ => ?_⟩
  have c_is_integer : Fn_is_integer P w K mg base := ok_is_integer F_is_integer T
  have c_is_bit : Fn_is_bit P w K mg base := ok_is_bit F_is_bit T ⟨c_is_integer⟩
  have c_is_next : Fn_is_next P w K mg base := ok_is_next F_is_next T ⟨c_is_integer⟩
  have c_is_row_of : Fn_is_row_of P w K mg base := ok_is_row_of F_is_row_of T ⟨c_is_bit, c_is_next⟩
  have c_checked_rows : Fn_checked_rows P w K mg base := ok_checked_rows F_checked_rows T ⟨c_is_row_of⟩
  have c_words_from : Fn_words_from P w K mg base := ok_words_from F_words_from T
  have c_End___init__ : Fn_End___init__ P w K mg base := ok_End___init__ F_End___init__ T ⟨c_checked_rows, c_words_from⟩
  have c_End_hearer : Fn_End_hearer P w K mg base := ok_End_hearer F_End_hearer T
  have c_End_sender : Fn_End_sender P w K mg base := ok_End_sender F_End_sender T
  have c_law_take : Fn_law_take P w K mg base := ok_law_take F_law_take T
  have c_law_bag : Fn_law_bag P w K mg base := ok_law_bag F_law_bag T
  have c_law_of : Fn_law_of P w K mg base := ok_law_of F_law_of T ⟨c_law_take⟩
  have c_law_follow : Fn_law_follow P w K mg base := ok_law_follow F_law_follow T ⟨c_law_of, c_law_take⟩
  have c_law_drawn_rows : Fn_law_drawn_rows P w K mg base := ok_law_drawn_rows F_law_drawn_rows T ⟨c_law_follow, c_law_take⟩
  have c_law_voting_place : Fn_law_voting_place P w K mg base := ok_law_voting_place F_law_voting_place T
  have c_law_voting_rows : Fn_law_voting_rows P w K mg base := ok_law_voting_rows F_law_voting_rows T ⟨c_law_voting_place⟩
  have c_law_rows : Fn_law_rows P w K mg base := ok_law_rows F_law_rows T ⟨c_law_drawn_rows, c_law_take, c_law_voting_rows⟩
  have c_is_row : Fn_is_row P w K mg base := ok_is_row F_is_row T
  have c_is_log : Fn_is_log P w K mg base := ok_is_log F_is_log T ⟨c_End_hearer, c_End_sender, c_is_bit, c_is_row⟩
  have c_first_places : Fn_first_places P w K mg base := ok_first_places F_first_places T ⟨c_is_log⟩
  have c_later_places : Fn_later_places P w K mg base := ok_later_places F_later_places T ⟨c_End_hearer, c_End_sender, c_is_row⟩
  have c_Search___init__ : Fn_Search___init__ P w K mg base := ok_Search___init__ F_Search___init__ T
  have c_Search_put : Fn_Search_put P w K mg base := ok_Search_put F_Search_put T
  have c_Search_is_new : Fn_Search_is_new P w K mg base := ok_Search_is_new F_Search_is_new T
  have c_explained : Fn_explained P w K mg base := ok_explained F_explained T ⟨c_Search___init__, c_Search_is_new, c_Search_put, c_first_places, c_is_row, c_later_places⟩
  have c_law_walk : Fn_law_walk P w K mg base := ok_law_walk F_law_walk T
  have c_law_way : Fn_law_way P w K mg base := ok_law_way F_law_way T ⟨c_law_take⟩
  have c_law_is_due : Fn_law_is_due P w K mg base := ok_law_is_due F_law_is_due T ⟨c_law_walk⟩
  have c_law_bent : Fn_law_bent P w K mg base := ok_law_bent F_law_bent T ⟨c_law_of, c_law_take⟩
  have c_law : Fn_law P w K mg base := ok_law ⟨fdl, Fl⟩ T ⟨c_End___init__, c_law_bag, c_law_bent, c_law_is_due, c_law_rows, c_law_take, c_law_way, c_explained, c_is_log⟩
  obtain ⟨fd2, G2, F2⟩ := c_law.ex
  obtain rfl : fd2 = fdl := by
    obtain ⟨_, _, _, _, _, _, _, _, _, _, _, k1, _⟩ := F2.ex
    obtain ⟨_, _, _, _, _, _, _, _, _, _, _, k2, _⟩ := Fl.ex
    rw [k1] at k2
    cases k2
    rfl
  exact G2
end K62
open PySem PySem.W PySem.Calls PyProof.Rows in
set_option maxRecDepth 100000 in
set_option maxHeartbeats 0 in
theorem PySem.Challenge.cw_strongbit_k62_what_is_a_log_holds : PySem.Challenge.rw_strongbit_k62_what_is_a_log.Holds := by
  refine K62.lawH ?hw ?hc
  case hw => w_witness2
  case hc =>
    refine DL.walk_GE (l := PySem.Challenge.rw_strongbit_k62_what_is_a_log) (n := 63) (k := 7) (x := "_law_script") (fn := K62.f_law) rfl (by decide) (by kernel_rfl) ⟨rfl, by decide, by decide⟩ ?F (fun ns hl _ => ⟨ns, rfl, hl, fun _ => rfl⟩)
    intro w mg fa h Y G hmg0
    obtain ⟨K, KX, c⟩ := Y
    have hmg : mg ("law" : PySem.Str) = some (.ref fa) := by
      have e : (HandSHeadRun.topDef K62.R.prog 40).name = ("law" : PySem.Str) := by kernel_rfl
      rw [← e]
      exact hmg0
    obtain ⟨fd, hb, hF⟩ := K62.facts (P := (PySem.Challenge.rw_strongbit_k62_what_is_a_log).prog) (w := w) KX G hmg c
    exact ⟨K, fd, KX, hb, hF⟩
