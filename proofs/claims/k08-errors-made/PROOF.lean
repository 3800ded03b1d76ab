import PyProof.Rows.All
import Wide.All
import OpenK.AllK
import Wide.FinOn
import HandS.ForMost
import HandS.Lambda
import KE.KDictKeyed
import HandS.Defaults
import HandS.ForExc
import HandS.CallSlots
import HandS.Deep
import HandS.Conv
import HandS.TupMul
import HandS.TupAny
import HandS.Wide
import HandS.Flow
import HandS.RaiseMore
import KE.SortData
import HandS.EndBits
import KE.OsSortAny
import HandS.Head0
import HandS.Head1
import HandS.Head2
import HandS.HeadEnd
import HandS.HeadHook1
import HandS.HeadHook2
import HandS.IsInst
import HandS.Property
import HandS.ClsMeth
import HandS.Style
import KE.GoesEnum
import KE.GoesMore
import KE.KUnpackStar
import HandS.HeadHook3
import KE.KCallOwn
import HandS.Text
import HandS.IterVal
import KE.KOwnIter
import HandS.FStr
import HandS.ExcInit
import HandS.ExcField
import HandS.Star
import HandS.StrMore
import HandS.TryOnly
import HandS.Codes
import HandS.ExcIs
import HandS.DictComp
import HandS.SortKw
import KE.DataMinMax
import KE.SortKeyHeap
import KE.KSortKey
import PyProof.InstNe
import HandS.GenList
import PyProof.WalksMore
import HandS.SetBool
import HandS.SetKeys
import HandS.TupSets
import HandS.Zip
import HandS.Sort
import KE.KExcInit
import KE.KExcPX
import PyProof.ExcBaseAll.RuntimeError
import PyProof.ExcBaseAll.LookupError
import PyProof.ExcBaseAll.ArithmeticError
import PyProof.ExcBaseAll.IndexError
import PyProof.ExcBaseAll.OverflowError
import PyProof.ExcBaseAll.TypeError
import HandS.Steps
import KE.KDictDisplayH
import HandS.TupLen
import HandS.WordsDict
import HandS.EndTab
import PyProof.Rows.StrItems
import HandS.Small
import HandS.DictSub
import HandS.SetFor
import KE.KIndexOf
import HandS.Comp
import HandS.More
import HandS.Remove
import KE.KDictCopyH
import KE.KDictPairs
import KE.KEqDict
import HandS.List
import KE.KDictWalk
import HandS.ExcValue
import PySem.Challenge.RW_strongbit_k08_errors_made
set_option Elab.async false
set_option linter.all false
set_option maxRecDepth 100000
set_option maxHeartbeats 4000000
namespace DL
open PySem L2
inductive D where
  | non | bl (b : Bool) | int (i : Int) | str (x : Str) | ref (a : Addr) | ty (n : String)
  | lst (ds : List D) | tup (ds : List D)
  /-- an instance that no longer changes: its class, its attributes -/
  | ins (C : Addr) (ns : List Str) (ds : List D)
abbrev Frag := PySem.W.Frag
abbrev St := L2.St
/-- no dict of its own stands behind the tuple at a -/
def NdT (K : Frag) (F : Hp) (a : Addr) : Prop := (∃ o u, F a = some (.frz o u) ∧ o.dict = none) ∨ ∃ o, K.lookup a = some o ∧ o.dict = none
/-- a tuple without a dict -/
structure SqN (K : Frag) (F : Hp) (a : Addr) (xs : List V) : Prop where
  sq : SqT K F a xs
  nd : NdT K F a
instance {K : Frag} {F : Hp} {a : Addr} {xs : List V} : Coe (SqN K F a xs) (SqT K F a xs) := ⟨SqN.sq⟩
mutual
inductive RV (K : Frag) (F : Hp) : D → V → Prop
  | non : RV K F .non .non
  | bl (b : Bool) : RV K F (.bl b) (.bl b)
  | int (i : Int) : RV K F (.int i) (.int i)
  | str (x : Str) : RV K F (.str x) (.str x)
  | ref (a : Addr) : RV K F (.ref a) (.ref a)
  | ty (n : String) : RV K F (.ty n) (.ty n)
  | lst {a : Addr} {xs : List V} {ds : List D} : SqL K F a xs → RVs K F ds xs → RV K F (.lst ds) (.ref a)
  | tup {a : Addr} {xs : List V} {ds : List D} : SqN K F a xs → RVs K F ds xs → RV K F (.tup ds) (.ref a)
  | ins {a dx C : Addr} {ns : List Str} {xs : List V} {ds : List D} : F a = some (.ins C dx (ns.zip xs)) → ns.length = ds.length → RVs K F ds xs → RV K F (.ins C ns ds) (.ref a)
inductive RVs (K : Frag) (F : Hp) : List D → List V → Prop
  | nil : RVs K F [] []
  | cons {d : D} {ds : List D} {v : V} {vs : List V} : RV K F d v → RVs K F ds vs → RVs K F (d :: ds) (v :: vs)
end
theorem same_tup {K : Frag} {H H' : Hp} {a : Addr} {xs : List V} (e : Same H H') (h : SqT K H a xs) : SqT K H' a xs := by
  rcases h with (h | ⟨o, h⟩) | h
  · exact .inl (.inl (e _ _ h))
  · exact .inl (.inr ⟨o, e _ _ h⟩)
  · exact .inr h
theorem NdT.mono {K : Frag} {H H' : Hp} {a : Addr} (e : Same H H') (h : NdT K H a) : NdT K H' a := by
  rcases h with ⟨o, u, h, d⟩ | h
  · exact .inl ⟨o, u, e _ _ h, d⟩
  · exact .inr h
theorem SqN.mono {K : Frag} {H H' : Hp} {a : Addr} {xs : List V} (e : Same H H') (h : SqN K H a xs) : SqN K H' a xs := ⟨same_tup e h.sq, h.nd.mono e⟩
/-- a tuple that was just made -/
theorem SqN.new {K : Frag} {H : Hp} {p : Addr} {o : Obj} {xs : List V} (h : o.dict = none) : SqN K (upd H p (.frz o (.tup xs))) p xs := ⟨.inl (.inr ⟨o, upd_same⟩), .inl ⟨o, _, upd_same, h⟩⟩
mutual
theorem RV.mono {K : Frag} {F F' : Hp} (s : Same F F') : ∀ {d : D} {v : V}, RV K F d v → RV K F' d v
  | _, _, .non => .non
  | _, _, .bl b => .bl b
  | _, _, .int i => .int i
  | _, _, .str x => .str x
  | _, _, .ref a => .ref a
  | _, _, .ty n => .ty n
  | _, _, .lst h hs => .lst (s.seq h) (RVs.mono s hs)
  | _, _, .tup h hs => .tup (h.mono s) (RVs.mono s hs)
  | _, _, .ins h l hs => .ins (s _ _ h) l (RVs.mono s hs)
theorem RVs.mono {K : Frag} {F F' : Hp} (s : Same F F') : ∀ {ds : List D} {vs : List V}, RVs K F ds vs → RVs K F' ds vs
  | _, _, .nil => .nil
  | _, _, .cons h hs => .cons (RV.mono s h) (RVs.mono s hs)
end
section
variable {K : Frag} {F : Hp}
theorem RVs.length : ∀ {ds : List D} {vs : List V}, RVs K F ds vs → ds.length = vs.length
  | _, _, .nil => rfl
  | _, _, .cons _ hs => congrArg (· + 1) (RVs.length hs)
theorem RVs.append : ∀ {ds es : List D} {vs ws : List V}, RVs K F ds vs → RVs K F es ws → RVs K F (ds ++ es) (vs ++ ws)
  | _, _, _, _, .nil, h => h
  | _, _, _, _, .cons h hs, h' => .cons h (RVs.append hs h')
theorem RVs.get : ∀ {ds : List D} {vs : List V} {i : Nat} {d : D}, RVs K F ds vs → ds[i]? = some d → ∃ v, vs[i]? = some v ∧ RV K F d v
  | _, _, _, _, .nil, e => by simp at e
  | _, _, 0, _, .cons h _, e => by simp at e; subst e; exact ⟨_, rfl, h⟩
  | _, _, i + 1, d, .cons _ hs, e => by
    obtain ⟨v, h1, h2⟩ := RVs.get (i := i) (d := d) hs (by simpa using e)
    exact ⟨v, by simpa using h1, h2⟩
theorem RVs.set {d : D} {v : V} (r : RV K F d v) : ∀ {ds : List D} {vs : List V} (i : Nat), RVs K F ds vs → RVs K F (ds.set i d) (vs.set i v)
  | _, _, _, .nil => .nil
  | _, _, 0, .cons _ t => .cons r t
  | _, _, i + 1, .cons q t => .cons q (RVs.set r i t)
theorem RVs.take : ∀ {ds : List D} {vs : List V} (n : Nat), RVs K F ds vs → RVs K F (ds.take n) (vs.take n)
  | _, _, 0, _ => .nil
  | _, _, _ + 1, .nil => .nil
  | _, _, n + 1, .cons r t => .cons r (RVs.take n t)
theorem RVs.drop : ∀ {ds : List D} {vs : List V} (n : Nat), RVs K F ds vs → RVs K F (ds.drop n) (vs.drop n)
  | _, _, 0, r => r
  | _, _, _ + 1, .nil => .nil
  | _, _, n + 1, .cons _ t => RVs.drop n t
theorem RVs.one {d : D} {vs : List V} (h : RVs K F [d] vs) : ∃ v, vs = [v] ∧ RV K F d v := by
  cases h with
  | cons h hs => cases hs; exact ⟨_, rfl, h⟩
theorem RVs.two {d e : D} {vs : List V} (h : RVs K F [d, e] vs) : ∃ v w, vs = [v, w] ∧ RV K F d v ∧ RV K F e w := by
  cases h with
  | cons h hs =>
    obtain ⟨w, rfl, h2⟩ := hs.one
    exact ⟨_, _, rfl, h, h2⟩
end
inductive OD where
  | lst (ds : List D)
  | dK (kvs : List (Key × D))
  | dT (kvs : List (List Key × D))
  | ins (C dx : Addr) (fs : List (Str × D))
  /-- a dict whose keys are tuples of any depth -/
  | dN (w : World) (kvs : List (D × D))
  /-- a dict that is walked: it no longer changes -/
  | fK (u : HO) (kvs : List (Key × D))
  /-- a dict whose keys are tuples and that is walked -/
  | fN (u : HO) (w : World) (kvs : List (D × D))
  /-- an object told by the heap alone -/
  | raw (f : Heap → Prop)
/-- data as a key -/
def nkey : D → Option NestedKey
  | .non => some .none
  | .bl b => some (.num (if b = true then 1 else 0))
  | .int i => some (.num i)
  | .str x => some (.text x)
  | .tup ds => (nkeys ds).map .tup
  | _ => none
where nkeys : List D → Option (List NestedKey)
  | [] => some []
  | d :: ds => match nkey d, nkeys ds with
    | some k, some ks => some (k :: ks)
    | _, _ => none
/-- such a dict in the heap: keys, their tuples, the values -/
def RawN (w : World) (p : Addr) (xs : List (NestedKey × Addr × V)) : HO := .ext fun h => xs.length ≤ sizeLine ∧ (p == sysModules) = false ∧ ∃ ys : List (NestedKey × Addr × Value),
  Paired (fun (x : NestedKey × Addr × V) (y : NestedKey × Addr × Value) => x.1 = y.1 ∧ x.2.1 = y.2.1 ∧ RelV x.2.2 y.2.2) xs ys ∧
  ∃ o es ep, h.get? p = some o ∧ o.ExactDict ∧ o.data = .dict es ep ∧ es.toList = ys.map (fun y => ⟨y.1.hash w, .ref y.2.1, y.2.2⟩) ∧ (ys.map (·.1)).Nodup
/-- such a dict that is walked: its object stays -/
def RawNO (w : World) (p : Addr) (od : Obj) (xs : List (NestedKey × Addr × V)) : HO := .ext fun h => h.get? p = some od ∧ xs.length ≤ sizeLine ∧ (p == sysModules) = false ∧ ∃ ys : List (NestedKey × Addr × Value),
  Paired (fun (x : NestedKey × Addr × V) (y : NestedKey × Addr × Value) => x.1 = y.1 ∧ x.2.1 = y.2.1 ∧ RelV x.2.2 y.2.2) xs ys ∧
  ∃ o es ep, h.get? p = some o ∧ o.ExactDict ∧ o.data = .dict es ep ∧ es.toList = ys.map (fun y => ⟨y.1.hash w, .ref y.2.1, y.2.2⟩) ∧ (ys.map (·.1)).Nodup
abbrev Ow := Addr → Option OD
abbrev Env := List (Option D)
def setO (O : Ow) (a : Addr) (o : OD) : Ow := fun b => if b = a then some o else O b
theorem setO_same {O : Ow} {a : Addr} {o : OD} : setO O a o a = some o := by unfold setO; rw [if_pos rfl]
theorem setO_ne {O : Ow} {a b : Addr} {o : OD} (h : b ≠ a) : setO O a o b = O b := by unfold setO; rw [if_neg h]
theorem setO_setO {O : Ow} {a : Addr} {o u : OD} : setO (setO O a o) a u = setO O a u := by
  funext b; unfold setO; split <;> rfl
/-- what is forgotten of the ghost heap -/
def SubO (a b : Ow) : Prop := ∀ p o, a p = some o → b p = some o
theorem SubO.refl (O : Ow) : SubO O O := fun _ _ h => h
theorem SubO.trans {a b c : Ow} (h : SubO a b) (h' : SubO b c) : SubO a c := fun p o e => h' p o (h p o e)
theorem SubO.gone {a b : Ow} (h : SubO a b) {p : Addr} (e : b p = Option.none) : a p = Option.none := by
  cases z : a p with
  | none => rfl
  | some o => rw [h p o z] at e; cases e
theorem SubO.fresh {O : Ow} {p : Addr} {o : OD} (h : O p = none) : SubO O (setO O p o) := fun q x e => by
  have : q ≠ p := fun z => by rw [z, h] at e; cases e
  rw [setO_ne this]; exact e
def RKV {κ : Type} (K : Frag) (F : Hp) : List (κ × D) → List (κ × V) → Prop := Paired fun (p : κ × D) (q : κ × V) => p.1 = q.1 ∧ RV K F p.2 q.2
def RN (K : Frag) (F : Hp) : List (D × D) → List (NestedKey × Addr × V) → Prop := Paired fun (p : D × D) (q : NestedKey × Addr × V) => nkey p.1 = some q.1 ∧ q.1.depth ≤ 8 ∧ RV K F p.1 (.ref q.2.1) ∧ RV K F p.2 q.2.2
def RO (K : Frag) (F : Hp) (a : Addr) : OD → HO → Prop
  | .lst ds, o => ∃ vs, o = .lst vs ∧ RVs K F ds vs
  | .dK kvs, o => ∃ ks, o = .dK ks ∧ RKV K F kvs ks
  | .dT kvs, o => ∃ ks, o = .dT ks ∧ RKV K F kvs ks
  | .ins C dx fs, o => ∃ gs, o = .ins C dx gs ∧ RKV K F fs gs
  | .dN w kvs, o => ∃ xs, o = RawN w a xs ∧ RN K F kvs xs
  | .fK u kvs, o => ∃ x : Obj × List (Key × V), o = .frz x.1 (.dK x.2) ∧ u = o ∧ RKV K F kvs x.2
  | .fN u w kvs, o => ∃ x : Obj × List (NestedKey × Addr × V), o = RawNO w a x.1 x.2 ∧ u = o ∧ RN K F kvs x.2
  | .raw f, o => ∃ _ : Unit, o = .ext f ∧ ∀ q, o ≠ LamX.CodeO a q
theorem RKV.mono {κ : Type} {K : Frag} {F F' : Hp} (s : Same F F') : ∀ {l : List (κ × D)} {m : List (κ × V)}, RKV K F l m → RKV K F' l m
  | _, _, .nil => .nil
  | _, _, .cons h t => .cons ⟨h.1, h.2.mono s⟩ (RKV.mono s t)
theorem RN.mono {K : Frag} {F F' : Hp} (s : Same F F') : ∀ {l : List (D × D)} {m : List (NestedKey × Addr × V)}, RN K F l m → RN K F' l m
  | _, _, .nil => .nil
  | _, _, .cons h t => .cons ⟨h.1, h.2.1, h.2.2.1.mono s, h.2.2.2.mono s⟩ (RN.mono s t)
theorem RO.mono {K : Frag} {F F' : Hp} (s : Same F F') {a : Addr} : ∀ {o : OD} {h : HO}, RO K F a o h → RO K F' a o h
  | .lst _, _, ⟨vs, e, r⟩ => ⟨vs, e, r.mono s⟩
  | .dK _, _, ⟨vs, e, r⟩ => ⟨vs, e, RKV.mono s r⟩
  | .dT _, _, ⟨vs, e, r⟩ => ⟨vs, e, RKV.mono s r⟩
  | .ins _ _ _, _, ⟨vs, e, r⟩ => ⟨vs, e, RKV.mono s r⟩
  | .dN _ _, _, ⟨vs, e, r⟩ => ⟨vs, e, RN.mono s r⟩
  | .fK _ _, _, ⟨x, e, e2, r⟩ => ⟨x, e, e2, RKV.mono s r⟩
  | .fN _ _ _, _, ⟨x, e, e2, r⟩ => ⟨x, e, e2, RN.mono s r⟩
  | .raw _, _, h => h
/-- what a heap says of the ghost one -/
def OwOk (K : Frag) (O : Ow) (H F : Hp) : Prop := ∀ p o, O p = some o → F p = none ∧ ∃ ho, H p = some ho ∧ RO K F p o ho
/-- the names hold this data -/
def Sl (K : Frag) (env : Env) (σ : St) (F : Hp) : Prop := env.length = σ.length ∧ ∀ (i : Nat) (d : D), env[i]? = some (some d) → ∃ v, σ[i]? = some (some v) ∧ RV K F d v
/-- the name of the lambdas of the code object whose table is P -/
def qT (K : Frag) (P : Addr) : Str := ((K.findSome? (β := Str) fun e => match e.2 with
  | ⟨.type "code", _, .fields vs, _⟩ => (match (vs[11]? : Option Value), (vs[1]? : Option Value) with
    | some (.ref P'), some (.str n _) => if P' == P then some n else none
    | _, _ => none)
  | _ => none).getD "") ++ ".<locals>.<lambda>"
/-- the table at P tells lambdas named q only, q being the name that K tells -/
def TabQ (K : Frag) (H : Hp) (P : Addr) (q : Str) : Prop := q = qT K P ∧ LamX.TabS H P q
/-- from one moment to a later one: what was frozen stays so, what is nobody's own stands as it stood -/
structure After (K : Frag) (O : Ow) (H F : Hp) (O' : Ow) (H' F' : Hp) : Prop where
  ff : Same F F'
  fh : Same F' H'
  kq : ∀ a o, H a = some o → O a = none → H' a = some o ∨ ∃ ps ps', o = HO.tbl ps ∧ H' a = some (HO.tbl ps')
  fr : ∀ a, H a ≠ none → O a = none → F a = none → F' a = none
  ow : OwOk K O' H' F'
  nw : ∀ p o, O' p = some o → O p ≠ none ∨ H p = none
  tb : ∀ P q, TabQ K H P q → TabQ K H' P q
theorem After.kp {K : Frag} {O O' : Ow} {H F H' F' : Hp} (a : After K O H F O' H' F') : ∀ x o, H x = some o → O x = none → (∀ ps, o ≠ HO.tbl ps) → H' x = some o := fun x o e h hn => by
  rcases a.kq x o e h with z | ⟨ps, _, z, _⟩
  · exact z
  · exact absurd z (hn ps)
theorem After.kn {K : Frag} {O O' : Ow} {H F H' F' : Hp} (a : After K O H F O' H' F') : ∀ x o, H x = some o → O x = none → H' x ≠ none := fun x o e h => by
  rcases a.kq x o e h with z | ⟨ps, ps', _, z⟩ <;> rw [z] <;> simp
/-- neither a table of code nor a code object -/
def Nt (p : Addr) (o : HO) : Prop := (∀ ps, o ≠ HO.tbl ps) ∧ ∀ q, o ≠ LamX.CodeO p q
theorem code_ne {f : Heap → Prop} {c : Addr} {q : Str} (hf : ∀ (h : Heap) (o : Obj) (vs : Array Value), f h → h.get? c = some o → o.data ≠ .fields vs) : HO.ext f ≠ LamX.CodeO c q := fun e => by
  have e := HO.ext.inj e
  let oc : Obj := { cls := .none, dict := none, data := .fields #[.none, .str q default], slots := #[] }
  let h : Heap := ⟨Array.replicate (c + 1) oc, {}⟩
  have hg : h.get? c = some oc := by
    unfold Heap.get?
    have : h.objs[c]? = some oc := by simp [h]
    rw [this]
  have h2 := (congrFun e h).mpr ⟨oc, _, _, hg, rfl, rfl⟩
  exact hf h oc _ h2 hg rfl
theorem code_raw {w : World} {c : Addr} {q : Str} {xs : List (NestedKey × Addr × V)} : RawN w c xs ≠ LamX.CodeO c q := code_ne fun h o vs hr hg z => by
  obtain ⟨_, _, ys, _, o', es, ep, e1, _, e2, _⟩ := hr
  rw [hg] at e1
  cases e1
  rw [z] at e2
  cases e2
theorem code_rawO {w : World} {c : Addr} {q : Str} {od : Obj} {xs : List (NestedKey × Addr × V)} : RawNO w c od xs ≠ LamX.CodeO c q := code_ne fun h o vs hr hg z => by
  obtain ⟨_, _, _, ys, _, o', es, ep, e1, _, e2, _⟩ := hr
  rw [hg] at e1
  cases e1
  rw [z] at e2
  cases e2
theorem RO.nt {K : Frag} {F : Hp} {a : Addr} : ∀ {u : OD} {o : HO}, RO K F a u o → Nt a o
  | .lst _, _, ⟨vs, e, r⟩ => ⟨(fun _ z => by rw [e] at z; cases z), fun _ z => by rw [e] at z; cases z⟩
  | .dK _, _, ⟨vs, e, r⟩ => ⟨(fun _ z => by rw [e] at z; cases z), fun _ z => by rw [e] at z; cases z⟩
  | .dT _, _, ⟨vs, e, r⟩ => ⟨(fun _ z => by rw [e] at z; cases z), fun _ z => by rw [e] at z; cases z⟩
  | .ins _ _ _, _, ⟨vs, e, r⟩ => ⟨(fun _ z => by rw [e] at z; cases z), fun _ z => by rw [e] at z; cases z⟩
  | .dN _ _, _, ⟨vs, e, r⟩ => ⟨(fun _ z => by rw [e] at z; cases z), fun _ z => by rw [e] at z; exact code_raw z⟩
  | .fK _ _, _, ⟨x, e, e2, r⟩ => ⟨(fun _ z => by rw [e] at z; cases z), fun _ z => by rw [e] at z; cases z⟩
  | .fN _ _ _, _, ⟨x, e, e2, r⟩ => ⟨(fun _ z => by rw [e] at z; cases z), fun _ z => by rw [e] at z; exact code_rawO z⟩
  | .raw _, _, ⟨_, e, n⟩ => ⟨(fun _ z => by rw [e] at z; cases z), n⟩
theorem nt_none {H : Hp} {p : Addr} (h : H p = none) : ∀ o, H p = some o → Nt p o := fun o e => by rw [h] at e; cases e
theorem nt_some {H : Hp} {p : Addr} {o : HO} (h : H p = some o) (hn : Nt p o) : ∀ o, H p = some o → Nt p o := fun o' e => by rw [h] at e; cases e; exact hn
theorem nt_lst {p : Addr} {vs : List V} : Nt p (.lst vs) := ⟨(fun _ z => by cases z), fun _ z => by cases z⟩
theorem tabs_upd {K : Frag} {H : Hp} {P p : Addr} {q : Str} {o : HO} (t : TabQ K H P q) (hp : ∀ o, H p = some o → Nt p o) : TabQ K (upd H p o) P q := by
  obtain ⟨eq, ps, e1, e2, e3⟩ := t
  have hP : P ≠ p := fun z => (hp _ (z ▸ e1)).1 ps rfl
  refine ⟨eq, ps, by rw [upd_ne hP]; exact e1, e2, fun pos cv h => ?_⟩
  obtain ⟨c, ec, hc⟩ := e3 pos cv h
  have hcp : c ≠ p := fun z => by
    subst z
    exact (hp _ hc).2 q rfl
  exact ⟨c, ec, by rw [upd_ne hcp]; exact hc⟩
theorem tabs_new {K : Frag} {H : Hp} {P p : Addr} {q : Str} {o : HO} (t : TabQ K H P q) (h : H p = none) : TabQ K (upd H p o) P q := tabs_upd t fun o e => by rw [h] at e; cases e
/-- a moment: the base from which a body (or a try) goes on -/
structure Bd where
  K : Frag
  O : Ow
  H : Hp
  F : Hp
structure Rel (B : Bd) (env : Env) (O : Ow) (σ : St) (H F : Hp) : Prop where
  af : After B.K B.O B.H B.F O H F
  sl : Sl B.K env σ F
section
variable {K : Frag} {B : Bd} {env : Env} {O : Ow} {σ : St} {H F : Hp}
theorem Rel.fh (R : Rel B env O σ H F) : Same F H := R.af.fh
theorem Rel.ow (R : Rel B env O σ H F) : OwOk B.K O H F := R.af.ow
theorem Sl.mono {F' : Hp} (h : Sl K env σ F) (s : Same F F') : Sl K env σ F' := ⟨h.1, fun i d e => let ⟨v, e1, r⟩ := h.2 i d e; ⟨v, e1, r.mono s⟩⟩
theorem After.rfl' (fh : Same F H) (ow : OwOk K O H F) : After K O H F O H F := ⟨Same.refl _, fh, fun _ _ e _ => .inl e, fun _ _ _ e => e, ow, fun _ _ e => .inl (by rw [e]; simp), fun _ _ t => t⟩
theorem After.refl (R : Rel B env O σ H F) : After B.K O H F O H F := .rfl' R.fh R.ow
theorem After.trans {O1 O2 : Ow} {H1 F1 H2 F2 : Hp} (a : After K O H F O1 H1 F1) (b : After K O1 H1 F1 O2 H2 F2) : After K O H F O2 H2 F2 := by
  have hO : ∀ x, H x ≠ none → O x = none → O1 x = none := fun x h1 h2 => by
    cases e : O1 x with
    | none => rfl
    | some o => rcases a.nw x o e with z | z; exact absurd h2 z; exact absurd z h1
  have hH : ∀ x, H x ≠ none → O x = none → H1 x ≠ none := fun x h1 h2 => by
    cases e : H x with
    | none => exact absurd e h1
    | some o => exact a.kn x o e h2
  refine ⟨a.ff.trans b.ff, b.fh, fun x o e h => ?_, fun x h1 h2 h3 => b.fr x (hH x h1 h2) (hO x h1 h2) (a.fr x h1 h2 h3), b.ow, fun p o e => ?_, fun P q t => b.tb P q (a.tb P q t)⟩
  · have hO1 := hO x (by rw [e]; simp) h
    rcases a.kq x o e h with z | ⟨ps, ps1, z1, z⟩
    · exact b.kq x o z hO1
    · rcases b.kq x _ z hO1 with y | ⟨_, ps2, _, y⟩
      · exact .inr ⟨ps, ps1, z1, y⟩
      · exact .inr ⟨ps, ps2, z1, y⟩
  rcases b.nw p o e with z | z
  · cases e1 : O1 p with
    | none => exact absurd e1 z
    | some o1 => exact a.nw p o1 e1
  · by_cases h : O p = none
    · refine .inr ?_
      cases e1 : H p with
      | none => rfl
      | some o1 => exact absurd z (a.kn p o1 e1 h)
    · exact .inl h
theorem Rel.call {O' : Ow} {H' F' : Hp} (R : Rel B env O σ H F) (a : After B.K O H F O' H' F') : Rel B env O' σ H' F' := ⟨R.af.trans a, R.sl.mono a.ff⟩
theorem Rel.on {O' : Ow} {H' F' : Hp} {env' : Env} {σ' : St} (R : Rel B env O σ H F) (a : After B.K O H F O' H' F') (s : Sl B.K env' σ' F') : Rel B env' O' σ' H' F' := ⟨R.af.trans a, s⟩
theorem Rel.free (R : Rel B env O σ H F) {p : Addr} (h : H p = none) : O p = none ∧ F p = none := by
  refine ⟨?_, R.fh.free h⟩
  cases e : O p with
  | none => rfl
  | some o =>
    obtain ⟨_, ho, e2, _⟩ := R.ow p o e
    rw [h] at e2; cases e2
/-- a new frozen object -/
theorem Rel.froz (R : Rel B env O σ H F) {p : Addr} (h : H p = none) (o : HO) : After B.K O H F O (upd H p o) (upd F p o) := by
  obtain ⟨hO, hF⟩ := R.free h
  have s : Same F (upd F p o) := fun b u e => by rw [upd_ne (ne_of_none e hF)]; exact e
  refine ⟨s, fun b u e => ?_, fun b u e _ => .inl (by rw [upd_ne (ne_of_none e h)]; exact e), fun a ha _ h0 => ?_, fun q u e => ?_, fun q u e => .inl (by rw [e]; simp), fun _ _ t => tabs_new t h⟩
  · by_cases hb : b = p
    · subst hb; rw [upd_same] at e ⊢; exact e
    · rw [upd_ne hb] at e ⊢; exact R.fh b u e
  · have : a ≠ p := fun z => ha (z ▸ h)
    rw [upd_ne this]; exact h0
  · have hq : q ≠ p := fun z => by rw [z, hO] at e; cases e
    obtain ⟨h1, ho, h3, h4⟩ := R.ow q u e
    exact ⟨by rw [upd_ne hq]; exact h1, ho, by rw [upd_ne hq]; exact h3, h4.mono s⟩
/-- a new object of one's own -/
theorem Rel.own (R : Rel B env O σ H F) {p : Addr} (h : H p = none) {o : HO} {u : OD} (r : RO B.K F p u o) : After B.K O H F (setO O p u) (upd H p o) F := by
  obtain ⟨hO, hF⟩ := R.free h
  refine ⟨Same.refl _, fun b x e => by rw [upd_ne (ne_of_none e hF)]; exact R.fh b x e, fun b x e _ => .inl (by rw [upd_ne (ne_of_none e h)]; exact e), fun _ _ _ e => e, fun q x e => ?_, fun q x e => ?_, fun _ _ t => tabs_new t h⟩
  · by_cases hq : q = p
    · subst hq
      rw [setO_same] at e; cases e
      exact ⟨hF, o, upd_same, r⟩
    · rw [setO_ne hq] at e
      obtain ⟨h1, ho, h3, h4⟩ := R.ow q x e
      exact ⟨h1, ho, by rw [upd_ne hq]; exact h3, h4⟩
  · by_cases hq : q = p
    · subst hq; exact .inr h
    · rw [setO_ne hq] at e; exact .inl (by rw [e]; simp)
/-- one's own object changes -/
theorem Rel.put (R : Rel B env O σ H F) {p : Addr} {u0 : OD} (h : O p = some u0) {o : HO} {u : OD} (r : RO B.K F p u o) : After B.K O H F (setO O p u) (upd H p o) F := by
  obtain ⟨hF, o0, hp0, hr0⟩ := R.ow p u0 h
  refine ⟨Same.refl _, fun b x e => by rw [upd_ne (ne_of_none e hF)]; exact R.fh b x e, fun b x e ho => ?_, fun _ _ _ e => e, fun q x e => ?_, fun q x e => ?_, fun _ _ t => tabs_upd t fun o e => by rw [hp0] at e; cases e; exact hr0.nt⟩
  · have : b ≠ p := fun z => by rw [z, h] at ho; cases ho
    rw [upd_ne this]; exact .inl e
  · by_cases hq : q = p
    · subst hq
      rw [setO_same] at e; cases e
      exact ⟨hF, o, upd_same, r⟩
    · rw [setO_ne hq] at e
      obtain ⟨h1, ho, h3, h4⟩ := R.ow q x e
      exact ⟨h1, ho, by rw [upd_ne hq]; exact h3, h4⟩
  · by_cases hq : q = p
    · subst hq; exact .inl (by rw [h]; simp)
    · rw [setO_ne hq] at e; exact .inl (by rw [e]; simp)
/-- forget -/
theorem After.weak {O' O'' : Ow} {H' F' : Hp} (a : After K O H F O' H' F') (h : SubO O'' O') : After K O H F O'' H' F' :=
  ⟨a.ff, a.fh, a.kq, a.fr, fun p o e => a.ow p o (h p o e), fun p o e => a.nw p o (h p o e), a.tb⟩
/-- a name is stored -/
theorem Sl.setv (R : Sl K env σ F) {i : Nat} {d : D} {v : V} (r : RV K F d v) : Sl K (env.set i (some d)) (σ.set i (some v)) F := by
  refine ⟨by simpa using R.1, fun j d' e => ?_⟩
  by_cases hj : i = j
  · subst hj
    have hi : i < env.length := by
      have := (List.getElem?_eq_some_iff.mp e).1
      simpa using this
    rw [List.getElem?_set_self hi] at e
    cases e
    exact ⟨v, by rw [List.getElem?_set_self (by rw [← R.1]; exact hi)], r⟩
  · rw [List.getElem?_set_ne hj] at e
    obtain ⟨v', e1, r1⟩ := R.2 j d' e
    exact ⟨v', by rw [List.getElem?_set_ne hj]; exact e1, r1⟩
theorem Sl.setn (R : Sl K env σ F) {i : Nat} {x : Option V} : Sl K (env.set i none) (σ.set i x) F := by
  refine ⟨by simpa using R.1, fun j d e => ?_⟩
  by_cases hij : i = j
  · subst hij
    by_cases hl : i < env.length
    · rw [List.getElem?_set_self hl] at e; cases e
    · rw [List.getElem?_eq_none (by simpa using hl)] at e; cases e
  · rw [List.getElem?_set_ne hij] at e ⊢
    exact R.2 j d e
/-- an own list is frozen: from now on it is data -/
theorem Rel.ice (R : Rel B env O σ H F) {p : Addr} {ds : List D} (h : O p = some (.lst ds)) : ∃ F', RV B.K F' (.lst ds) (.ref p) ∧ After B.K O H F (fun b => if b = p then none else O b) H F' := by
  obtain ⟨hF, ho, e1, vs, rfl, r⟩ := R.ow p _ h
  have s : Same F (upd F p (.lst vs)) := fun b u e => by rw [upd_ne (ne_of_none e hF)]; exact e
  refine ⟨upd F p (.lst vs), .lst (SqL.of upd_same) (r.mono s), ⟨s, fun b u e => ?_, fun _ _ e _ => .inl e, fun a ha ho h0 => ?_, fun q u e => ?_, fun q u e => ?_, fun _ _ t => t⟩⟩
  · by_cases hb : b = p
    · subst hb; rw [upd_same] at e; cases e; exact e1
    · rw [upd_ne hb] at e; exact R.fh b u e
  · have : a ≠ p := fun z => by rw [z, h] at ho; cases ho
    rw [upd_ne this]; exact h0
  · by_cases hq : q = p
    · rw [if_pos hq] at e; cases e
    · rw [if_neg hq] at e
      obtain ⟨h1, ho, h3, h4⟩ := R.ow q u e
      exact ⟨by rw [upd_ne hq]; exact h1, ho, h3, h4.mono s⟩
  · by_cases hq : q = p
    · rw [if_pos hq] at e; cases e
    · rw [if_neg hq] at e; exact .inl (by rw [e]; simp)
end
abbrev DQ := D → Ow → Prop
abbrev DTE := Env → Ow → DQ → Prop
abbrev DTT := Env → Ow → (Bool → Ow → Prop) → Prop
abbrev DTA := Env → Ow → (List D → Ow → Prop) → Prop
def lift (B : Bd) (t : DTE) : TE := fun σ H Q => ∃ env O F q, Rel B env O σ H F ∧ t env O q ∧
  ∀ d v O' H' F', After B.K O H F O' H' F' → RV B.K F' d v → q d O' → Q v H'
def liftT (B : Bd) (t : DTT) : TT := fun σ H Q => ∃ env O F q, Rel B env O σ H F ∧ t env O q ∧
  ∀ b O' H' F', After B.K O H F O' H' F' → q b O' → Q b H'
def liftA (B : Bd) (t : DTA) : TA := fun σ H Q => ∃ env O F q, Rel B env O σ H F ∧ t env O q ∧
  ∀ ds vs O' H' F', After B.K O H F O' H' F' → RVs B.K F' ds vs → q ds O' → Q vs H'
theorem PE.weak {X : Cx} {e : Expr} {t t' : TE} (h : PE X e t) (i : ∀ σ H Q, t' σ H Q → t σ H Q) : PE X e t' := ⟨fun pins s σ H Q I q => h.run pins s σ H Q I (i σ H Q q)⟩
theorem PT.weak {X : Cx} {e : Expr} {t t' : TT} (h : PT X e t) (i : ∀ σ H Q, t' σ H Q → t σ H Q) : PT X e t' := ⟨fun pins s σ H Q I q => h.run pins s σ H Q I (i σ H Q q)⟩
theorem PA.weak {X : Cx} {e : List Expr} {t t' : TA} (h : PA X e t) (i : ∀ σ H Q, t' σ H Q → t σ H Q) : PA X e t' := ⟨fun pos pins s σ H Q I q => h.run pos pins s σ H Q I (i σ H Q q)⟩
theorem PS.weak {X : Cx} {e : Stmt} {t t' : TS} (h : PS X e t) (i : ∀ E σ H, t' E σ H → t E σ H) : PS X e t' := ⟨fun pins s σ H E I q => h.run pins s σ H E I (i E σ H q)⟩
theorem PSs.weak {X : Cx} {e : List Stmt} {t t' : TS} (h : PSs X e t) (i : ∀ E σ H, t' E σ H → t E σ H) : PSs X e t' := ⟨fun pins s σ H E I q => h.run pins s σ H E I (i E σ H q)⟩
/-- what is wanted behind a statement -/
structure DEnds where
  nx : Env → Ow → Prop
  rt : DQ
  bk : Env → Ow → Prop := fun _ _ => False
  ct : Env → Ow → Prop := fun _ _ => False
abbrev DTS := DEnds → Env → Ow → Prop
/-- how the wanted ends meet the heap's, from the moment (O, H, F) on -/
structure Meet (B : Bd) (O : Ow) (H F : Hp) (d : DEnds) (E : Ends) : Prop where
  nx : ∀ env' O' σ' H' F', After B.K O H F O' H' F' → Sl B.K env' σ' F' → d.nx env' O' → E.nx σ' H'
  rt : ∀ x v O' H' F', After B.K O H F O' H' F' → RV B.K F' x v → d.rt x O' → E.rt v H'
  bk : ∀ env' O' σ' H' F', After B.K O H F O' H' F' → Sl B.K env' σ' F' → d.bk env' O' → E.bk σ' H'
  ct : ∀ env' O' σ' H' F', After B.K O H F O' H' F' → Sl B.K env' σ' F' → d.ct env' O' → E.ct σ' H'
theorem Meet.later {B : Bd} {O O' : Ow} {H F H' F' : Hp} {d : DEnds} {E : Ends} (m : Meet B O H F d E) (a : After B.K O H F O' H' F') : Meet B O' H' F' d E :=
  ⟨fun e o s h f b => m.nx e o s h f (a.trans b), fun x v o h f b => m.rt x v o h f (a.trans b), fun e o s h f b => m.bk e o s h f (a.trans b), fun e o s h f b => m.ct e o s h f (a.trans b)⟩
def liftS (B : Bd) (t : DTS) : TS := fun E σ H => ∃ env O F d, Rel B env O σ H F ∧ t d env O ∧ Meet B O H F d E
section
variable {X : Cx} {B : Bd} {pos : Pos}
def dVar (i : Nat) : DTE := fun env O q => ∃ d, env[i]? = some (some d) ∧ q d O
def dC (d : D) : DTE := fun _ O q => q d O
theorem de_var {e : Expr} {i : Nat} (h : PE X e (tVar i)) : PE X e (lift B (dVar i)) := by
  refine PE.weak h fun σ H Q hq => ?_
  obtain ⟨env, O, F, q, R, ⟨d, e, hq⟩, k⟩ := hq
  obtain ⟨v, e1, r⟩ := R.sl.2 i d e
  exact ⟨v, e1, k d v O H F (.refl R) r hq⟩
theorem de_con {e : Expr} {v : V} {d : D} (h : PE X e (tC v)) (r : ∀ F, RV B.K F d v) : PE X e (lift B (dC d)) := by
  refine PE.weak h fun σ H Q hq => ?_
  obtain ⟨env, O, F, q, R, hq, k⟩ := hq
  exact k d v O H F (.refl R) (r F) hq
theorem de_int {i j p} : PE X (.Constant (.int i) j p) (lift B (dC (.int i))) := de_con pe_int fun _ => .int i
theorem de_str {i j p} : PE X (.Constant (.str i) j p) (lift B (dC (.str i))) := de_con pe_str fun _ => .str i
theorem de_bl {i j p} : PE X (.Constant (.bool i) j p) (lift B (dC (.bl i))) := de_con pe_bl fun _ => .bl i
theorem de_non {j p} : PE X (.Constant .none j p) (lift B (dC .non)) := de_con pe_non fun _ => .non
abbrev DR2 := D → D → Ow → DQ → Prop
def dOp (r : DR2) (ta tb : DTE) : DTE := fun env O q => ta env O fun x O1 => tb env O1 fun y O2 => r x y O2 q
/-- the reading r of values is met by the reading dr of data -/
def Sim2 (B : Bd) (r : R2) (dr : DR2) : Prop := ∀ (env : Env) (O : Ow) (σ : St) (H F : Hp) (x y : V) (dx dy : D) (q : DQ) (Q : VK), Rel B env O σ H F → RV B.K F dx x → RV B.K F dy y → dr dx dy O q →
  (∀ d v O' H' F', After B.K O H F O' H' F' → RV B.K F' d v → q d O' → Q v H') → r x y H Q
theorem lift_op {r : R2} {dr : DR2} {ta tb : DTE} (s : Sim2 B r dr) (σ : St) (H : Hp) (Q : VK) (h : lift B (dOp dr ta tb) σ H Q) : tOp r (lift B ta) (lift B tb) σ H Q := by
  obtain ⟨env, O, F, q, R, h, k⟩ := h
  refine ⟨env, O, F, _, R, h, fun dx x O1 H1 F1 a1 r1 h1 => ?_⟩
  have R1 := R.call a1
  refine ⟨env, O1, F1, _, R1, h1, fun dy y O2 H2 F2 a2 r2 h2 => ?_⟩
  exact s env O2 σ H2 F2 x y dx dy q Q (R1.call a2) (r1.mono a2.ff) r2 h2 fun d v O' H' F' a' r' => k d v O' H' F' (a1.trans (a2.trans a')) r'
theorem de_op {op : Operator} {r : R2} {dr : DR2} {a b : Expr} {ta tb : DTE} (ho : OpR X (binaryOp op) r) (s : Sim2 B r dr) (ha : PE X a (lift B ta)) (hb : PE X b (lift B tb)) : PE X (.BinOp a op b pos) (lift B (dOp dr ta tb)) :=
  PE.weak (pe_op ho ha hb) (lift_op s)
theorem de_cmp {op : CmpOp} {r : R2} {dr : DR2} {a b : Expr} {ta tb : DTE} (ho : OpR X (compareOp op) r) (s : Sim2 B r dr) (ha : PE X a (lift B ta)) (hb : PE X b (lift B tb)) (hm : behindInMarks op b = false) : PE X (.Compare a [op] [b] pos) (lift B (dOp dr ta tb)) :=
  PE.weak (pe_cmpR ho ha hb hm) (lift_op s)
def dTest (t : DTE) : DTT := fun env O q => t env O fun x O' => match x with | .bl k => q k O' | _ => False
theorem lift_test {t : DTE} (σ : St) (H : Hp) (Q : Bool → Hp → Prop) (h : liftT B (dTest t) σ H Q) : tTest (lift B t) σ H Q := by
  obtain ⟨env, O, F, q, R, h, k⟩ := h
  refine ⟨env, O, F, _, R, h, fun d v O1 H1 F1 a1 r1 h1 => ?_⟩
  cases d <;> try exact h1.elim
  cases r1
  exact ⟨_, rfl, k _ O1 H1 F1 a1 h1⟩
theorem tTest_mono {t t' : TE} (i : ∀ σ H Q, t' σ H Q → t σ H Q) (σ : St) (H : Hp) (Q : Bool → Hp → Prop) (h : tTest t' σ H Q) : tTest t σ H Q := i σ H _ h
theorem dt_cmp {op : CmpOp} {r : R2} {dr : DR2} {a b : Expr} {ta tb : DTE} (ho : OpR X (compareOp op) r) (s : Sim2 B r dr) (ha : PE X a (lift B ta)) (hb : PE X b (lift B tb)) (hm : behindInMarks op b = false) : PT X (.Compare a [op] [b] pos) (liftT B (dTest (dOp dr ta tb))) :=
  PT.weak (pt_cmpR ho ha hb hm) fun σ H Q h => tTest_mono (lift_op s) σ H Q (lift_test σ H Q h)
/-- ints -/
def dI2 (C : Int → Int → Prop) (g : Int → Int → D) : DR2 := fun x y O q => match x, y with
  | .int i, .int j => C i j ∧ q (g i j) O
  | _, _ => False
theorem sim_I {C : Int → Int → Prop} {g : Int → Int → V} {g' : Int → Int → D} (hg : ∀ F i j, RV B.K F (g' i j) (g i j)) : Sim2 B (rI C g) (dI2 C g') := by
  intro env O σ H F x y dx dy q Q R rx ry h k
  cases dx <;> cases dy <;> try exact h.elim
  rename_i i j
  cases rx; cases ry
  exact ⟨i, j, rfl, rfl, h.1, k _ _ O H F (.refl R) (hg F i j) h.2⟩
theorem sim_I0 {g : Int → Int → V} {g' : Int → Int → D} (hg : ∀ F i j, RV B.K F (g' i j) (g i j)) : Sim2 B (rI0 g) (dI2 (fun _ _ => True) g') := by
  intro env O σ H F x y dx dy q Q R rx ry h k
  cases dx <;> cases dy <;> try exact h.elim
  rename_i i j
  cases rx; cases ry
  exact ⟨i, j, rfl, rfl, k _ _ O H F (.refl R) (hg F i j) h.2⟩
end
end DL
set_option Elab.async false
set_option linter.all false
set_option maxRecDepth 100000
set_option maxHeartbeats 4000000
namespace DL
open PySem PySem.Spec PyProof.Rows L2
structure FnG (P : Program) (w : World) (K : Frag) (mg : Str → Option Value) (base : Heap) (CX : CXT) (k : Nat) (f : Addr) (fd : FuncData) (ps : List Str) (sp : Sp) : Prop where
  len : ∀ vs H Q E, sp vs H Q E → vs.length = ps.length
  run : ∀ (A : Around) (outer : List PySem.Env) (s : Shared) (H : Hp) (args : Args) (us : List Value) (vs : List V) (Q : VK) (E : XK), A.guards = some [] → Room k A →
    Env0 P w K mg base A outer s H → BindsTo s fd args (ps.zip us) → Vals vs us → sp vs H Q E → codeAny (model P w) A (.call (.ref f) args) (CR CX outer P w H s Q E) s
section
variable {P : Program} {w : World} {K : Frag} {mg : Str → Option Value} {base : Heap} {CX : CXT} {f : Addr} {fd : FuncData} {ps : List Str} {sp : Sp}
theorem FnG.mono {j k : Nat} (F : FnG P w K mg base CX j f fd ps sp) (h : j ≤ k) : FnG P w K mg base CX k f fd ps sp :=
  ⟨F.len, fun A o s H ar us vs Q E g r => F.run A o s H ar us vs Q E g (r.mono h)⟩
/-- by its body -/
theorem FnG.body {k : Nat} {name qual : Str} {params : Arguments} {body : List Stmt} {scope : Scope} {dV kV doc pm cdv ct oc : Value} {an od : Option Addr} {osl : Array (Option Value)} {N : List Str}
    (lk : K.lookup f = some ⟨oc, od, .func (PySem.W.fnOf name qual params body scope dV kV doc pm an cdv ct), osl⟩) (hcd : PySem.W.codeIn K cdv qual = true) (S : FnScope N ps scope)
    (len : ∀ vs H Q E, sp vs H Q E → vs.length = ps.length)
    (hb : ∀ (A : Around) (outer : List PySem.Env) (s : Shared) (H : Hp) (vs : List V) (Q : VK) (E : XK), (A.deeper (envOfC qual scope s.heap.objs.size f cdv)).guards = some [] → Room k (A.deeper (envOfC qual scope s.heap.objs.size f cdv)) → sp vs H Q E →
      ∃ t, PSs (cxOf CX P w K mg base N qual scope f cdv A outer s H E) body t ∧ t { nx := fun _ H' => Q .non H', rt := Q } (start N vs) H) :
    FnG P w K mg base CX (k + 1) f (PySem.W.fnOf name qual params body scope dV kV doc pm an cdv ct) ps sp := by
  refine ⟨len, fun A outer s H args us vs Q E hgd room e0 bnd vals hsp => ?_⟩
  have hK : K.In s.heap := e0.mod.kin.keeps fun b o z => (e0.bs b o z).1
  have hkind : ∀ y ∈ ps.zip us, scope.names.lookup y.1 = some .local ∨ (scope.names.lookup y.1 = some .cell ∧ ((cellsFrom (s.heap.objs.size + 1) scope.names []).lookup y.1).isSome = true) := by
    rintro ⟨nm, v⟩ hy
    have := S.par nm (List.of_mem_zip hy).1
    exact this.imp id fun q => ⟨q, PySem.W.cellsFrom_some _ _ _ (.inl q)⟩
  have hlim : s.heap.NoLimit := e0.mod.nolimit.keeps fun b o z => (e0.bs b o z).1
  refine codeAny_call_function room.depth (hK _ _ lk) rfl S.co S.gen rfl (PySem.W.codeRec_of hK hcd) (bnd _ _ _ _ (wpAny_newFunctionEnv_cells S.kind hkind ?_))
  rintro env rfl s1 inn
  refine ⟨hlim.keeps inn.toInCall.keep, codeAny_func ?_⟩
  obtain ⟨t, ht, hq⟩ := hb A outer s H vs Q E hgd (room.deeper _) hsp
  have J := inv_start (CX := CX) (E := E) S room.hd e0 (len _ _ _ _ hsp) vals inn
  refine wpAny_mono (ht.run [] s1 _ H _ J hq) (fun fl s' z => ?_) fun _ _ z => z
  rcases fl with _ | _ | _ | u
  · obtain ⟨σ', H', J', q⟩ := z
    exact ⟨.non, H', J'.os, J'.bare, J'.base, J'.hok, rfl, q⟩
  · obtain ⟨_, _, _, q⟩ := z
    exact q.elim
  · obtain ⟨_, _, _, q⟩ := z
    exact q.elim
  · obtain ⟨v, σ', H', J', rv, q⟩ := z
    exact ⟨v, H', J'.os, J'.bare, J'.base, J'.hok, rv, q⟩
theorem FnG.ofFunD {x qual : Str} {params : Arguments} {body : List Stmt} {scope : Scope} {dvs : List V} {kws : List (Str × V)} {k : Nat} {N : List Str} (F : FunD K x qual params body scope dvs kws f fd) (S : FnScope N ps scope) (len : ∀ vs H Q E, sp vs H Q E → vs.length = ps.length)
    (hb : ∀ (cdv : Value) (A : Around) (outer : List PySem.Env) (s : Shared) (H : Hp) (vs : List V) (Q : VK) (E : XK), (A.deeper (envOfC qual scope s.heap.objs.size f cdv)).guards = some [] → Room k (A.deeper (envOfC qual scope s.heap.objs.size f cdv)) → sp vs H Q E →
      ∃ t, PSs (cxOf CX P w K mg base N qual scope f cdv A outer s H E) body t ∧ t { nx := fun _ H' => Q .non H', rt := Q } (start N vs) H) : FnG P w K mg base CX (k + 1) f fd ps sp := by
  obtain ⟨_, _, _, _, _, _, _, cdv, _, _, rfl, lk, hcd, _, _⟩ := F.ex
  exact FnG.body lk hcd S len (hb cdv)
end
/-- an exception over data: its class, its fields -/
abbrev DX := Value → List (Str × D) → Ow → Prop
/-- how it lies in the heap: d is its own dict -/
def XRel (K : Frag) (F' H' : Hp) (d : Option Addr) (fs : List (Str × D)) : Prop :=
  (d = none ∧ fs = []) ∨ ∃ (a : Addr) (gs : List (Str × V)), d = some a ∧ H' a = some (.xd gs) ∧ RKV K F' fs gs
abbrev DF := List D → Ow → DQ → DX → Prop
def spD (K : Frag) (n : Nat) (f : DF) : Sp := fun vs H Q E => ∃ F O ds q x, Same F H ∧ OwOk K O H F ∧ RVs K F ds vs ∧ ds.length = n ∧ f ds O q x ∧
  (∀ d v O' H' F', After K O H F O' H' F' → RV K F' d v → q d O' → Q v H') ∧
  (∀ c dx fs O' H' F', After K O H F O' H' F' → XRel K F' H' dx fs → x c fs O' → E c dx H')
theorem spD_len {K : Frag} {n : Nat} {f : DF} {ps : List Str} (h : ps.length = n) (vs : List V) (H : Hp) (Q : VK) (E : XK) (s : spD K n f vs H Q E) : vs.length = ps.length := by
  obtain ⟨F, O, ds, q, x, _, _, r, e, _⟩ := s
  rw [h, ← e, r.length]
def envOf (n : Nat) (ds : List D) : Env := ds.map some ++ List.replicate (n - ds.length) none
theorem rel_start {K : Frag} {O : Ow} {H F : Hp} {ds : List D} {vs : List V} {N : List Str} (s : Same F H) (ow : OwOk K O H F) (r : RVs K F ds vs) : Rel ⟨K, O, H, F⟩ (envOf N.length ds) O (L2.start N vs) H F := by
  refine ⟨.rfl' s ow, ⟨?_, fun i d e => ?_⟩⟩
  · unfold envOf L2.start
    simp only [List.length_append, List.length_map, List.length_replicate, r.length]
  · unfold envOf at e
    by_cases hi : i < ds.length
    · rw [List.getElem?_append_left (by simpa using hi), List.getElem?_map] at e
      cases q : ds[i]? with
      | none => rw [q] at e; cases e
      | some d' =>
        rw [q] at e
        cases e
        obtain ⟨v, h1, h2⟩ := r.get q
        refine ⟨v, ?_, h2⟩
        unfold L2.start
        rw [List.getElem?_append_left (by rw [List.length_map, ← r.length]; exact hi), List.getElem?_map, h1]; rfl
    · rw [List.getElem?_append_right (by simpa using hi), List.getElem?_replicate] at e
      split at e <;> cases e
end DL
set_option Elab.async false
set_option linter.all false
set_option maxRecDepth 100000
set_option maxHeartbeats 4000000
namespace DL
open PySem PySem.Spec PyProof.Rows L2
abbrev DW := Value → List (Str × D) → Env → Ow → Prop
def liftX (B : Bd) (w : DW) : WX := fun c d σ H => ∃ env O F fs, Rel B env O σ H F ∧ XRel B.K F H d fs ∧ w c fs env O
abbrev TakesD (X : Cx) (B : Bd) (w : DW) : Prop := Takes X (liftX B w)
abbrev w0 : DW := fun _ _ _ _ => False
theorem takesD0 {X : Cx} {B : Bd} : TakesD X B w0 := takes0.imp fun _ _ _ _ h => by
  obtain ⟨_, _, _, _, _, _, z⟩ := h
  exact z
section
variable {X : Cx} {B : Bd} {pos : Pos}
theorem run_G {pins : List (Addr × Obj)} {σ : St} {H : Hp} {s : Shared} {Q : VK} {us : List Value} {vs dvs : List V} {ds : List Value} {W : WX} {k : Nat} {f : Addr} {fd : FuncData} {ps : List Str} {sp : Sp}
    (F : FnG X.prog X.w X.K X.mg X.base (L2.CX X.prog X.w) k f fd ps sp) (hgd : X.A.guards = some []) (hr : Room k X.A) (hb : Binds X.K fd ps ds) (hd : Vals dvs ds) (tk : Takes X W)
    (I : Inv X pins σ H s) (r : Vals vs us) (h : sp (vs ++ dvs) H Q (fun c d H' => W c d σ H')) : wpAny (model X.prog X.w) X.A (call (.ref f) us) (EP X pins σ Q) X.xe s := by
  have rr := r.append hd
  have hl : (us ++ ds).length = ps.length := rr.length.symm.trans (F.len _ _ _ _ h)
  refine wpAny_call (codeAny_mono (F.run X.A X.stack s H ⟨us, []⟩ _ _ Q _ hgd hr I.env0 (hb s us I.kIn hl) rr h) fun r s' hq => ?_)
  match r, hq with
  | .error e, hq => exact tk _ s' (XE.of_call I (fun _ _ _ z => z) hq)
  | .ok (.ret u), hq => exact I.after hq
  | .ok .next, hq => exact False.elim hq
  | .ok .brk, hq => exact False.elim hq
  | .ok .cont, hq => exact False.elim hq
def dCall (fn : DF) (n : Nat) (w : DW) (dds : List D) (ta : DTA) : DTE := fun env O q => ta env O fun ds O1 => (ds ++ dds).length = n ∧ fn (ds ++ dds) O1 q fun c fs O' => w c fs env O'
/-- from the caller's state to the callee's promise -/
theorem sp_of {env : Env} {O : Ow} {σ : St} {H F : Hp} {ds : List D} {vs : List V} {n : Nat} {fn : DF} {w : DW} {q : DQ} {Q : VK} (R : Rel B env O σ H F) (r : RVs B.K F ds vs) (hl : ds.length = n)
    (h : fn ds O q fun c fs O' => w c fs env O') (k : ∀ d v O' H' F', After B.K O H F O' H' F' → RV B.K F' d v → q d O' → Q v H') : spD B.K n fn vs H Q (fun c d H' => liftX B w c d σ H') :=
  ⟨F, O, ds, q, _, R.fh, R.ow, r, hl, h, k, fun c dx fs O' H' F' a xr hx => ⟨env, O', F', fs, R.call a, xr, hx⟩⟩
section
variable {e : Expr} {es : List Expr} {x : Str} {p : Pos} {k n : Nat} {f : Addr} {fd : FuncData} {ps : List Str} {fn : DF} {w : DW} {ta tb : DTA} {dvs : List V} {dds : List D} {ds : List Value}
theorem de_call (F : FnG X.prog X.w X.K X.mg X.base (L2.CX X.prog X.w) k f fd ps (spD B.K n fn)) (hgd : X.A.guards = some []) (hr : Room k X.A) (hg : Gl X x) (hm : X.mg x = some (.ref f)) (hk : PySem.W.keepIn X.K (.ref f) = true)
    (hb : Binds X.K fd ps ds) (hd : Vals dvs ds) (hdd : ∀ F, RVs B.K F dds dvs) (tk : TakesD X B w) (ha : PA X (e :: es) (liftA B ta))
    (hdb : (x == ("__debug__" : Str)) = false := by decide) (he : starEach (e :: es) X.env = (false, eval e X.env) :: starEach es X.env := by rfl) (hpl : (backTo pos (starEach es X.env)).any (·.1) = false := by rfl) :
    PE X (.Call (.Name x p) (e :: es) [] pos) (lift B (dCall fn n w dds ta)) := by
  refine ⟨fun pins s σ H Q I h => wpAny_Call_Name_kw (ld_glob I hg hm ?_ hdb)⟩
  obtain ⟨env, O, F0, q, R, h, kk⟩ := h
  refine PySem.W.callWith_K (h₀ := X.base) I.ok.mod.kin hk (thn (ha.run pos pins s σ H (fun vs H1 => spD B.K n fn (vs ++ dvs) H1 Q (fun c d H' => liftX B w c d σ H')) I ⟨env, O, F0, _, R, h, ?_⟩) fun us s1 ⟨vs, H1, I1, rv, hz⟩ => ⟨I1.kIn, ?_⟩) he hpl
  · intro ds vs O1 H1 F1 a1 r1 q1
    exact sp_of (R.call a1) (r1.append (hdd F1)) q1.1 q1.2 fun d v O' H' F' a' r' hq => kk d v O' H' F' (a1.trans a') r' hq
  · exact run_G F hgd hr hb hd tk I1 rv hz
/-- with keywords: gD puts the data in the parameters' order -/
def dCallK (fn : DF) (n m l : Nat) (w : DW) (gD : List D → List D → List D) (ta tb : DTA) : DTE := fun env O q => ta env O fun ds O1 => tb env O1 fun es O2 => ds.length = m ∧ es.length = l ∧ (gD ds es).length = n ∧ fn (gD ds es) O2 q fun c fs O' => w c fs env O'
end
def dNil : DTA := fun _ O q => q [] O
def dCons (ta : DTE) (tr : DTA) : DTA := fun env O q => ta env O fun x O1 => tr env O1 fun xs O2 => q (x :: xs) O2
theorem lift_nil (σ : St) (H : Hp) (Q : List V → Hp → Prop) (h : liftA B dNil σ H Q) : tNil σ H Q := by
  obtain ⟨env, O, F, q, R, h, k⟩ := h
  exact k [] [] O H F (.refl R) .nil h
theorem lift_cons {ta : DTE} {tr : DTA} (σ : St) (H : Hp) (Q : List V → Hp → Prop) (h : liftA B (dCons ta tr) σ H Q) : tCons (lift B ta) (liftA B tr) σ H Q := by
  obtain ⟨env, O, F, q, R, h, k⟩ := h
  refine ⟨env, O, F, _, R, h, fun d v O1 H1 F1 a1 r1 h1 => ?_⟩
  refine ⟨env, O1, F1, _, R.call a1, h1, fun ds vs O2 H2 F2 a2 r2 h2 => ?_⟩
  exact k _ _ O2 H2 F2 (a1.trans a2) (.cons (r1.mono a2.ff) r2) h2
theorem da_nil : PA X [] (liftA B dNil) := PA.weak pa_nil lift_nil
theorem da_cons {e : Expr} {es : List Expr} {ta : DTE} {tr : DTA} (ha : PE X e (lift B ta)) (hr : PA X es (liftA B tr)) (hs : starEach (e :: es) X.env = (false, eval e X.env) :: starEach es X.env := by rfl) : PA X (e :: es) (liftA B (dCons ta tr)) :=
  PA.weak (pa_cons ha hr hs) lift_cons
theorem PK.weak {es : List Keyword} {t t' : TA} (h : PK X es t) (i : ∀ σ H Q, t' σ H Q → t σ H Q) : PK X es t' := ⟨fun pos pins s σ H Q I q => h.run pos pins s σ H Q I (i σ H Q q)⟩
theorem dk_nil : PK X [] (liftA B dNil) := PK.weak pk_nil lift_nil
theorem dk_cons {e : Expr} {kws : List Keyword} {nm : Option Str} {kpos : Pos} {ta : DTE} {tr : DTA} (ha : PE X e (lift B ta)) (hr : PK X kws (liftA B tr)) : PK X (⟨nm, e, kpos⟩ :: kws) (liftA B (dCons ta tr)) :=
  PK.weak (pk_cons ha hr) lift_cons
def dTup (t : DTA) : DTE := fun env O q => t env O fun ds O1 => ds.length ≤ sizeLine ∧ q (.tup ds) O1
def dLst (t : DTA) : DTE := fun env O q => t env O fun ds O1 => ds.length ≤ sizeLine ∧ q (.lst ds) O1
/-- a list of one's own -/
def dLstO (t : DTA) : DTE := fun env O q => t env O fun ds O1 => ds.length ≤ sizeLine ∧ ∀ p, O1 p = none → q (.ref p) (setO O1 p (.lst ds))
/-- a new tuple at p, as it stands -/
theorem Inv.newT {pins : List (Addr × Obj)} {σ : St} {H : Hp} {s : Shared} {xs : List V} {us : List Value} {t' c : Nat} (I : Inv X pins σ H s) (r : Vals xs us) (z : xs.length ≤ sizeLine) :
    Inv X pins σ (upd H s.heap.objs.size (.frz { cls := .type "tuple", data := .seq us.toArray c } (.tup xs))) { s with heap := s.heap.push { cls := .type "tuple", data := .seq us.toArray c }, toks := t' } :=
  I.laid (fun b u e => Heap.get?_push_of_some _ e) (Nat.le_refl _) ⟨Heap.get?_push_size _ rfl, z, us, r, ⟨_, Heap.get?_push_size _ rfl, rfl, _, rfl⟩⟩
/-- what is promised of a tuple that is made -/
abbrev NewT (xs : List V) (H : Hp) (Q : VK) : Prop := ∀ (p : Addr) (o : Obj), H p = none → o.dict = none → Q (.ref p) (upd H p (.frz o (.tup xs)))
theorem Inv.newT_ep {pins : List (Addr × Obj)} {σ : St} {H : Hp} {s : Shared} {xs : List V} {us : List Value} {t' c : Nat} {Q : VK} (I : Inv X pins σ H s) (r : Vals xs us) (z : xs.length ≤ sizeLine) (q : NewT xs H Q) :
    EP X pins σ Q (.ref s.heap.objs.size) { s with heap := s.heap.push { cls := .type "tuple", data := .seq us.toArray c }, toks := t' } :=
  ⟨.ref s.heap.objs.size, _, Inv.newT I r z, rfl, q _ _ (I.hok.fresh (Nat.le_refl _)) rfl⟩
theorem new_tup {env : Env} {O : Ow} {σ : St} {H F : Hp} {q : DQ} {Q : VK} {ds : List D} {vs : List V} (R : Rel B env O σ H F) (r : RVs B.K F ds vs) (h : q (.tup ds) O)
    (k : ∀ d v O' H' F', After B.K O H F O' H' F' → RV B.K F' d v → q d O' → Q v H') : NewT vs H Q := fun p o hp hd =>
  have a := R.froz hp (.frz o (.tup vs))
  k _ _ O _ _ a (.tup (SqN.new hd) (r.mono a.ff)) h
theorem de_tup {es : List Expr} {x1} {t : DTA} (h : PA X es (liftA B t)) : PE X (.Tuple es x1 pos) (lift B (dTup t)) := by
  refine ⟨fun pins s σ H Q I hq => ?_⟩
  obtain ⟨env, O, F, q, R, hq, k⟩ := hq
  refine wpAny_Tuple_spliced (thn (h.run pos pins s σ H (fun xs H1 => xs.length ≤ sizeLine ∧ NewT xs H1 Q) I ⟨env, O, F, _, R, hq, fun ds vs O1 H1 F1 a1 r1 h1 => ⟨r1.length ▸ h1.1, new_tup (R.call a1) r1 h1.2 fun d v O' H' F' a => k d v O' H' F' (a1.trans a)⟩⟩) fun us s1 ⟨xs, H1, I1, r, z, q⟩ => ⟨by rw [← r.length]; exact z, ?_⟩)
  exact Inv.newT_ep I1 r z q
theorem de_lst {es : List Expr} {t : DTA} (h : PA X es (liftA B t)) : PE X (.List es pos) (lift B (dLst t)) := by
  refine PE.weak (pe_lst h) fun σ H Q h => ?_
  obtain ⟨env, O, F, q, R, h, k⟩ := h
  refine ⟨env, O, F, _, R, h, fun ds vs O1 H1 F1 a1 r1 h1 => ⟨r1.length ▸ h1.1, fun p hp => ?_⟩⟩
  have a2 := (R.call a1).froz hp (.lst vs)
  exact k _ _ O1 _ _ (a1.trans a2) (.lst (SqL.of upd_same) (r1.mono a2.ff)) h1.2
theorem de_lstO {es : List Expr} {t : DTA} (h : PA X es (liftA B t)) : PE X (.List es pos) (lift B (dLstO t)) := by
  refine PE.weak (pe_lst h) fun σ H Q h => ?_
  obtain ⟨env, O, F, q, R, h, k⟩ := h
  refine ⟨env, O, F, _, R, h, fun ds vs O1 H1 F1 a1 r1 h1 => ⟨r1.length ▸ h1.1, fun p hp => ?_⟩⟩
  have R1 := R.call a1
  exact k _ _ _ _ F1 (a1.trans (R1.own hp (u := .lst ds) ⟨vs, rfl, r1⟩)) (.ref p) (h1.2 p (R1.free hp).1)
def dAnd (t u : DTT) : DTT := fun env O q => t env O fun c O1 => if c = true then u env O1 q else q false O1
def dOr (t u : DTT) : DTT := fun env O q => t env O fun c O1 => if c = true then q true O1 else u env O1 q
def dNot (t : DTT) : DTT := fun env O q => t env O fun c O1 => q (!c) O1
theorem lift_or {t u : DTT} (σ : St) (H : Hp) (Q : Bool → Hp → Prop) (h : liftT B (dOr t u) σ H Q) : tOr (liftT B t) (liftT B u) σ H Q := by
  obtain ⟨env, O, F, q, R, h, k⟩ := h
  refine ⟨env, O, F, _, R, h, fun b O1 H1 F1 a1 h1 => ?_⟩
  cases b with
  | true =>
    rw [if_pos rfl] at h1 ⊢
    exact k true O1 H1 F1 a1 h1
  | false =>
    rw [if_neg (by decide)] at h1 ⊢
    exact ⟨env, O1, F1, q, R.call a1, h1, fun b O2 H2 F2 a2 => k b O2 H2 F2 (a1.trans a2)⟩
theorem PW.weak {e : Expr} {t t' : TT} (h : PW X e t) (i : ∀ σ H Q, t' σ H Q → t σ H Q) : PW X e t' := ⟨fun wh pins s σ H Q I q => h.run wh pins s σ H Q I (i σ H Q q)⟩
theorem dw_or1 {a : Expr} {t : DTT} (h : PT X a (liftT B t)) : PW X (.BoolOp .Or [a] pos) (liftT B t) := pw_or1 h
theorem dw_or {a b : Expr} {rest : List Expr} {t u : DTT} (h : PT X a (liftT B t)) (h2 : PW X (.BoolOp .Or (b :: rest) pos) (liftT B u)) : PW X (.BoolOp .Or (a :: b :: rest) pos) (liftT B (dOr t u)) := PW.weak (pw_or h h2) lift_or
/-- as values: all but the last are bools -/
def dAndV (ta tb : DTE) : DTE := fun env O q => ta env O fun x O1 => match x with | .bl true => tb env O1 q | .bl false => q (.bl false) O1 | _ => False
def dOrV (ta tb : DTE) : DTE := fun env O q => ta env O fun x O1 => match x with | .bl false => tb env O1 q | .bl true => q (.bl true) O1 | _ => False
def dNotV (ta : DTE) : DTE := fun env O q => ta env O fun x O1 => match x with | .bl b => q (.bl !b) O1 | _ => False
def dIfE (t : DTT) (ta tb : DTE) : DTE := fun env O q => t env O fun c O1 => if c = true then ta env O1 q else tb env O1 q
theorem de_if {c a b : Expr} {t : DTT} {ta tb : DTE} (hc : PT X c (liftT B t)) (ha : PE X a (lift B ta)) (hb : PE X b (lift B tb)) : PE X (.IfExp c a b pos) (lift B (dIfE t ta tb)) :=
  PE.weak (pe_ifExp hc ha hb) fun σ H Q h => by
    obtain ⟨env, O, F, q, R, h, k⟩ := h
    refine ⟨env, O, F, _, R, h, fun b O1 H1 F1 a1 h1 => ?_⟩
    cases b with
    | true =>
      rw [if_pos rfl] at h1 ⊢
      exact ⟨env, O1, F1, q, R.call a1, h1, fun d v O2 H2 F2 a2 => k d v O2 H2 F2 (a1.trans a2)⟩
    | false =>
      rw [if_neg (by decide)] at h1 ⊢
      exact ⟨env, O1, F1, q, R.call a1, h1, fun d v O2 H2 F2 a2 => k d v O2 H2 F2 (a1.trans a2)⟩
def dNext : DTS := fun E env O => E.nx env O
def dSeq (t u : DTS) : DTS := fun E env O => t { E with nx := u E } env O
theorem ds_nil : PSs X [] (liftS B dNext) := PSs.weak pss_nil fun E σ H h => by
  obtain ⟨env, O, F, d, R, h, m⟩ := h
  exact m.nx env O σ H F (.refl R) R.sl h
theorem ds_cons {st : Stmt} {rest : List Stmt} {t u : DTS} (h1 : PS X st (liftS B t)) (h2 : PSs X rest (liftS B u)) : PSs X (st :: rest) (liftS B (dSeq t u)) := PSs.weak (pss_cons h1 h2) fun E σ H h => by
  obtain ⟨env, O, F, d, R, h, m⟩ := h
  exact ⟨env, O, F, { d with nx := u d }, R, h, ⟨fun env' O' σ' H' F' a sl hu => ⟨env', O', F', d, R.on a sl, hu, m.later a⟩, m.rt, m.bk, m.ct⟩⟩
theorem ds_one {st : Stmt} {t : DTS} (h1 : PS X st (liftS B t)) : PSs X [st] (liftS B t) := pss_one h1
def dBreak : DTS := fun E env O => E.bk env O
def dCont : DTS := fun E env O => E.ct env O
def dExpr (te : DTE) : DTS := fun E env O => te env O fun _ O1 => E.nx env O1
theorem ds_expr {e : Expr} {te : DTE} (he : PE X e (lift B te)) (hs : swapsWith e none pos.line X.env = pure false := by rfl) : PS X (.Expr e pos) (liftS B (dExpr te)) := PS.weak (ps_expr he hs) fun E σ H h => by
  obtain ⟨env, O, F, d, R, h, m⟩ := h
  exact ⟨env, O, F, _, R, h, fun x v O1 H1 F1 a1 r1 h1 => m.nx env O1 σ H1 F1 a1 (R.sl.mono a1.ff) h1⟩
def dRet (te : DTE) : DTS := fun E env O => te env O E.rt
theorem ds_ret {e : Expr} {te : DTE} (he : PE X e (lift B te)) : PS X (.Return (some e) pos) (liftS B (dRet te)) := PS.weak (ps_ret he) fun E σ H h => by
  obtain ⟨env, O, F, d, R, h, m⟩ := h
  exact ⟨env, O, F, _, R, h, m.rt⟩
def dRetN : DTS := fun E _ O => E.rt .non O
def dIf (c : DTT) (t u : DTS) : DTS := fun E env O => c env O fun b O1 => if b = true then t E env O1 else u E env O1
theorem ds_if {c : Expr} {a b : List Stmt} {tc : DTT} {t u : DTS} (hc : PT X c (liftT B tc)) (ha : PSs X a (liftS B t)) (hb : PSs X b (liftS B u)) : PS X (.If c a b pos) (liftS B (dIf tc t u)) := PS.weak (ps_if hc ha hb) fun E σ H h => by
  obtain ⟨env, O, F, d, R, h, m⟩ := h
  refine ⟨env, O, F, _, R, h, fun b O1 H1 F1 a1 h1 => ?_⟩
  cases b with
  | true =>
    rw [if_pos rfl] at h1 ⊢
    exact ⟨env, O1, F1, d, R.call a1, h1, m.later a1⟩
  | false =>
    rw [if_neg (by decide)] at h1 ⊢
    exact ⟨env, O1, F1, d, R.call a1, h1, m.later a1⟩
abbrev DTG := D → Env → Ow → (Env → Ow → Prop) → Prop
def liftG (B : Bd) (t : DTG) : TG := fun v σ H Q => ∃ d env O F q, Rel B env O σ H F ∧ RV B.K F d v ∧ t d env O q ∧ ∀ env' O' σ' H' F', After B.K O H F O' H' F' → Sl B.K env' σ' F' → q env' O' → Q σ' H'
def dgName (i : Nat) : DTG := fun d env O q => q (env.set i (some d)) O
theorem PG.weak {tg : Expr} {t t' : TG} (h : PG X tg t) (i : ∀ v σ H Q, t' v σ H Q → t v σ H Q) : PG X tg t' := ⟨fun pins s σ H v u Q I r q => h.run pins s σ H v u Q I r (i v σ H Q q)⟩
theorem dg_name {tg : Expr} {i : Nat} (h : PG X tg (gName i)) : PG X tg (liftG B (dgName i)) := PG.weak h fun v σ H Q h => by
  obtain ⟨d, env, O, F, q, R, r, h, k⟩ := h
  exact k _ O _ H F (.refl R) (R.sl.setv r) h
def dAsg (te : DTE) (g : DTG) : DTS := fun E env O => te env O fun d O1 => g d env O1 E.nx
theorem lift_asg {te : DTE} {g : DTG} (E : Ends) (σ : St) (H : Hp) (h : liftS B (dAsg te g) E σ H) : tAsg (lift B te) (liftG B g) E σ H := by
  obtain ⟨env, O, F, d, R, h, m⟩ := h
  exact ⟨env, O, F, _, R, h, fun x v O1 H1 F1 a1 r1 h1 => ⟨x, env, O1, F1, _, R.call a1, r1, h1, fun e o σ' h f a2 => m.nx e o σ' h f (a1.trans a2)⟩⟩
theorem ds_set {st : Stmt} {te : DTE} {i : Nat} (h : PS X st (tAsg (lift B te) (gName i))) : PS X st (liftS B (dAsg te (dgName i))) := PS.weak h fun E σ H h => by
  obtain ⟨env, O, F, d, R, h, m⟩ := h
  exact ⟨env, O, F, _, R, h, fun x v O1 H1 F1 a1 r1 h1 => m.nx _ O1 _ H1 F1 a1 ((R.sl.mono a1.ff).setv r1) h1⟩
theorem ds_asg {st : Stmt} {te : DTE} {g : DTG} (h : PS X st (tAsg (lift B te) (liftG B g))) : PS X st (liftS B (dAsg te g)) := PS.weak h lift_asg
/-- a, b = x, y -/
def dPar (i j : Nat) (ta : DTA) : DTS := fun E env O => ta env O fun ds O1 => match ds with | [d, e] => E.nx ((env.set i (some d)).set j (some e)) O1 | _ => False
theorem ds_par {st : Stmt} {i j : Nat} {ta : DTA} (h : PS X st (tPar i j (liftA B ta))) : PS X st (liftS B (dPar i j ta)) := PS.weak h fun E σ H h => by
  obtain ⟨env, O, F, d, R, h, m⟩ := h
  refine ⟨env, O, F, _, R, h, fun ds vs O1 H1 F1 a1 r1 h1 => ?_⟩
  match ds, r1, h1 with
  | [a, b], r1, h1 =>
    obtain ⟨v, w, rfl, r1, r2⟩ := r1.two
    exact ⟨v, w, rfl, m.nx _ O1 _ H1 F1 a1 (((R.sl.mono a1.ff).setv r1).setv r2) h1⟩
/-- several targets -/
abbrev DTGs := List D → Env → Ow → (Env → Ow → Prop) → Prop
def liftGs (B : Bd) (t : DTGs) : TGs := fun vs σ H Q => ∃ ds env O F q, Rel B env O σ H F ∧ RVs B.K F ds vs ∧ t ds env O q ∧ ∀ env' O' σ' H' F', After B.K O H F O' H' F' → Sl B.K env' σ' F' → q env' O' → Q σ' H'
def dgNil : DTGs := fun ds env O q => ds = [] ∧ q env O
def dgCons (t : DTG) (u : DTGs) : DTGs := fun ds env O q => match ds with | d :: r => t d env O fun env' O' => u r env' O' q | [] => False
theorem PGs.weak {tg : List Expr} {t t' : TGs} (h : PGs X tg t) (i : ∀ v σ H Q, t' v σ H Q → t v σ H Q) : PGs X tg t' := ⟨fun pins s σ H v u Q I r q => h.run pins s σ H v u Q I r (i v σ H Q q)⟩
theorem dgs_nil : PGs X [] (liftGs B dgNil) := PGs.weak pgs_nil fun vs σ H Q h => by
  obtain ⟨ds, env, O, F, q, R, r, h, k⟩ := h
  obtain ⟨rfl, h⟩ := h
  cases r
  exact ⟨rfl, k env O σ H F (.refl R) R.sl h⟩
theorem dgs_cons {e : Expr} {es : List Expr} {t : DTG} {u : DTGs} (h1 : PG X e (liftG B t)) (h2 : PGs X es (liftGs B u)) (hs : (assignEach (e :: es) X.env).map (·.2) = assign e X.env :: (assignEach es X.env).map (·.2) := by rfl) :
    PGs X (e :: es) (liftGs B (dgCons t u)) := PGs.weak (pgs_cons h1 h2 hs) fun vs σ H Q h => by
  obtain ⟨ds, env, O, F, q, R, r, h, k⟩ := h
  cases r with
  | nil => exact h.elim
  | cons r rs =>
    refine ⟨_, _, rfl, _, env, O, F, _, R, r, h, fun env' O' σ' H' F' a1 s1 h1 => ?_⟩
    exact ⟨_, env', O', F', q, R.on a1 s1, rs.mono a1.ff, h1, fun e o σ' h f a2 => k e o σ' h f (a1.trans a2)⟩
def dgTup (n : Nat) (t : DTGs) : DTG := fun d env O q => match d with | .tup ds => ds.length = n ∧ t ds env O q | _ => False
theorem dg_tup {es : List Expr} {k : Nat} {t : DTGs} {n : Nat} (hK : X.K = B.K) (hc : X.calm = true) (h : PGs X es (liftGs B t)) (hn : (assignEach es X.env).length = n := by rfl) (hst : (assignEach es X.env).findIdx? (·.1) = none := by rfl) :
    PG X (.Tuple es k pos) (liftG B (dgTup n t)) := PG.weak (pg_tup hc h hn hst) fun v σ H Q h => by
  obtain ⟨d, env, O, F, q, R, r, h, kk⟩ := h
  cases d <;> try exact h.elim
  cases r with
  | tup hs hr =>
    refine ⟨_, _, rfl, by rw [hK]; exact same_tup R.fh hs, hr.length ▸ h.1, ?_⟩
    exact ⟨_, env, O, F, q, R, hr, h.2, kk⟩
end
end DL
set_option Elab.async false
set_option linter.all false
set_option maxRecDepth 100000
set_option maxHeartbeats 4000000
namespace DL
open PySem PySem.Spec PyProof.Rows L2
abbrev DTI := Env → Ow → (List D → (Ow → Prop) → Ow → Prop) → Prop
/-- the iterator J yields xs, while what Gd says of the ghost heap holds -/
def ItD (B : Bd) (J : It) (xs : List D) (Gd : Ow → Prop) (F1 : Hp) : Prop := ∀ (O : Ow) (H F : Hp) (i : Nat), Same F1 F → Same F H → OwOk B.K O H F → Gd O →
  (∀ x, xs[i]? = some x → J.go i H ∧ ∀ v H2, J.yld i H v H2 → ∃ F2, After B.K O H F O H2 F2 ∧ RV B.K F2 x v) ∧ (i = xs.length → J.stop i H)
def liftI (B : Bd) (wi : DTI) : TI := fun σ H R => ∃ env O F q, Rel B env O σ H F ∧ wi env O q ∧
  ∀ xs Gd O' H' F' J, After B.K O H F O' H' F' → ItD B J xs Gd F' → q xs Gd O' → R J H'
theorem PI.weak {X : Cx} {tg e : Expr} {t t' : TI} (h : PI X tg e t) (i : ∀ σ H R, t' σ H R → t σ H R) : PI X tg e t' := ⟨fun pins s σ H R I q => h.run pins s σ H R I (i σ H R q)⟩
/-- the items of a list: data, or one's own -/
def asL (O : Ow) : D → Option (List D)
  | .lst ds => some ds
  | .ref p => match O p with | some (.lst ds) => some ds | _ => none
  | _ => none
theorem asL_sq {K : Frag} {O : Ow} {H F : Hp} (fh : Same F H) (ow : OwOk K O H F) {d : D} {v : V} {ds : List D} (r : RV K F d v) (h : asL O d = some ds) : ∃ a xs, v = .ref a ∧ SqL K H a xs ∧ RVs K F ds xs := by
  cases d <;> simp only [asL] at h <;> try (cases h; done)
  · rename_i p
    cases r
    split at h
    · rename_i e
      cases h
      obtain ⟨_, ho, e1, vs, rfl, r⟩ := ow _ _ e
      exact ⟨_, vs, rfl, SqL.of e1, r⟩
    · cases h
  · cases h
    cases r with
    | lst hs hr => exact ⟨_, _, rfl, fh.seq hs, hr⟩
/-- an own list, as long as it stands so -/
def gdL (O0 : Ow) : D → Ow → Prop
  | .ref p => fun O => O p = O0 p
  | _ => fun _ => True
theorem asL_gd {O1 O2 : Ow} {d : D} {ds : List D} (e : asL O1 d = some ds) (g : gdL O1 d O2) : asL O2 d = some ds := by
  cases d <;> simp only [asL] at e ⊢ <;> try exact e
  rename_i p
  have g' : O2 p = O1 p := g
  rw [g']; exact e
section
variable {X : Cx} {B : Bd} {pos : Pos} {tg : Expr}
/-- lo, lo + 1, .. below hi -/
def rgD (lo hi : Int) : List D := (List.range (hi - lo).toNat).map fun (k : Nat) => .int (lo + (k : Int))
def InRg (i : Int) : Prop := -(2 ^ 62) ≤ i ∧ i < 2 ^ 62
theorem it_range {lo hi : Int} {F1 : Hp} : ItD B (Itr lo (hi - lo).toNat) (rgD lo hi) (fun _ => True) F1 := by
  intro O2 H2 F2 i s2 fh2 ow2 _
  unfold rgD
  refine ⟨fun x hx => ?_, fun hi => ?_⟩
  · rw [List.getElem?_map] at hx
    cases e : (List.range (hi - lo).toNat)[i]? with
    | none => rw [e] at hx; cases hx
    | some j =>
      rw [e] at hx
      cases hx
      obtain ⟨hl, e2⟩ := List.getElem?_eq_some_iff.mp e
      rw [List.getElem_range] at e2
      subst e2
      rw [List.length_range] at hl
      refine ⟨hl, fun v H3 hy => ?_⟩
      obtain ⟨rfl, rfl⟩ := hy
      exact ⟨F2, .rfl' fh2 ow2, .int _⟩
  · rw [List.length_map, List.length_range] at hi
    exact Nat.le_of_eq hi.symm
def diRg1 (ta : DTA) : DTI := fun env O q => ta env O fun ds O1 => match ds with | [.int j] => InRg j ∧ q (rgD 0 j) (fun _ => True) O1 | _ => False
theorem di_range1 {a : Expr} {ta : DTA} {p : Pos} (hg : Gl X "range") (hm : X.mg "range" = none) (ha : PA X [a] (liftA B ta)) (hs : starEach [a] X.env = [(false, eval a X.env)] := by rfl) : PI X tg (.Call (.Name "range" p) [a] [] pos) (liftI B (diRg1 ta)) :=
  PI.weak (pi_range1 hg hm ha hs) fun σ H R hh => by
    obtain ⟨env, O, F, q, R0, hh, k⟩ := hh
    refine ⟨env, O, F, _, R0, hh, fun ds vs O1 H1 F1 a1 r1 h1 => ?_⟩
    match ds, r1, h1 with
    | [.int j], r1, h1 =>
      obtain ⟨v, rfl, r⟩ := r1.one
      cases r
      obtain ⟨⟨b1, b2⟩, h1⟩ := h1
      have := k (rgD 0 j) _ O1 H1 F1 (Itr 0 (j - 0).toNat) a1 it_range h1
      rw [Int.sub_zero] at this
      exact ⟨j, rfl, b1, b2, this⟩
def diRg2 (ta : DTA) : DTI := fun env O q => ta env O fun ds O1 => match ds with | [.int i, .int j] => InRg i ∧ InRg j ∧ q (rgD i j) (fun _ => True) O1 | _ => False
def forGo (g : DTG) (tb : DTS) (Gd : Ow → Prop) (E : DEnds) : List D → Env → Ow → Prop
  | [], env, O => Gd O ∧ E.nx env O
  | x :: xs, env, O => Gd O ∧ g x env O fun env2 O2 => tb { nx := fun e o => ∃ o2, SubO o2 o ∧ forGo g tb Gd E xs e o2, rt := E.rt, bk := E.nx, ct := fun e o => ∃ o2, SubO o2 o ∧ forGo g tb Gd E xs e o2 } env2 O2
def dFor (wi : DTI) (g : DTG) (tb : DTS) : DTS := fun E env O => wi env O fun xs Gd O1 => forGo g tb Gd E xs env O1
theorem ds_for {st : Stmt} {wi : DTI} {g : DTG} {tb : DTS} (h : PS X st (tFor (liftI B wi) (liftG B g) (liftS B tb))) : PS X st (liftS B (dFor wi g tb)) := PS.weak h fun E σ H hh => by
  obtain ⟨env, O, F, d, R, hh, m⟩ := hh
  refine ⟨env, O, F, _, R, hh, fun xs Gd O1 H1 F1 J a1 hJ h1 => ?_⟩
  refine ⟨fun i n σ H => n = xs.length - i ∧ i ≤ xs.length ∧ ∃ env O F2, After B.K O1 H1 F1 O H F2 ∧ Sl B.K env σ F2 ∧ forGo g tb Gd d (xs.drop i) env O, ⟨xs.length, by simp, Nat.zero_le _, env, O1, F1, .refl (R.call a1), R.sl.mono a1.ff, h1⟩, ?_⟩
  rintro i n σ2 H2 ⟨rfl, hi, env2, O2, F2, a2, s2, h2⟩
  by_cases hlt : i < xs.length
  · refine .inr ?_
    rw [List.drop_eq_getElem_cons hlt] at h2
    obtain ⟨gd, h2⟩ := h2
    obtain ⟨hgo, hy⟩ := (hJ O2 H2 F2 i a2.ff a2.fh a2.ow gd).1 xs[i] (List.getElem?_eq_getElem hlt)
    refine ⟨hgo, fun σ' H' => ∃ env O F3, After B.K O1 H1 F1 O H' F3 ∧ Sl B.K env σ' F3 ∧ forGo g tb Gd d (xs.drop (i + 1)) env O, fun σ' H' n => ⟨xs.length - (i + 1), by omega, rfl, hlt, n⟩, fun v H3 yv => ?_⟩
    obtain ⟨F3, a3, rv⟩ := hy v H3 yv
    have b3 := a2.trans a3
    have R3 : Rel B env2 O2 σ2 H3 F3 := ⟨R.af.trans (a1.trans b3), s2.mono a3.ff⟩
    refine ⟨xs[i], env2, O2, F3, _, R3, rv, h2, fun env4 O4 σ4 H4 F4 a4 s4 h4 => ?_⟩
    have b4 := b3.trans a4
    refine ⟨env4, O4, F4, _, R3.on a4 s4, h4, ⟨fun e o σ'' h f a' sl ⟨o2, sb, n⟩ => ⟨e, o2, f, (b4.trans a').weak sb, sl, n⟩, fun x v o h f a' => m.rt x v o h f (a1.trans (b4.trans a')), fun e o σ'' h f a' => m.nx e o σ'' h f (a1.trans (b4.trans a')), fun e o σ'' h f a' sl ⟨o2, sb, n⟩ => ⟨e, o2, f, (b4.trans a').weak sb, sl, n⟩⟩⟩
  · have e : i = xs.length := by omega
    subst e
    rw [List.drop_length] at h2
    exact .inl ⟨(hJ O2 H2 F2 _ a2.ff a2.fh a2.ow h2.1).2 rfl, m.nx env2 O2 σ2 H2 F2 (a1.trans a2) s2 h2.2⟩
/-- by a word over the turn -/
theorem forGo_inv {g : DTG} {tb : DTS} {Gd : Ow → Prop} {E : DEnds} {xs : List D} {env : Env} {O : Ow} (P : Nat → Env → Ow → Prop) (h0 : P 0 env O) (hg : ∀ i env O, i ≤ xs.length → P i env O → Gd O)
    (hs : ∀ (N : Env → Ow → Prop) (i : Nat) (x : D) (env : Env) (O : Ow), xs[i]? = some x → P i env O → (∀ e o o2, SubO o2 o → P (i + 1) e o2 → N e o) → g x env O fun env2 O2 => tb { nx := N, rt := E.rt, bk := E.nx, ct := N } env2 O2)
    (hd : ∀ env O, P xs.length env O → E.nx env O) : forGo g tb Gd E xs env O := by
  suffices h : ∀ (ys : List D) (i : Nat) (env : Env) (O : Ow), xs.drop i = ys → i ≤ xs.length → P i env O → forGo g tb Gd E ys env O from h xs 0 env O rfl (Nat.zero_le _) h0
  intro ys
  induction ys with
  | nil =>
    intro i env O e hi p
    have : xs.length ≤ i := List.drop_eq_nil_iff.mp e
    have : i = xs.length := by omega
    subst this
    exact ⟨hg _ env O hi p, hd env O p⟩
  | cons y ys ih =>
    intro i env O e hi p
    have hlt : i < xs.length := by
      rcases Nat.lt_or_ge i xs.length with h | h
      · exact h
      · rw [List.drop_eq_nil_iff.mpr h] at e; cases e
    rw [List.drop_eq_getElem_cons hlt] at e
    injection e with e1 e2
    exact ⟨hg i env O hi p, hs _ i y env O (by rw [← e1]; exact List.getElem?_eq_getElem hlt) p fun e o o2 sb p' => ⟨o2, sb, ih (i + 1) e o2 e2 hlt p'⟩⟩
theorem wipe_get {σ : St} {vs : List Nat} {j : Nat} : (wipe σ vs)[j]? = if j ∈ vs then (σ[j]?).map fun _ => none else σ[j]? := by
  induction vs with
  | nil => simp [wipe]
  | cons v vs ih =>
    unfold wipe
    by_cases h : v = j
    · subst h
      rw [if_pos (by simp)]
      by_cases hl : v < (wipe σ vs).length
      · rw [List.getElem?_set_self hl]
        rw [wipe_length] at hl
        rw [List.getElem?_eq_getElem hl]; rfl
      · rw [List.getElem?_eq_none (by simpa using hl)]
        rw [wipe_length] at hl
        rw [List.getElem?_eq_none (by omega)]; rfl
    · rw [List.getElem?_set_ne h, ih]
      have : (j ∈ v :: vs) = (j ∈ vs) := by
        simp only [List.mem_cons, eq_iff_iff]
        exact ⟨fun z => z.elim (fun z => absurd z.symm h) id, .inr⟩
      simp only [this]
theorem wipe_set {σ : St} {vs : List Nat} {i : Nat} {x : Option V} (h : i ∈ vs) (ρ : St) (e : wipe ρ vs = wipe σ vs) : wipe (ρ.set i x) vs = wipe σ vs := by
  apply List.ext_getElem?
  intro j
  rw [← e, wipe_get, wipe_get]
  by_cases hj : j ∈ vs
  · rw [if_pos hj, if_pos hj]
    by_cases hij : i = j
    · subst hij
      by_cases hl : i < ρ.length
      · rw [List.getElem?_set_self hl, List.getElem?_eq_getElem hl]; rfl
      · rw [List.getElem?_eq_none (by simpa using hl), List.getElem?_eq_none (by omega)]
    · rw [List.getElem?_set_ne hij]
  · rw [if_neg hj, if_neg hj, List.getElem?_set_ne (fun z => hj (by rw [← z]; exact h))]
theorem wipe_wipe {σ : St} {vs : List Nat} : wipe (wipe σ vs) vs = wipe σ vs := by
  apply List.ext_getElem?
  intro j
  rw [wipe_get, wipe_get]
  by_cases hj : j ∈ vs
  · rw [if_pos hj, if_pos hj, Option.map_map]; rfl
  · rw [if_neg hj, if_neg hj]
def wipeD (env : Env) : List Nat → Env
  | [] => env
  | v :: vs => (wipeD env vs).set v none
theorem Sl.wiped {K : Frag} {env : Env} {σ : St} {F : Hp} (R : Sl K env σ F) : ∀ vs : List Nat, Sl K (wipeD env vs) (wipe σ vs) F
  | [] => R
  | _ :: vs => (R.wiped vs).setn
/-- a comprehension's target: it stores names of vs alone -/
def SimG (K : Frag) (vs : List Nat) (g : TG) (dg : DTG) : Prop := ∀ (env : Env) (O : Ow) (σ ρ : St) (H F : Hp) (v : V) (d : D) (q : Env → Ow → Prop) (Q : St → Hp → Prop), Same F H → Sl K env ρ F → wipe ρ vs = wipe σ vs → RV K F d v → dg d env O q →
  (∀ env' ρ', wipe ρ' vs = wipe σ vs → Sl K env' ρ' F → q env' O → Q ρ' H) → g v ρ H Q
theorem simG_name {K : Frag} {vs : List Nat} {i : Nat} (h : i ∈ vs) : SimG K vs (gName i) (dgName i) := fun env O σ ρ H F v d q Q _ R e r hq k => k _ _ (wipe_set h ρ e) (R.setv r) hq
def lcGo (g : DTG) (tt : DTT) (te : DTE) (Gd : Ow → Prop) : List D → Env → Ow → (List D → Ow → Prop) → Prop
  | [], _, O, q => Gd O ∧ q [] O
  | x :: xs, env, O, q => Gd O ∧ g x env O fun env2 _ => tt env2 O fun b O3 => if b = true then te env2 O3 fun y O4 => ∃ o2, SubO o2 O4 ∧ lcGo g tt te Gd xs env o2 fun ys O5 => q (y :: ys) O5 else ∃ o2, SubO o2 O3 ∧ lcGo g tt te Gd xs env o2 q
def dLc (wi : DTI) (g : DTG) (tt : DTT) (te : DTE) (vs : List Nat) : DTE := fun env O q => wi env O fun xs Gd O1 => xs.length ≤ sizeLine ∧ lcGo g tt te Gd xs (wipeD env vs) O1 fun ys O2 => q (.lst ys) O2
def dLcO (wi : DTI) (g : DTG) (tt : DTT) (te : DTE) (vs : List Nat) : DTE := fun env O q => wi env O fun xs Gd O1 => xs.length ≤ sizeLine ∧ lcGo g tt te Gd xs (wipeD env vs) O1 fun ys O2 => ∀ p, O2 p = none → q (.ref p) (setO O2 p (.lst ys))
theorem After.upn {K : Frag} {O O' : Ow} {H F H' F' : Hp} (a : After K O H F O' H' F') {p : Addr} {o : HO} (h1 : O' p = none) (h2 : F' p = none) (h3 : O p ≠ none ∨ H p = none) (h4 : ∀ o, H' p = some o → Nt p o) : After K O H F O' (upd H' p o) F' := by
  refine ⟨a.ff, fun b x e => by rw [upd_ne (ne_of_none e h2)]; exact a.fh b x e, fun b x e ho => ?_, a.fr, fun q x e => ?_, a.nw, fun P q t => tabs_upd (a.tb P q t) h4⟩
  · have : b ≠ p := fun z => by
      subst z
      rcases h3 with h3 | h3
      · exact h3 ho
      · rw [h3] at e; cases e
    rw [upd_ne this]; exact a.kq b x e ho
  · have hq : q ≠ p := fun z => by rw [z, h1] at e; cases e
    obtain ⟨a1, ho, a3, a4⟩ := a.ow q x e
    exact ⟨a1, ho, by rw [upd_ne hq]; exact a3, a4⟩
/-- a new list becomes data, or one's own -/
theorem After.ice {K : Frag} {O O' : Ow} {H F H' F' : Hp} (a : After K O H F O' H' F') {p : Addr} {o : HO} (h1 : O' p = none) (h2 : F' p = none) (h3 : O p ≠ none ∨ H p = none) (hp : H' p = some o) : After K O H F O' H' (upd F' p o) := by
  have s : Same F' (upd F' p o) := fun b u e => by rw [upd_ne (ne_of_none e h2)]; exact e
  refine ⟨a.ff.trans s, fun b x e => ?_, a.kq, fun b e1 e2 e3 => ?_, fun q x e => ?_, a.nw, a.tb⟩
  · by_cases hb : b = p
    · subst hb; rw [upd_same] at e; cases e; exact hp
    · rw [upd_ne hb] at e; exact a.fh b x e
  · have : b ≠ p := fun z => by
      subst z
      rcases h3 with h3 | h3
      · exact h3 e2
      · exact e1 h3
    rw [upd_ne this]; exact a.fr b e1 e2 e3
  · have hq : q ≠ p := fun z => by rw [z, h1] at e; cases e
    obtain ⟨a1, ho, a3, a4⟩ := a.ow q x e
    exact ⟨by rw [upd_ne hq]; exact a1, ho, a3, a4.mono s⟩
theorem After.mine {K : Frag} {O O' : Ow} {H F H' F' : Hp} (a : After K O H F O' H' F') {p : Addr} {o : HO} {u : OD} (h2 : F' p = none) (h3 : O p ≠ none ∨ H p = none) (hp : H' p = some o) (r : RO K F' p u o) : After K O H F (setO O' p u) H' F' := by
  refine ⟨a.ff, a.fh, a.kq, a.fr, fun q x e => ?_, fun q x e => ?_, a.tb⟩
  · by_cases hq : q = p
    · subst hq
      rw [setO_same] at e; cases e
      exact ⟨h2, o, hp, r⟩
    · rw [setO_ne hq] at e; exact a.ow q x e
  · by_cases hq : q = p
    · subst hq; exact h3
    · rw [setO_ne hq] at e; exact a.nw q x e
/-- what is neither own nor frozen stays out of both -/
theorem After.out {K : Frag} {O O' : Ow} {H F H' F' : Hp} (a : After K O H F O' H' F') {p : Addr} {o : HO} (h1 : O p = none) (h2 : F p = none) (h3 : H p = some o) (hn : ∀ ps, o ≠ HO.tbl ps := by intro _ z; cases z) : O' p = none ∧ F' p = none ∧ H' p = some o := by
  refine ⟨?_, a.fr p (by rw [h3]; simp) h1 h2, a.kp p o h3 h1 hn⟩
  cases e : O' p with
  | none => rfl
  | some u =>
    rcases a.nw p u e with z | z
    · exact absurd h1 z
    · rw [h3] at z; cases z
theorem lc_sim {wi : DTI} {g : TG} {dg : DTG} {tt : DTT} {te : DTE} {vs : List Nat} (sg : SimG B.K vs g dg) {σ : St} {H : Hp} {Q : VK} {env : Env} {O : Ow} {F : Hp} {q : List D → Ow → Prop} (R : Rel B env O σ H F)
    (h : wi env O fun xs Gd O1 => xs.length ≤ sizeLine ∧ lcGo dg tt te Gd xs (wipeD env vs) O1 q)
    (k : ∀ ys vs' O' H' F' p, After B.K O H F O' H' F' → (O p ≠ none ∨ H p = none) → O' p = none → F' p = none → RVs B.K F' ys vs' → H' p = some (.lst vs') → q ys O' → Q (.ref p) H') :
    tLc (liftI B wi) g (liftT B tt) (lift B te) vs σ H Q := by
  refine ⟨env, O, F, _, R, h, fun xs Gd O1 H1 F1 J a1 hJ h1 p hp => ?_⟩
  obtain ⟨hl, h1⟩ := h1
  have R1 := R.call a1
  obtain ⟨p1, p2⟩ := R1.free hp
  have hp0 : O p ≠ none ∨ H p = none := by
    by_cases ho : O p = none
    · refine .inr ?_
      cases e : H p with
      | none => rfl
      | some o => exact absurd hp (a1.kn p o e ho)
    · exact .inl ho
  refine ⟨fun i n Hc => n = xs.length - i ∧ i ≤ xs.length ∧ ∃ O2 F2 acc av, After B.K O1 H1 F1 O2 Hc F2 ∧ O2 p = none ∧ F2 p = none ∧ acc.length ≤ i ∧ RVs B.K F2 acc av ∧ Hc p = some (.lst av) ∧ lcGo dg tt te Gd (xs.drop i) (wipeD env vs) O2 fun ys O3 => q (acc ++ ys) O3,
    ⟨xs.length, by simp, Nat.zero_le _, O1, F1, [], [], (After.refl R1).upn p1 p2 (.inr hp) (nt_none hp), p1, p2, Nat.le_refl _, .nil, upd_same, h1⟩, ?_⟩
  rintro i n H2 ⟨rfl, hi, O2, F2, acc, av, a2, e1, e2, e3, ra, e4, h2⟩
  by_cases hlt : i < xs.length
  · refine .inr ?_
    rw [List.drop_eq_getElem_cons hlt] at h2
    obtain ⟨gd, h2⟩ := h2
    obtain ⟨hgo, hy⟩ := (hJ O2 H2 F2 i a2.ff a2.fh a2.ow gd).1 xs[i] (List.getElem?_eq_getElem hlt)
    refine ⟨hgo, fun Hc => ∃ O2 F2 acc av, After B.K O1 H1 F1 O2 Hc F2 ∧ O2 p = none ∧ F2 p = none ∧ acc.length ≤ i + 1 ∧ RVs B.K F2 acc av ∧ Hc p = some (.lst av) ∧ lcGo dg tt te Gd (xs.drop (i + 1)) (wipeD env vs) O2 fun ys O3 => q (acc ++ ys) O3, fun H' n => ⟨xs.length - (i + 1), by omega, rfl, hlt, n⟩, fun v H3 yv => ?_⟩
    obtain ⟨F3, a3, rv⟩ := hy v H3 yv
    obtain ⟨o3, f3, l3⟩ := a3.out e1 e2 e4
    have b3 := a2.trans a3
    refine sg (wipeD env vs) O2 σ (wipe σ vs) H3 F3 v xs[i] _ _ a3.fh (((R1.sl.wiped vs).mono a2.ff).mono a3.ff) wipe_wipe rv h2 fun env' ρ' ew sl' h3 => ⟨ew, ?_⟩
    refine ⟨env', O2, F3, _, ⟨R1.af.trans b3, sl'⟩, h3, fun b O4 H4 F4 a4 h4 => ?_⟩
    obtain ⟨o4, f4, l4⟩ := a4.out o3 f3 l3
    have b4 := b3.trans a4
    cases b with
    | false =>
      rw [if_neg (by decide)] at h4
      obtain ⟨o2, sb, h4⟩ := h4
      exact iteF ⟨o2, F4, acc, av, b4.weak sb, sb.gone o4, f4, Nat.le_succ_of_le e3, (ra.mono a3.ff).mono a4.ff, l4, h4⟩
    | true =>
      rw [if_pos rfl] at h4
      refine iteT ⟨env', O4, F4, _, ⟨R1.af.trans b4, sl'.mono a4.ff⟩, h4, fun y yv O5 H5 F5 a5 ry h5 => ?_⟩
      obtain ⟨o5, f5, l5⟩ := a5.out o4 f4 l4
      have r5 := ((ra.mono a3.ff).mono a4.ff).mono a5.ff
      obtain ⟨o2, sb, h5⟩ := h5
      refine ⟨av, l5, by rw [← r5.length]; omega, o2, F5, acc ++ [y], _, ((b4.trans a5).weak sb).upn (sb.gone o5) f5 (.inr hp) (nt_some l5 nt_lst), sb.gone o5, f5, by simp; omega, r5.append (.cons ry .nil), upd_same, ?_⟩
      simpa using h5
  · have e : i = xs.length := by omega
    subst e
    rw [List.drop_length] at h2
    refine .inl ⟨(hJ O2 H2 F2 _ a2.ff a2.fh a2.ow h2.1).2 rfl, k acc av O2 H2 F2 p (a1.trans a2) hp0 e1 e2 ra e4 ?_⟩
    simpa using h2.2
theorem lift_lc {wi : DTI} {g : TG} {dg : DTG} {tt : DTT} {te : DTE} {vs : List Nat} (sg : SimG B.K vs g dg) (σ : St) (H : Hp) (Q : VK) (h : lift B (dLc wi dg tt te vs) σ H Q) : tLc (liftI B wi) g (liftT B tt) (lift B te) vs σ H Q := by
  obtain ⟨env, O, F, q, R, h, k⟩ := h
  refine lc_sim sg R h fun ys vs' O' H' F' p a hp0 o' f' r l hq => ?_
  have a2 := a.ice o' f' hp0 l
  exact k _ _ O' H' _ a2 (.lst (SqL.of upd_same) (r.mono fun b u e => by rw [upd_ne (ne_of_none e f')]; exact e)) hq
theorem de_lc {e : Expr} {wi : DTI} {g : TG} {dg : DTG} {tt : DTT} {te : DTE} {vs : List Nat} (sg : SimG B.K vs g dg) (h : PE X e (tLc (liftI B wi) g (liftT B tt) (lift B te) vs)) : PE X e (lift B (dLc wi dg tt te vs)) := PE.weak h (lift_lc sg)
def dYes : DTT := fun _ O q => q true O
theorem PTs.weak {ifs : List Expr} {t t' : TT} (h : PTs X ifs t) (i : ∀ σ H Q, t' σ H Q → t σ H Q) : PTs X ifs t' := ⟨fun pins s σ H Q I q => h.run pins s σ H Q I (i σ H Q q)⟩
theorem dts_nil : PTs X [] (liftT B dYes) := PTs.weak pts_nil fun σ H Q h => by
  obtain ⟨env, O, F, q, R, h, k⟩ := h
  exact k true O H F (.refl R) h
end
end DL
set_option Elab.async false
set_option linter.all false
set_option maxRecDepth 100000
set_option maxHeartbeats 4000000
namespace DL
open PySem PySem.Spec PyProof.Rows L2
mutual
def py : D → PyData
  | .non => .none | .bl b => .bool b | .int i => .int i | .str x => .str x | .ref _ => .none | .ty _ => .none
  | .lst ds => .list (pys ds) | .tup ds => .tuple (pys ds) | .ins _ _ _ => .none
def pys : List D → List PyData
  | [] => [] | d :: ds => py d :: pys ds
end
mutual
def pd : D → Bool
  | .ref _ => false | .ty _ => false | .ins _ _ _ => false | .lst ds => pds ds | .tup ds => pds ds | _ => true
def pds : List D → Bool
  | [] => true | d :: ds => pd d && pds ds
end
mutual
theorem RV.dp {K : Frag} {F H : Hp} (s : Same F H) : ∀ {d : D} {v : V}, RV K F d v → pd d = true → Dp K H v (py d)
  | _, _, .non, _ => by rw [py]; exact .non
  | _, _, .bl b, _ => by rw [py]; exact .bl b
  | _, _, .int b, _ => by rw [py]; exact .int b
  | _, _, .str b, _ => by rw [py]; exact .str b
  | _, _, .ref b, h => by simp [pd] at h
  | _, _, .ty b, h => by simp [pd] at h
  | _, _, .ins _ _ _, h => by simp [pd] at h
  | _, _, .lst hs hr, h => by rw [py]; exact .lst (s.seq hs) (RVs.dp s hr (by simpa [pd] using h))
  | _, _, .tup hs hr, h => by rw [py]; exact .tup (same_tup s hs) (RVs.dp s hr (by simpa [pd] using h))
theorem RVs.dp {K : Frag} {F H : Hp} (s : Same F H) : ∀ {ds : List D} {vs : List V}, RVs K F ds vs → pds ds = true → DpAll K H vs (pys ds)
  | _, _, .nil, _ => by rw [pys]; exact .nil
  | _, _, .cons h hs, e => by
    simp only [pds, Bool.and_eq_true] at e
    rw [pys]; exact .cons (RV.dp s h e.1) (RVs.dp s hs e.2)
end
/-- as plain data, an own list too -/
def asP (O : Ow) : D → Option PyData
  | .ref p => match O p with | some (.lst ds) => if pds ds = true then some (.list (pys ds)) else none | _ => none
  | d => if pd d = true then some (py d) else none
theorem asP_dp {K : Frag} {O : Ow} {H F : Hp} (fh : Same F H) (ow : OwOk K O H F) {d : D} {v : V} {a : PyData} (r : RV K F d v) (h : asP O d = some a) : Dp K H v a := by
  cases d <;> simp only [asP] at h
  case ref p =>
    cases r
    split at h
    · rename_i e
      split at h
      · rename_i e2
        cases h
        obtain ⟨_, ho, e1, vs, rfl, r⟩ := ow _ _ e
        exact .lst (SqL.of e1) (r.dp fh e2)
      · cases h
    · cases h
  all_goals
    split at h
    · rename_i e
      cases h
      exact r.dp fh e
    · cases h
section
variable {X : Cx} {B : Bd} {pos : Pos}
def dEq : DR2 := fun x y O q => ∃ a b, asP O x = some a ∧ asP O y = some b ∧ SeqAt.shaped a = true ∧ SeqAt.shaped b = true ∧ q (.bl (PyData.eqv a b)) O
def dNe : DR2 := fun x y O q => ∃ a b, asP O x = some a ∧ asP O y = some b ∧ SeqAt.shaped a = true ∧ SeqAt.shaped b = true ∧ q (.bl (!PyData.eqv a b)) O
theorem sim_eq : Sim2 B (rEqD B.K) dEq := by
  intro env O σ H F x y dx dy q Q R rx ry h k
  obtain ⟨a, b, e1, e2, s1, s2, h⟩ := h
  exact ⟨a, b, asP_dp R.fh R.ow rx e1, asP_dp R.fh R.ow ry e2, s1, s2, k _ _ O H F (.refl R) (.bl _) h⟩
theorem sim_ne : Sim2 B (rNeD B.K) dNe := by
  intro env O σ H F x y dx dy q Q R rx ry h k
  obtain ⟨a, b, e1, e2, s1, s2, h⟩ := h
  exact ⟨a, b, asP_dp R.fh R.ow rx e1, asP_dp R.fh R.ow ry e2, s1, s2, k _ _ O H F (.refl R) (.bl _) h⟩
def dLt : DR2 := dI2 (fun _ _ => True) fun i j => .bl (decide (i < j))
def dLe : DR2 := dI2 (fun _ _ => True) fun i j => .bl (decide (i ≤ j))
def dGt : DR2 := dI2 (fun _ _ => True) fun i j => .bl (decide (j < i))
def dGe : DR2 := dI2 (fun _ _ => True) fun i j => .bl (decide (j ≤ i))
theorem sim_lt : Sim2 B (rI0 fun i j => .bl (decide (i < j))) dLt := sim_I0 fun _ _ _ => .bl _
theorem sim_gt : Sim2 B (rI0 fun i j => .bl (decide (j < i))) dGt := sim_I0 fun _ _ _ => .bl _
theorem sim_ge : Sim2 B (rI0 fun i j => .bl (decide (j ≤ i))) dGe := sim_I0 fun _ _ _ => .bl _
def dIsN : DR2 := fun x y O q => match y with | .non => q (.bl (match x with | .non => true | _ => false)) O | _ => False
def dNotN : DR2 := fun x y O q => match y with | .non => q (.bl (match x with | .non => false | _ => true)) O | _ => False
def dSub : DR2 := dI2 (fun _ _ => True) fun i j => .int (i - j)
def dMod : DR2 := dI2 (fun _ j => 0 < j) fun i j => .int (i % j)
theorem sim_mod : Sim2 B (rI (fun _ j => 0 < j) fun i j => .int (i % j)) dMod := sim_I fun _ _ _ => .int _
def rCatL (K : Frag) : R2 := fun x y H Q => ∃ a b xs ys, x = .ref a ∧ y = .ref b ∧ SqL K H a xs ∧ SqL K H b ys ∧ xs.length + ys.length ≤ sizeLine ∧ ∀ p, H p = none → Q (.ref p) (upd H p (.lst (xs ++ ys)))
theorem op_catL : OpR X (binaryOp .Add) (rCatL X.K) := by
  intro pins s σ H x y v u Q I rx ry h
  obtain ⟨a, b, xs, ys, rfl, rfl, ha, hb, hz, q⟩ := h
  cases rx; cases ry
  obtain ⟨i1, r1, ⟨⟨c1, d1, t1, l1⟩, n1, h1, k1, _, e1⟩, _⟩ := I.list ha
  obtain ⟨i2, r2, ⟨⟨c2, d2, t2, l2⟩, n2, h2, k2, _, e2⟩, _⟩ := I.list hb
  simp only at k1 e1 k2 e2
  subst k1 e1 k2 e2
  have hlen : i1.toArray.size + i2.toArray.size ≤ sizeLine := by
    have x1 := r1.length
    have x2 := r2.length
    simp only [List.size_toArray]; omega
  refine concat_meets ⟨_, h1, rfl⟩ ⟨_, h2, rfl⟩ noFill_list_add seq_list_add F.slot_list_add F.entry_list_add (F.args_list_add_2 _ _) (list_addW a b i1.toArray i2.toArray n1 n2 d1 d2 l1 l2 hlen) ⟨h1, h2, ?_⟩
  have ee : i1.toArray ++ i2.toArray = (i1 ++ i2).toArray := by simp
  rw [ee]
  exact ⟨.ref _, _, I.lnew (t' := s.toks) (r1.append r2) (by rw [List.length_append]; omega), rfl, q _ I.fresh⟩
def dAdd : DR2 := fun x y O q => match x, y with
  | .int i, .int j => q (.int (i + j)) O
  | .str i, .str j => i.length + j.length ≤ sizeLine ∧ q (.str (i ++ j)) O
  | .tup a, .tup b => a.length + b.length ≤ sizeLine ∧ q (.tup (a ++ b)) O
  | x, y => ∃ a b, asL O x = some a ∧ asL O y = some b ∧ a.length + b.length ≤ sizeLine ∧ q (.lst (a ++ b)) O
/-- t + u of tuples, what is new being told as it stands -/
def rCatN (K : Frag) : R2 := fun x y H Q => ∃ a b xs ys, x = .ref a ∧ y = .ref b ∧ SqT K H a xs ∧ SqT K H b ys ∧ xs.length + ys.length ≤ sizeLine ∧ (xs = [] → Q (.ref b) H) ∧ (xs ≠ [] → ys = [] → Q (.ref a) H) ∧ (xs ≠ [] → ys ≠ [] → NewT (xs ++ ys) H Q)
theorem op_catN : OpR X (binaryOp .Add) (rCatN X.K) := by
  intro pins s σ H x y v u Q I rx ry h
  obtain ⟨a, b, xs, ys, rfl, rfl, ha, hb, hz, q0, q1, q2⟩ := h
  cases rx; cases ry
  obtain ⟨i1, r1, t1, _⟩ := I.tuple ha
  obtain ⟨i2, r2, t2, _⟩ := I.tuple hb
  by_cases hx : xs = []
  · subst hx
    cases r1
    exact cat_tup0 t1 t2 ⟨.ref b, H, I, rfl, q0 rfl⟩
  · have hn : xs.length + ys.length = i1.length + i2.length := by rw [r1.length, r2.length]
    exact HT.cat_tup t1 t2 (fun e => hx (r1.nil_iff.mp e)) (fun e => ⟨.ref a, H, I, rfl, q1 hx (r2.nil_iff.mp e)⟩)
      (fun e => Inv.newT_ep I (r1.append r2) (by rw [List.length_append]; exact hz) (q2 hx fun e2 => e (r2.nil_iff.mpr e2))) (hn ▸ hz)
abbrev rAddA (K : Frag) : R2 := fun x y H Q => ((rI0 fun i j => .int (i + j)) x y H Q ∨ ∃ i j, x = .str i ∧ y = .str j ∧ i.length + j.length ≤ sizeLine ∧ Q (.str (i ++ j)) H) ∨ (rCatN K x y H Q ∨ rCatL K x y H Q)
theorem op_addA : OpR X (binaryOp .Add) (rAddA X.K) := (op_add.or op_add_str).or (op_catN.or op_catL)
abbrev fresh_tup {env : Env} {O : Ow} {σ : St} {H F : Hp} {q : DQ} {Q : VK} {ds : List D} {vs : List V} (R : Rel B env O σ H F) (r : RVs B.K F ds vs) (h : q (.tup ds) O)
    (k : ∀ d v O' H' F', After B.K O H F O' H' F' → RV B.K F' d v → q d O' → Q v H') : NewT vs H Q := new_tup R r h k
theorem fresh_lst {env : Env} {O : Ow} {σ : St} {H F : Hp} {q : DQ} {Q : VK} {ds : List D} {vs : List V} (R : Rel B env O σ H F) (r : RVs B.K F ds vs) (h : q (.lst ds) O)
    (k : ∀ d v O' H' F', After B.K O H F O' H' F' → RV B.K F' d v → q d O' → Q v H') (p : Addr) (hp : H p = none) : Q (.ref p) (upd H p (.lst vs)) :=
  have a := R.froz hp (.lst vs)
  k _ _ O _ _ a (.lst (SqL.of upd_same) (r.mono a.ff)) h
theorem sim_add : Sim2 B (rAddA B.K) dAdd := by
  intro env O σ H F x y dx dy q Q R rx ry h k
  have hL : (∃ a b, asL O dx = some a ∧ asL O dy = some b ∧ a.length + b.length ≤ sizeLine ∧ q (.lst (a ++ b)) O) → rAddA B.K x y H Q := by
    rintro ⟨a, b, e1, e2, hz, h⟩
    obtain ⟨p, xs, rfl, s1, r1⟩ := asL_sq R.fh R.ow rx e1
    obtain ⟨p', ys, rfl, s2, r2⟩ := asL_sq R.fh R.ow ry e2
    exact .inr (.inr ⟨p, p', xs, ys, rfl, rfl, s1, s2, by rw [← r1.length, ← r2.length]; exact hz, fresh_lst R (r1.append r2) h k⟩)
  cases dx <;> cases dy <;> simp only [dAdd] at h <;> try exact hL h
  · cases rx; cases ry
    exact .inl (.inl ⟨_, _, rfl, rfl, k _ _ O H F (.refl R) (.int _) h⟩)
  · cases rx; cases ry
    exact .inl (.inr ⟨_, _, rfl, rfl, h.1, k _ _ O H F (.refl R) (.str _) h.2⟩)
  · cases rx with
    | tup s1 r1 =>
      cases ry with
      | tup s2 r2 =>
        rename_i a b p xs p' ys
        refine .inr (.inl ⟨p, p', xs, ys, rfl, rfl, same_tup R.fh s1, same_tup R.fh s2, by rw [← r1.length, ← r2.length]; exact h.1, fun e => ?_, fun e e' => ?_, fun _ _ => fresh_tup R (r1.append r2) h.2 k⟩)
        · subst e
          cases r1
          exact k _ _ O H F (.refl R) (.tup s2 r2) h.2
        · subst e'
          cases r2
          exact k _ _ O H F (.refl R) (.tup s1 (by simpa using r1)) h.2
theorem RVs.rep {K : Frag} {F : Hp} {ds : List D} {vs : List V} (r : RVs K F ds vs) : ∀ n : Nat, RVs K F (List.replicate n ds).flatten (List.replicate n vs).flatten
  | 0 => .nil
  | n + 1 => by
    rw [List.replicate_succ, List.replicate_succ, List.flatten_cons, List.flatten_cons]
    exact r.append (r.rep n)
theorem mul_one_T (l : Addr) (items : Array Value) (n : Nat) (dd : Option Addr) (sl : Array (Option Value)) (u : Tok) :
    Meets (Builtin.«tuple.__mul__» ⟨[.ref l, .int 1 u], []⟩) (fun _ R s => s.heap.get? l = some { cls := .type "tuple", dict := dd, data := .seq items n, slots := sl } ∧ R (.ok (.ret (Value.ref l))) s) :=
  .of_wp fun prog w A R s h => by
    obtain ⟨hp, g, d, tk, os⟩ := s
    obtain ⟨hl, h⟩ := h
    have f1 := AutoSeq1.idx_int
    have c1 : (items.isEmpty || (1 : Int) == 1) = true := by simp
    wp_walk using wpAny_loadPart' hl
    repeat (first
      | (refine wpAny_ite_true (decide_eq_true c1) ?_; wp_walk using wpAny_loadPart' hl))
    exact ⟨_, rfl, h⟩
theorem mul_nil_T (l : Addr) (items : Array Value) (n : Nat) (dd : Option Addr) (sl : Array (Option Value)) (k : Int) (u : Tok) (h0 : k ≤ 0) (h1 : -(2 ^ 63) ≤ k) (hne : items.isEmpty = false) :
    Meets (Builtin.«tuple.__mul__» ⟨[.ref l, .int k u], []⟩) (fun _ R s => s.heap.get? l = some { cls := .type "tuple", dict := dd, data := .seq items n, slots := sl } ∧
      R (.ok (.ret (Value.ref s.heap.objs.size))) { s with heap := s.heap.push { cls := Value.type "tuple", data := Data.seq #[] }, toks := s.toks }) :=
  .of_wp fun prog w A R s h => by
    obtain ⟨hp, g, d, tk, os⟩ := s
    obtain ⟨hl, h⟩ := h
    have f1 := AutoSeq1.idx_int
    have c0 : ¬ ((decide (k < -(2 ^ 63)) || decide (k ≥ 2 ^ 63)) = true) := by simp; omega
    have c1 : ¬ ((items.isEmpty || k == 1) = true) := by rw [hne]; simp; omega
    have c2 : (decide (k ≤ 0) || items.isEmpty) = true := by simp [h0]
    wp_walk using wpAny_loadPart' hl
    repeat (first
      | (refine wpAny_ite_false (decide_eq_false c0) ?_; wp_walk using wpAny_loadPart' hl)
      | (refine wpAny_ite_false (decide_eq_false c1) ?_; wp_walk using wpAny_loadPart' hl)
      | (refine wpAny_ite_true (decide_eq_true c2) ?_; wp_walk using wpAny_loadPart' hl))
    exact ⟨_, rfl, h⟩
/-- t * k for k up to 1: t itself, or a new () -/
def rRep1 (K : Frag) : R2 := fun x y H Q => ∃ l k xs, x = .ref l ∧ y = .int k ∧ SqT K H l xs ∧ xs ≠ [] ∧ -(2 ^ 63) ≤ k ∧ k ≤ 1 ∧ (k = 1 → Q (.ref l) H) ∧ (k ≤ 0 → NewT [] H Q)
theorem op_rep1 : OpR X (binaryOp .Mult) (rRep1 X.K) := by
  intro pins s σ H x y v u Q I rx ry h
  obtain ⟨l, k, xs, rfl, rfl, hT, hne, h1, h2, q1, q0⟩ := h
  cases rx
  obtain ⟨t, rfl⟩ := ry
  obtain ⟨its, r, ⟨⟨cls, dd, data, sl⟩, ho, hc, n, hd⟩, hs⟩ := I.tuple hT
  simp only at hc hd
  subst hc hd
  have hi : its.toArray.isEmpty = false := by
    cases r with
    | nil => exact absurd rfl hne
    | cons _ _ => rfl
  have go : wpAny (model X.prog X.w) X.A (call (.builtin "tuple.__mul__") [.ref l, .int k t]) (EP X pins σ Q) X.xe s := by
    by_cases hk : k ≤ 0
    · refine call_meets F.slot_tuple_mul ⟨_, ho, rfl⟩ F.entry_tuple_mul (F.args_tuple_mul_2 _ _) (mul_nil_T l its.toArray n dd sl k t hk h1 hi) ⟨ho, ?_⟩
      exact Inv.newT_ep (us := []) I .nil (Nat.zero_le _) (q0 hk)
    · obtain rfl : k = 1 := by omega
      exact call_meets F.slot_tuple_mul ⟨_, ho, rfl⟩ F.entry_tuple_mul (F.args_tuple_mul_2 _ _) (mul_one_T l its.toArray n dd sl t) ⟨ho, .ref l, H, I, rfl, q1 rfl⟩
  exact wpAny_binaryOp_repeat_ref (T := "tuple") (U := "int") (by decide) ⟨_, ho, rfl⟩ (fun s' => typeIs_int s' k t) noFill_tuple_mul F.fills_int_mul F.slot_int_rmul repeat_tuple F.slot_int_index.lookup
    (call_meets F.slot_int_rmul (typeIs_int s k t) F.entry_int_rmul (F.args_int_rmul_2 _ _) (int_rmul_tuple k t l its.toArray n dd sl) ⟨ho, rfl, ⟨_, ho, rfl⟩, go⟩)
/-- t * k for k from 2 on -/
def rRepN (K : Frag) : R2 := fun x y H Q => ∃ l k xs, x = .ref l ∧ y = .int k ∧ SqT K H l xs ∧ xs ≠ [] ∧ 2 ≤ k ∧ k ≤ 1000 ∧ xs.length ≤ 1000 ∧ NewT (List.replicate k.toNat xs).flatten H Q
theorem op_repN : OpR X (binaryOp .Mult) (rRepN X.K) := by
  intro pins s σ H x y v u Q I rx ry h
  obtain ⟨l, k, xs, rfl, rfl, sq, ne, k2, k1000, x1000, q⟩ := h
  cases rx
  obtain ⟨tk, rfl⟩ := ry
  obtain ⟨vs, rv, ⟨⟨cls, dd, data, sl⟩, ho, hc, c, hdt⟩, _⟩ := I.tuple sq
  simp only at hc hdt
  subst hc hdt
  have len : vs.toArray.size = xs.length := by rw [List.size_toArray]; exact rv.length.symm
  have he : vs.toArray.isEmpty = false := by
    cases rv with
    | nil => exact absurd rfl ne
    | cons _ _ => rfl
  have small : ((xs.length : Nat) : Int) * k ≤ 1000000 := Int.le_trans (Int.mul_le_mul_of_nonneg_right (show ((xs.length : Nat) : Int) ≤ 1000 by omega) (show (0 : Int) ≤ k by omega)) (by omega)
  have small2 : k.toNat * xs.length ≤ 1000000 := Nat.mul_le_mul (show k.toNat ≤ 1000 by omega) x1000
  have b0 : (decide (k < -(2 ^ 63)) || decide (k ≥ 2 ^ 63)) = false := by simp; omega
  have b1 : (vs.toArray.isEmpty || k == 1) = false := by rw [he]; simp; omega
  have b2 : (decide (k ≤ 0) || vs.toArray.isEmpty) = false := by rw [he]; simp; omega
  have b4 : Builtin.Tuple.tupleTooMany (((vs.toArray.size : Nat) : Int) * k) = false := by
    rw [len]
    simp only [Builtin.Tuple.tupleTooMany, sizeLine_eq, decide_eq_false_iff_not]
    omega
  have sz : (List.foldl (fun x1 x2 => x1 ++ x2) #[] (List.replicate k.toNat vs.toArray)).size ≤ sizeLine := by
    rw [size_rep, List.size_toArray, lm_len_rep_flat, ← rv.length, sizeLine_eq]; omega
  have go : wpAny (model X.prog X.w) X.A (call (.builtin "tuple.__mul__") [.ref l, .int k tk]) (EP X pins σ Q) X.xe s := by
    refine call_meets F.slot_tuple_mul ⟨_, ho, rfl⟩ F.entry_tuple_mul (F.args_tuple_mul_2 _ _) (tuple_mulW l vs.toArray c dd sl k tk b0 b1 b2 (by rw [len]; omega) b4 sz) ⟨ho, ?_⟩
    rw [size_rep]
    exact Inv.newT_ep I (rv.rep k.toNat) (by rw [lm_len_rep_flat, sizeLine_eq]; omega) q
  exact wpAny_binaryOp_repeat_ref (T := "tuple") (U := "int") (by decide) ⟨_, ho, rfl⟩ (fun s1 => typeIs_int s1 k tk) noFill_tuple_mul F.fills_int_mul F.slot_int_rmul repeat_tuple F.slot_int_index.lookup
    (call_meets F.slot_int_rmul (typeIs_int s k tk) F.entry_int_rmul (F.args_int_rmul_2 _ _) (int_rmul_tuple k tk l vs.toArray c dd sl) ⟨ho, rfl, ⟨_, ho, rfl⟩, go⟩)
def dMul : DR2 := fun x y O q => match x, y with
  | .int i, .int j => CMul i j ∧ q (.int (i * j)) O
  | .tup a, .int k => a ≠ [] ∧ a.length ≤ 1000 ∧ (-(2 ^ 63) ≤ k ∧ k ≤ 1000) ∧ q (.tup (List.replicate k.toNat a).flatten) O
  | _, _ => False
abbrev rMulA (K : Frag) : R2 := fun x y H Q => (rI CMul fun i j => .int (i * j)) x y H Q ∨ (rRep1 K x y H Q ∨ rRepN K x y H Q)
theorem op_mulA : OpR X (binaryOp .Mult) (rMulA X.K) := op_mul.or (op_rep1.or op_repN)
theorem sim_mul : Sim2 B (rMulA B.K) dMul := by
  intro env O σ H F x y dx dy q Q R rx ry h k
  cases dx <;> cases dy <;> simp only [dMul] at h <;> try exact h.elim
  · cases rx; cases ry
    exact .inl ⟨_, _, rfl, rfl, h.1, k _ _ O H F (.refl R) (.int _) h.2⟩
  · rename_i a kk
    cases ry
    cases rx with
    | tup s1 r1 =>
      rename_i p xs
      obtain ⟨hne, hl, ⟨hk1, hk2⟩, h⟩ := h
      have hxs : xs ≠ [] := fun e => hne (by rw [e] at r1; cases r1; rfl)
      by_cases h1 : kk ≤ 1
      · refine .inr (.inl ⟨p, kk, xs, rfl, rfl, same_tup R.fh s1, hxs, hk1, h1, fun e => ?_, fun e => ?_⟩)
        · subst e
          refine k _ _ O H F (.refl R) (.tup s1 r1) ?_
          simpa using h
        · have e0 : kk.toNat = 0 := by omega
          rw [e0] at h
          exact fresh_tup (ds := []) R .nil h k
      · exact .inr (.inr ⟨p, kk, xs, rfl, rfl, same_tup R.fh s1, hxs, by omega, hk2, by rw [← r1.length]; exact hl, fresh_tup R (r1.rep _) h k⟩)
def dFdiv : DR2 := dI2 CDiv fun i j => .int (i / j)
theorem sim_fdiv : Sim2 B (rI CDiv fun i j => .int (i / j)) dFdiv := sim_I fun _ _ _ => .int _
def CPowW (i j : Int) : Prop := 0 ≤ j ∧ (Builtin.Int.intBits i : Int) * j ≤ 2 ^ 27
theorem op_powW : OpR X (binaryOp .Pow) (rI CPowW fun i j => .int (i ^ j.toNat)) := opI fun _ _ _ _ _ _ _ hc q => pow_int hc.1 hc.2 q
def dPow : DR2 := dI2 CPowW fun i j => .int (i ^ j.toNat)
theorem sim_pow : Sim2 B (rI CPowW fun i j => .int (i ^ j.toNat)) dPow := sim_I fun _ _ _ => .int _
theorem atI_rv {K : Frag} {F : Hp} {ds : List D} {vs : List V} {i : Int} {d : D} (r : RVs K F ds vs) (h : atI ds i = some d) : ∃ v, atI vs i = some v ∧ RV K F d v := by
  unfold atI at h ⊢
  rw [← r.length]
  cases e : ixN ds.length i with
  | none => rw [e] at h; cases h
  | some j =>
    rw [e] at h
    exact r.get h
def dIx : DR2 := fun x y O q => match x, y with
  | .tup ds, .int i => ∃ d, atI ds i = some d ∧ q d O
  | .str z, .int i => ∃ c, z.length ≤ sizeLine ∧ atI z.cps.toList i = some c ∧ q (.str ⟨#[c]⟩) O
  | x, .int i => ∃ ds d, asL O x = some ds ∧ atI ds i = some d ∧ q d O
  | _, _ => False
abbrev rIxA (K : Frag) : R2 := fun x y H Q => rIxL K x y H Q ∨ (rIxT K x y H Q ∨ rIxS x y H Q)
theorem ix_all : IxR X (rIxA X.K) := ix_list.or (ix_tup.or ix_str)
theorem sim_ix : Sim2 B (rIxA B.K) dIx := by
  intro env O σ H F x y dx dy q Q R rx ry h k
  have hL : ∀ i : Int, dy = .int i → (∃ ds d, asL O dx = some ds ∧ atI ds i = some d ∧ q d O) → rIxA B.K x y H Q := by
    rintro i rfl ⟨ds, d, e1, e2, h⟩
    cases ry
    obtain ⟨p, xs, rfl, s1, r1⟩ := asL_sq R.fh R.ow rx e1
    obtain ⟨v, e3, r⟩ := atI_rv r1 e2
    exact .inl ⟨p, xs, i, v, rfl, rfl, s1, e3, k _ _ O H F (.refl R) r h⟩
  cases dy <;> first | (cases dx <;> exact h.elim) | skip
  rename_i i
  cases dx <;> simp only [dIx] at h <;> try exact hL i rfl h
  · cases rx; cases ry
    obtain ⟨c, hz, e, h⟩ := h
    exact .inr (.inr ⟨_, i, c, rfl, rfl, hz, e, k _ _ O H F (.refl R) (.str _) h⟩)
  · cases ry
    cases rx with
    | tup s1 r1 =>
      obtain ⟨d, e, h⟩ := h
      obtain ⟨v, e3, r⟩ := atI_rv r1 e
      exact .inr (.inl ⟨_, _, i, v, rfl, rfl, same_tup R.fh s1, e3, k _ _ O H F (.refl R) r h⟩)
theorem de_ix {a b : Expr} {ta tb : DTE} (hK : X.K = B.K) (ha : PE X a (lift B ta)) (hb : PE X b (lift B tb)) (hs : PlainIx b) : PE X (.Subscript a b pos) (lift B (dOp dIx ta tb)) :=
  PE.weak (pe_ix ix_all ha hb hs) (by rw [hK]; exact lift_op sim_ix)
def cutD (ds : List D) (lo hi : Option Int) : List D := (ds.drop (HT.sIx ds.length 0 lo)).take (HT.sIx ds.length ds.length hi - HT.sIx ds.length 0 lo)
/-- a part of a slice -/
abbrev DTO := Env → Ow → (Option Int → Ow → Prop) → Prop
def doNone : DTO := fun _ O q => q none O
def doSome (te : DTE) : DTO := fun env O q => te env O fun d O1 => match d with | .int i => q (some i) O1 | _ => False
theorem PO.weak {e : Option Expr} {t t' : TO} (h : PO X e t) (i : ∀ σ H Q, t' σ H Q → t σ H Q) : PO X e t' := ⟨fun pins s σ H Q I q => h.run pins s σ H Q I (i σ H Q q)⟩
def dSl (te : DTE) (tl th : DTO) : DTE := fun env O q => te env O fun x O1 => tl env O1 fun l O2 => th env O2 fun u O3 => match x with
  | .tup ds => q (.tup (cutD ds l u)) O3
  | x => ∃ ds, asL O3 x = some ds ∧ q (.lst (cutD ds l u)) O3
def SimC (B : Bd) (r : List V → Hp → VK → Prop) (dr : List D → Ow → DQ → Prop) : Prop := ∀ (env : Env) (O : Ow) (σ : St) (H F : Hp) (vs : List V) (ds : List D) (q : DQ) (Q : VK), Rel B env O σ H F → RVs B.K F ds vs → dr ds O q →
  (∀ d v O' H' F', After B.K O H F O' H' F' → RV B.K F' d v → q d O' → Q v H') → r vs H Q
def dCB (dr : List D → Ow → DQ → Prop) (ta : DTA) : DTE := fun env O q => ta env O fun ds O1 => dr ds O1 q
theorem lift_cb {r : List V → Hp → VK → Prop} {dr : List D → Ow → DQ → Prop} {ta : DTA} (s : SimC B r dr) (σ : St) (H : Hp) (Q : VK) (h : lift B (dCB dr ta) σ H Q) : tCB r (liftA B ta) σ H Q := by
  obtain ⟨env, O, F, q, R, h, k⟩ := h
  refine ⟨env, O, F, _, R, h, fun ds vs O1 H1 F1 a1 r1 h1 => ?_⟩
  exact s env O1 σ H1 F1 vs ds q Q (R.call a1) r1 h1 fun d v O' H' F' a => k d v O' H' F' (a1.trans a)
theorem de_cb {e : Expr} {r : List V → Hp → VK → Prop} {dr : List D → Ow → DQ → Prop} {ta : DTA} (s : SimC B r dr) (h : PE X e (tCB r (liftA B ta))) : PE X e (lift B (dCB dr ta)) := PE.weak h (lift_cb s)
def lenD (O : Ow) : D → Option Nat
  | .str x => if x.length ≤ sizeLine then some x.length else none
  | .tup ds => some ds.length
  | d => (asL O d).map List.length
def dLen : List D → Ow → DQ → Prop := fun ds O q => match ds with | [d] => ∃ n, lenD O d = some n ∧ q (.int (n : Int)) O | _ => False
theorem sim_len : SimC B (fun xs H Q => ∃ x n, xs = [x] ∧ LenV B.K x H n ∧ Q (.int (n : Nat)) H) dLen := by
  intro env O σ H F vs ds q Q R r h k
  match ds, r, h with
  | [d], r, ⟨n, e, h⟩ =>
    obtain ⟨v, rfl, r1⟩ := r.one
    refine ⟨v, n, rfl, ?_, k _ _ O H F (.refl R) (.int _) h⟩
    have hL : (asL O d).map List.length = some n → LenV B.K v H n := fun e => by
      cases e2 : asL O d with
      | none => rw [e2] at e; cases e
      | some ds =>
        rw [e2] at e
        cases e
        obtain ⟨p, xs, rfl, s1, rr⟩ := asL_sq R.fh R.ow r1 e2
        exact .inl ⟨xs, s1, rr.length⟩
    cases d <;> simp only [lenD] at e <;> try exact hL e
    · cases r1
      split at e
      · rename_i hz
        cases e
        exact ⟨hz, rfl⟩
      · cases e
    · cases e
      cases r1 with
      | tup s1 rr => exact .inr ⟨_, same_tup R.fh s1, rr.length⟩
def dAbs : List D → Ow → DQ → Prop := fun ds O q => match ds with | [.int i] => q (.int (if i < 0 then -i else i)) O | _ => False
theorem sim_abs : SimC B (fun xs H Q => ∃ i, xs = [.int i] ∧ Q (.int (if i < 0 then -i else i)) H) dAbs := by
  intro env O σ H F vs ds q Q R r h k
  match ds, r, h with
  | [.int i], r, h =>
    obtain ⟨v, rfl, r1⟩ := r.one
    cases r1
    exact ⟨i, rfl, k _ _ O H F (.refl R) (.int _) h⟩
def dMin2 : List D → Ow → DQ → Prop := fun ds O q => match ds with | [.int i, .int j] => q (.int (if j < i then j else i)) O | _ => False
def dMax2 : List D → Ow → DQ → Prop := fun ds O q => match ds with | [.int i, .int j] => q (.int (if j > i then j else i)) O | _ => False
theorem sim_min2 : SimC B (fun xs H Q => ∃ i j, xs = [.int i, .int j] ∧ Q (.int (if j < i then j else i)) H) dMin2 := by
  intro env O σ H F vs ds q Q R r h k
  match ds, r, h with
  | [.int i, .int j], r, h =>
    obtain ⟨v, w, rfl, r, r'⟩ := r.two
    cases r; cases r'
    exact ⟨i, j, rfl, k _ _ O H F (.refl R) (.int _) h⟩
theorem sim_max2 : SimC B (fun xs H Q => ∃ i j, xs = [.int i, .int j] ∧ Q (.int (if j > i then j else i)) H) dMax2 := by
  intro env O σ H F vs ds q Q R r h k
  match ds, r, h with
  | [.int i, .int j], r, h =>
    obtain ⟨v, w, rfl, r, r'⟩ := r.two
    cases r; cases r'
    exact ⟨i, j, rfl, k _ _ O H F (.refl R) (.int _) h⟩
def dInt1 : List D → Ow → DQ → Prop := fun ds O q => match ds with | [.int i] => q (.int i) O | [.bl b] => q (.int (if b then 1 else 0)) O | _ => False
theorem sim_int1 : SimC B (fun xs H Q => (∃ i, xs = [.int i] ∧ Q (.int i) H) ∨ ∃ k, xs = [.bl k] ∧ Q (.int (if k then 1 else 0)) H) dInt1 := by
  intro env O σ H F vs ds q Q R r h k
  match ds, r, h with
  | [.int i], r, h =>
    obtain ⟨v, rfl, r1⟩ := r.one
    cases r1
    exact .inl ⟨i, rfl, k _ _ O H F (.refl R) (.int _) h⟩
  | [.bl i], r, h =>
    obtain ⟨v, rfl, r1⟩ := r.one
    cases r1
    exact .inr ⟨i, rfl, k _ _ O H F (.refl R) (.int _) h⟩
end
end DL
set_option Elab.async false
set_option linter.all false
set_option maxRecDepth 100000
set_option maxHeartbeats 4000000
namespace DL
open PySem PySem.Spec PyProof.Rows L2
section
variable {X : Cx} {B : Bd} {pos : Pos}
def asS (O : Ow) : D → Option (List D)
  | .tup ds => some ds
  | d => asL O d
/-- list(range(..)) -/
def dListRg1 (ta : DTE) : DTE := fun env O q => ta env O fun d O1 => match d with | .int n => RgOk 0 n ∧ q (.lst (rgD 0 n)) O1 | _ => False
abbrev srtD (ds : List D) : List D := ds.mergeSort (PySem.W.dataLe false py)
def dAppend (to : DTE) (ta : DTA) : DTE := fun env O q => to env O fun x O1 => match x with
  | .ref p => ∃ es, O1 p = some (.lst es) ∧ ta env O1 fun ds O2 => match ds with | [d] => O2 p = some (.lst es) ∧ es.length < sizeLine ∧ q .non (setO O2 p (.lst (es ++ [d]))) | _ => False
  | _ => False
theorem de_append {e : Expr} {to : DTE} {ta : DTA} (hK : X.K = B.K) (h : PE X e (tBM X.K "list" rAppend (lift B to) (liftA B ta))) : PE X e (lift B (dAppend to ta)) := PE.weak h fun σ H Q h => by
  obtain ⟨env, O, F, q, R, h, k⟩ := h
  refine ⟨env, O, F, _, R, h, fun x v O1 H1 F1 a1 r1 h1 => ?_⟩
  cases x <;> try exact h1.elim
  rename_i p
  cases r1
  obtain ⟨es, e1, h1⟩ := h1
  obtain ⟨_, ho, e2, vs, rfl, rr⟩ := a1.ow p _ e1
  have R1 := R.call a1
  refine ⟨.inl ⟨rfl, vs, SqL.of e2⟩, env, O1, F1, _, R1, h1, fun ds us O2 H2 F2 a2 r2 h2 => ?_⟩
  match ds, r2, h2 with
  | [d], r2, ⟨e3, hz, h2⟩ =>
    obtain ⟨u, rfl, ru⟩ := r2.one
    obtain ⟨_, ho, e4, vs2, rfl, rr2⟩ := a2.ow p _ e3
    refine ⟨p, vs2, u, rfl, rfl, e4, by rw [← rr2.length]; exact hz, ?_⟩
    exact k _ _ _ _ F2 (a1.trans (a2.trans ((R1.call a2).put e3 (u := .lst (es ++ [d])) ⟨_, rfl, rr2.append (.cons ru .nil)⟩))) .non h2
/-- o[i] = v, o a list of one's own -/
def dgSub (to ti : DTE) : DTG := fun d env O q => to env O fun x O1 => ti env O1 fun y O2 => match x, y with
  | .ref p, .int i => ∃ es j, O2 p = some (.lst es) ∧ ixN es.length i = some j ∧ q env (setO O2 p (.lst (es.set j d)))
  | _, _ => False
theorem dg_sub {tg : Expr} {to ti : DTE} (h : PG X tg (gSub (lift B to) (lift B ti) rSetL)) : PG X tg (liftG B (dgSub to ti)) := PG.weak h fun v σ H Q h => by
  obtain ⟨d, env, O, F, q, R, r, h, k⟩ := h
  refine ⟨env, O, F, _, R, h, fun x xv O1 H1 F1 a1 r1 h1 => ?_⟩
  have R1 := R.call a1
  refine ⟨env, O1, F1, _, R1, h1, fun y yv O2 H2 F2 a2 r2 h2 => ?_⟩
  cases x <;> cases y <;> try exact h2.elim
  cases r1; cases r2
  rename_i p i
  obtain ⟨es, j, e1, e2, h2⟩ := h2
  obtain ⟨_, ho, e3, vs, rfl, rr⟩ := a2.ow p _ e1
  have r' := (r.mono a1.ff).mono a2.ff
  have a3 := (R1.call a2).put e1 (u := .lst (es.set j d)) ⟨vs.set j v, rfl, rr.set r' j⟩
  exact ⟨p, vs, i, j, rfl, rfl, e3, by rw [← rr.length]; exact e2, k _ _ _ _ _ (a1.trans (a2.trans a3)) (((R.sl.mono a1.ff).mono a2.ff).mono a3.ff) h2⟩
end
section
variable {P : Program} {w : World} {K : Frag} {mg : Str → Option Value} {base : Heap}
/-- at a def's end some of the ghost heap may be forgotten -/
def rtK (q : DQ) : DQ := fun d O => ∃ o2, SubO o2 O ∧ q d o2
theorem rt_same {q : DQ} {d : D} {O : Ow} (h : q d O) : rtK q d O := ⟨O, .refl O, h⟩
/-- what a body's walk may lean on -/
structure Site (X : Cx) (B : Bd) (k : Nat) (wx : DW) : Prop where
  hK : X.K = B.K
  gd : X.A.guards = some []
  rm : Room k X.A
  tk : TakesD X B wx
  po : PassesOwn (model X.prog X.w) X.A X.env X.xe
theorem fn_DD {x qual : Str} {params : Arguments} {body : List Stmt} {scope : Scope} {dvs : List V} {kws : List (Str × V)} {f : Addr} {fd : FuncData} {N ps : List Str} {n k : Nat} {fn : DF} (F : FunD K x qual params body scope dvs kws f fd) (S : FnScope N ps scope) (hn : ps.length = n)
    (hb : ∀ (cdv : Value) (A : Around) (outer : List PySem.Env) (s : Shared) (H : Hp) (E : XK) (O0 : Ow) (H0 F0 : Hp) (ds : List D) (O : Ow) (q : DQ) (xx : DX), ds.length = n → fn ds O q xx →
      Site (cxOf (L2.CX P w) P w K mg base N qual scope f cdv A outer s H E) ⟨K, O0, H0, F0⟩ k (fun c fs _ O => xx c fs O) →
      ∃ t : DTS, PSs (cxOf (L2.CX P w) P w K mg base N qual scope f cdv A outer s H E) body (liftS ⟨K, O0, H0, F0⟩ t) ∧ t { nx := fun _ O' => rtK q .non O', rt := rtK q } (envOf N.length ds) O) :
    FnG P w K mg base (L2.CX P w) (k + 1) f fd ps (spD K n fn) := by
  refine FnG.ofFunD F S (spD_len hn) fun cdv A outer s H vs Q E hg hr h => ?_
  obtain ⟨F0, O, ds, q, xx, fh, ow, rv, hl, hf, k1, k2⟩ := h
  obtain ⟨t, ht, hq⟩ := hb cdv A outer s H E O H F0 ds O q xx hl hf ⟨rfl, hg, hr, (takes_of rfl rfl rfl rfl).imp fun c d σ H' z => by
    obtain ⟨env, O', F', fs, R, xr, hx⟩ := z
    exact k2 c d fs O' H' F' R.af xr hx, passes_of rfl⟩
  refine ⟨_, ht, envOf N.length ds, O, F0, _, rel_start fh ow rv, hq, ⟨fun env' O' σ' H' F' a _ ⟨o2, sb, z⟩ => k1 .non .non o2 H' F' (a.weak sb) .non z, fun x v O' H' F' a r ⟨o2, sb, z⟩ => k1 x v o2 H' F' (a.weak sb) r z, fun _ _ _ _ _ _ _ z => z.elim, fun _ _ _ _ _ _ _ z => z.elim⟩⟩
end
end DL
set_option Elab.async false
set_option linter.all false
set_option maxRecDepth 100000
set_option maxHeartbeats 4000000
namespace DL
open PySem PySem.Spec PyProof.Rows L2
/-- the script alone is tracked, and known -/
def scrH (K : Frag) (a : Addr) (vs : List Value) (ns : List Int) : Hp := fun b => if b = a ∧ K.lookup a = none then some (.frz { cls := .type "list", data := .seq vs.toArray } (.lst (ns.map V.int))) else none
theorem scrH_some {K : Frag} {a b : Addr} {vs : List Value} {ns : List Int} {o : HO} (e : scrH K a vs ns b = some o) : b = a ∧ K.lookup a = none ∧ o = .frz { cls := .type "list", data := .seq vs.toArray } (.lst (ns.map V.int)) := by
  unfold scrH at e
  split at e
  · rename_i h
    exact ⟨h.1, h.2, (Option.some.inj e).symm⟩
  · cases e
theorem law_G {P : Program} {w : World} {K : Frag} {mg mb : Str → Option Value} {k : Nat} {fa a : Addr} {fd : FuncData} {x : Str} {fn : DF} {t : Shared} {vs : List Value} {ns : List Int}
    (kin : K.In t.heap) (gl : t.heap.Ns mainGlobals mg) (bl : t.heap.Ns builtinsNs mb) (bb : ∀ x : Str, x ≠ "__name__" → mb x = bootBuiltins x) (lim : t.heap.NoLimit) (gens : t.gens = #[])
    (scr : t.heap.get? a = some { cls := .type "list", data := .seq vs.toArray }) (hin : IntsAre vs ns) (short : ns.length ≤ sizeLine) (room : Room k callerA)
    (F : ∀ base : Heap, K.In base → base.Ns mainGlobals mg → FnG P w K mg base (L2.CX P w) k fa fd [x] (spD K 1 fn)) (bind : ∀ (s : Shared) (u : Value), BindsTo s fd ⟨[u], []⟩ [(x, u)])
    (hfn : fn [.lst (ns.map D.int)] (fun _ => none) (fun d _ => d = .bl true) (fun _ _ _ => False)) :
    codeAny (model P w) callerA (.call (.ref fa) ⟨[.ref a], []⟩) (fun r s' => r = .ok (.ret (.bool true)) ∧ OldK t.heap s'.heap ∧ s'.os = t.os ∧ AllBare s'.gens) t := by
  let H := scrH K a vs ns
  have vals : Vals (ns.map V.int) vs := vals_ints hin
  have hlen := hin.length
  have dat : ∀ {b : Addr} {o : Obj} {es : Array DictEntry} {ep : Nat}, t.heap.get? b = some o → o.data = .dict es ep → H b = none := by
    intro b o es ep e de
    cases z : H b with
    | none => rfl
    | some u =>
      obtain ⟨rfl, _, _⟩ := scrH_some z
      rw [scr] at e
      cases e
      cases de
  have nsOf : ∀ {b : Addr} {m : Str → Option Value}, t.heap.Ns b m → (hidT t.heap H).Ns b m := by
    rintro b m ⟨o, es, ep, e, de, rest⟩
    exact ⟨o, es, ep, hidT_get e (dat e de), de, rest⟩
  have kB : K.In (hidT t.heap H) := by
    intro b o e
    refine hidT_get (kin b o e) ?_
    cases z : H b with
    | none => rfl
    | some u =>
      obtain ⟨rfl, kn, _⟩ := scrH_some z
      rw [kn] at e; cases e
  have hok : HOk P w H t.heap := by
    intro b o e
    obtain ⟨rfl, _, rfl⟩ := scrH_some e
    exact ⟨scr, by simpa using short, vs, _, vals, scr⟩
  have m0 : Mod K mg (hidT t.heap H) := by
    obtain ⟨mc, l1, l2⟩ := lim
    exact ⟨kB, nsOf gl, ⟨mb, nsOf bl, bb⟩, ⟨mc, nsOf l1, l2⟩⟩
  have e0 : Env0 P w K mg (hidT t.heap H) callerA [] t H :=
    ⟨rfl, m0, fun b o e => of_hidT e, Nat.le_of_eq (hidT_size _ _), trivial, fun b z => absurd (show b ∈ ([] : List Addr) from z) (by simp), hok, .of_eq gens⟩
  have sq : SqL K H a (ns.map V.int) := by
    cases hk : K.lookup a with
    | none => exact .inl (.inr ⟨_, if_pos ⟨rfl, hk⟩⟩)
    | some o =>
      have e := kin a o hk
      rw [scr] at e
      cases e
      exact .inr ⟨_, vs.toArray, _, hk, rfl, rfl, rfl, by rw [List.size_toArray, hlen]; exact short, by simpa using vals⟩
  have rvs : ∀ l : List Int, RVs K H (l.map D.int) (l.map V.int) := by
    intro l
    induction l with
    | nil => exact .nil
    | cons i l ih => exact .cons (.int i) ih
  have hsp : spD K 1 fn [.ref a] H (fun v _ => v = .bl true) (fun _ _ _ => False) := by
    refine ⟨H, fun _ => none, [.lst (ns.map D.int)], _, _, Same.refl _, (fun p o z => by cases z), .cons (.lst sq (rvs ns)) .nil, rfl, hfn, fun d v O' H' F' _ r z => ?_, fun _ _ _ _ _ _ _ _ z => z⟩
    subst z
    cases r
    rfl
  refine codeAny_mono ((F _ kB (nsOf gl)).run callerA [] t H ⟨[.ref a], []⟩ [.ref a] [.ref a] _ _ rfl room e0 (bind t (.ref a)) (.cons rfl .nil) hsp) ?_
  intro r s' z
  match r, z with
  | .error e, z =>
    obtain ⟨_, _, _, _, _, _, _, _, _, _, _, _, z⟩ := z
    exact z.elim
  | .ok .next, z => exact False.elim z
  | .ok .brk, z => exact False.elim z
  | .ok .cont, z => exact False.elim z
  | .ok (.ret u), z =>
    obtain ⟨v, H', os, bare, un, hok', rv, q⟩ := z
    have q' : v = .bl true := q
    subst q'
    obtain rfl : u = Value.bool true := rv
    refine ⟨rfl, OldK.of_keep fun b o e => ?_, os, bare⟩
    cases z : H b with
    | none => exact un.keep b o e z (fun y => absurd (show b ∈ ([] : List Addr) from y) (by simp)) (by simp)
    | some y =>
      obtain ⟨rfl, _, rfl⟩ := scrH_some z
      have y2 := (hok' _ _ (un.frzs _ _ _ z)).1
      rw [scr] at e
      cases e
      exact y2
end DL
set_option Elab.async false
set_option linter.all false
set_option maxRecDepth 100000
set_option maxHeartbeats 4000000
namespace DL
open PySem PySem.Spec PyProof.Rows L2
section
variable {X : Cx} {B : Bd} {pos : Pos} {k : Nat} {wx : DW} {a b c : Expr} {ta tb tc : DTE}
theorem Site.blk (S : Site X B k wx) {s : Shared} {H : Hp} {scope : Scope} {cenv : PySem.Env} {fp : List Addr} : Site (X.blk s H scope cenv fp) B k w0 := ⟨S.hK, S.gd, S.rm, takesD0, PassesOwn.never⟩
theorem so_eq (S : Site X B k wx) (ha : PE X a (lift B ta)) (hb : PE X b (lift B tb)) : PE X (.Compare a [.Eq] [b] pos) (lift B (dOp dEq ta tb)) := de_cmp (op_eqD S.rm.units) (by rw [S.hK]; exact sim_eq) ha hb (nomark _)
theorem Site.u65 (S : Site X B k wx) : X.A.units + 65 < cLine := by have := S.rm.un; omega
theorem Site.u66 (S : Site X B k wx) : X.A.units + 66 < cLine := by have := S.rm.un; omega
theorem st_eq (S : Site X B k wx) (ha : PE X a (lift B ta)) (hb : PE X b (lift B tb)) : PT X (.Compare a [.Eq] [b] pos) (liftT B (dTest (dOp dEq ta tb))) := dt_cmp (op_eqD S.rm.units) (by rw [S.hK]; exact sim_eq) ha hb (nomark _)
theorem st_ne (S : Site X B k wx) (ha : PE X a (lift B ta)) (hb : PE X b (lift B tb)) : PT X (.Compare a [.NotEq] [b] pos) (liftT B (dTest (dOp dNe ta tb))) := dt_cmp (op_neD S.rm.units) (by rw [S.hK]; exact sim_ne) ha hb (nomark _)
theorem st_lt (S : Site X B k wx) (ha : PE X a (lift B ta)) (hb : PE X b (lift B tb)) : PT X (.Compare a [.Lt] [b] pos) (liftT B (dTest (dOp dLt ta tb))) := dt_cmp op_lt sim_lt ha hb (nomark _)
theorem st_gt (S : Site X B k wx) (ha : PE X a (lift B ta)) (hb : PE X b (lift B tb)) : PT X (.Compare a [.Gt] [b] pos) (liftT B (dTest (dOp dGt ta tb))) := dt_cmp op_gt sim_gt ha hb (nomark _)
theorem st_ge (S : Site X B k wx) (ha : PE X a (lift B ta)) (hb : PE X b (lift B tb)) : PT X (.Compare a [.GtE] [b] pos) (liftT B (dTest (dOp dGe ta tb))) := dt_cmp op_ge sim_ge ha hb (nomark _)
theorem so_add (S : Site X B k wx) (ha : PE X a (lift B ta)) (hb : PE X b (lift B tb)) : PE X (.BinOp a .Add b pos) (lift B (dOp dAdd ta tb)) := de_op op_addA (by rw [S.hK]; exact sim_add) ha hb
theorem so_mul (S : Site X B k wx) (ha : PE X a (lift B ta)) (hb : PE X b (lift B tb)) : PE X (.BinOp a .Mult b pos) (lift B (dOp dMul ta tb)) := de_op op_mulA (by rw [S.hK]; exact sim_mul) ha hb
theorem so_fdiv (S : Site X B k wx) (ha : PE X a (lift B ta)) (hb : PE X b (lift B tb)) : PE X (.BinOp a .FloorDiv b pos) (lift B (dOp dFdiv ta tb)) := de_op op_fdiv sim_fdiv ha hb
theorem so_mod (S : Site X B k wx) (ha : PE X a (lift B ta)) (hb : PE X b (lift B tb)) : PE X (.BinOp a .Mod b pos) (lift B (dOp dMod ta tb)) := de_op op_mod sim_mod ha hb
theorem so_pow (S : Site X B k wx) (ha : PE X a (lift B ta)) (hb : PE X b (lift B tb)) : PE X (.BinOp a .Pow b pos) (lift B (dOp dPow ta tb)) := de_op op_powW sim_pow ha hb
def dNeg (ta : DTE) : DTE := fun env O q => ta env O fun x O1 => match x with | .int i => q (.int (-i)) O1 | _ => False
theorem so_neg (S : Site X B k wx) (ha : PE X a (lift B ta)) : PE X (.UnaryOp .USub a pos) (lift B (dNeg ta)) := PE.weak (pe_un un_neg ha) fun σ H Q h => by
  obtain ⟨env, O, F, q, R, h, kk⟩ := h
  refine ⟨env, O, F, _, R, h, fun d v O1 H1 F1 a1 r1 h1 => ?_⟩
  cases d <;> try exact h1.elim
  cases r1
  exact ⟨_, rfl, kk _ _ O1 H1 F1 a1 (.int _) h1⟩
theorem so_ix (S : Site X B k wx) (ha : PE X a (lift B ta)) (hb : PE X b (lift B tb)) (hs : PlainIx b) : PE X (.Subscript a b pos) (lift B (dOp dIx ta tb)) := de_ix S.hK ha hb hs
def dChain (r r' : DR2) (ta tb tc : DTE) : DTE := fun env O q => ta env O fun x O1 => tb env O1 fun y O2 => r x y O2 fun z O3 => match z with
  | .bl true => tc env O3 fun u O4 => r' y u O4 q
  | .bl false => q (.bl false) O3
  | _ => False
def truD (O : Ow) : D → Option Bool
  | .non => some false
  | .bl b => some b
  | .int i => some (i != 0)
  | .str x => if x.length ≤ sizeLine then some (x.length != 0) else none
  | .tup ds => some (!ds.isEmpty)
  | .ty _ => none
  | d => (asL O d).map fun ds => !ds.isEmpty
def dTru (t : DTE) : DTT := fun env O q => t env O fun x O' => ∃ k, truD O' x = some k ∧ q k O'
theorem isEmpty_rv {K : Frag} {F : Hp} {ds : List D} {vs : List V} (r : RVs K F ds vs) : ds.isEmpty = vs.isEmpty := by cases r <;> rfl
theorem tru_v {K : Frag} {O : Ow} {H F : Hp} (fh : Same F H) (ow : OwOk K O H F) {d : D} {v : V} {b : Bool} (r : RV K F d v) (e : truD O d = some b) : TruV K v H b := by
  have hL : ((asL O d).map fun ds => !ds.isEmpty) = some b → TruV K v H b := fun e => by
    cases e2 : asL O d with
    | none => rw [e2] at e; cases e
    | some ds =>
      rw [e2] at e
      cases e
      obtain ⟨p, xs, rfl, s1, rr⟩ := asL_sq fh ow r e2
      exact .inl ⟨xs, s1, by show (!ds.isEmpty) = _; rw [isEmpty_rv rr]⟩
  cases d <;> simp only [truD] at e <;> try exact hL e
  · cases r; cases e; rfl
  · cases r; cases e; rfl
  · cases r; cases e; rfl
  · cases r
    split at e
    · rename_i hz
      cases e
      refine ⟨hz, ?_⟩
      rw [Bool.eq_iff_iff]
      simp
    · cases e
  · cases e
    cases r with
    | tup s1 rr => exact .inr (.inl ⟨_, same_tup fh s1, by rw [isEmpty_rv rr]⟩)
theorem st_tru (S : Site X B k wx) (ha : PE X a (lift B ta)) (he : ∀ whole, isTrue a X.env whole = (do let v ← whole; standAt a.pos; holding [v] (truthy v)) := by intro _; rfl) : PT X a (liftT B (dTru ta)) := PT.weak (pt_truth ha he) fun σ H Q h => by
  obtain ⟨env, O, F, q, R, h, kk⟩ := h
  refine ⟨env, O, F, _, R, h, fun d v O1 H1 F1 a1 r1 h1 => ?_⟩
  obtain ⟨b, e, h1⟩ := h1
  exact ⟨b, by rw [S.hK]; exact tru_v a1.fh a1.ow r1 e, kk b O1 H1 F1 a1 h1⟩
variable {x : Str} {p : Pos} {e : Expr} {es : List Expr} {ps : List Str} {n j : Nat} {fn : DF} {f : Addr} {fd : FuncData} {tA tB : DTA}
theorem so_len (S : Site X B k wx) (hg : Gl X "len") (hm : X.mg "len" = none) (ha : PA X [e] (liftA B tA)) (he : starEach [e] X.env = (false, eval e X.env) :: starEach [] X.env := by rfl) (hpl : (backTo pos (starEach [] X.env)).any (·.1) = false := by rfl) : PE X (.Call (.Name "len" p) [e] [] pos) (lift B (dCB dLen tA)) :=
  de_cb (by rw [S.hK]; exact sim_len) (pe_callB call_len hg hm PySem.boot_len ha (by decide) (by decide) he hpl)
theorem bt_abs : bootBuiltins "abs" = some (.builtin "abs") := by decide +kernel
theorem bt_min : bootBuiltins "min" = some (.builtin "min") := by decide +kernel
theorem bt_max : bootBuiltins "max" = some (.builtin "max") := by decide +kernel
theorem bt_int : bootBuiltins "int" = some (.type "int") := by decide +kernel
theorem bt_repr : bootBuiltins "repr" = some (.builtin "repr") := by decide +kernel
theorem so_abs (S : Site X B k wx) (hg : Gl X "abs") (hm : X.mg "abs" = none) (ha : PA X [e] (liftA B tA)) (he : starEach [e] X.env = (false, eval e X.env) :: starEach [] X.env := by rfl) (hpl : (backTo pos (starEach [] X.env)).any (·.1) = false := by rfl) : PE X (.Call (.Name "abs" p) [e] [] pos) (lift B (dCB dAbs tA)) :=
  de_cb sim_abs (pe_callB call_abs hg hm bt_abs ha (by decide) (by decide) he hpl)
theorem so_min2 {e2 : Expr} (S : Site X B k wx) (hc : X.calm = true) (hg : Gl X "min") (hm : X.mg "min" = none) (ha : PA X [e, e2] (liftA B tA)) (he : starEach [e, e2] X.env = (false, eval e X.env) :: starEach [e2] X.env := by rfl) (hpl : (backTo pos (starEach [e2] X.env)).any (·.1) = false := by rfl) : PE X (.Call (.Name "min" p) [e, e2] [] pos) (lift B (dCB dMin2 tA)) :=
  de_cb sim_min2 (pe_callB (call_min2 hc) hg hm bt_min ha (by decide) (by decide) he hpl)
theorem so_max2 {e2 : Expr} (S : Site X B k wx) (hc : X.calm = true) (hg : Gl X "max") (hm : X.mg "max" = none) (ha : PA X [e, e2] (liftA B tA)) (he : starEach [e, e2] X.env = (false, eval e X.env) :: starEach [e2] X.env := by rfl) (hpl : (backTo pos (starEach [e2] X.env)).any (·.1) = false := by rfl) : PE X (.Call (.Name "max" p) [e, e2] [] pos) (lift B (dCB dMax2 tA)) :=
  de_cb sim_max2 (pe_callB (call_max2 hc) hg hm bt_max ha (by decide) (by decide) he hpl)
theorem so_int (S : Site X B k wx) (hg : Gl X "int") (hm : X.mg "int" = none) (ha : PA X [e] (liftA B tA)) (he : starEach [e] X.env = (false, eval e X.env) :: starEach [] X.env := by rfl) (hpl : (backTo pos (starEach [] X.env)).any (·.1) = false := by rfl) : PE X (.Call (.Name "int" p) [e] [] pos) (lift B (dCB dInt1 tA)) :=
  de_cb sim_int1 (pe_callTy call_int1 hg hm bt_int ha (by decide) (by decide) he hpl)
theorem so_append (S : Site X B k wx) {apos : Pos} {to : DTE} (ho : PE X a (lift B to)) (ha : PA X [e] (liftA B tA)) (hbase : attributeBase a "append" X.env (eval a X.env) = eval a X.env := by rfl)
    (hfew : ((backTo pos (starEach [e] X.env)).all (fun x => !x.1) && (backToKw pos (keywordEach [] X.env)).all (fun x => x.1.isSome) && decide ([e].length + ([] : List Keyword).length + (if ([] : List Keyword).isEmpty then 0 else 1) < 30)) = true := by rfl)
    (hline : (apos.endLine == pos.line) = true := by rfl) (hs : starEach [e] X.env = (false, eval e X.env) :: starEach [] X.env := by rfl) (hplain : (backTo pos (starEach [] X.env)).any (·.1) = false := by rfl) : PE X (.Call (.Attribute a "append" apos) [e] [] pos) (lift B (dAppend to tA)) :=
  de_append S.hK (pe_bm PySem.F.plainAttrs_list PySem.F.slot_list_append PySem.F.type_list_append mt_append ho ha hbase hfew hline hs hplain)
def diSeq (te : DTE) : DTI := fun env O q => te env O fun d O1 => match d with
  | .tup ds => q ds (fun _ => True) O1
  | d => ∃ ds, asL O1 d = some ds ∧ q ds (gdL O1 d) O1
def dAugI (f : Int → Int → Int) (i : Nat) (te : DTE) : DTS := fun E env O => ∃ x, env[i]? = some (some (.int x)) ∧ te env O fun y O1 => match y with | .int z => E.nx (env.set i (some (.int (f x z)))) O1 | _ => False
end
end DL
set_option Elab.async false
set_option linter.all false
set_option maxRecDepth 100000
set_option maxHeartbeats 4000000
namespace DL
open PySem PySem.Spec PyProof.Rows L2
section
variable {env : Env} {O : Ow} {q : DQ} {ta tb tc te to ti : DTE} {tA tB : DTA} {E : DEnds} {t u : DTS} {cT cU : DTT} {qb : Bool → Ow → Prop} {qa : List D → Ow → Prop} {g : DTG} {qe : Env → Ow → Prop}
theorem i_seq (h : t { E with nx := u E } env O) : dSeq t u E env O := h
theorem i_next (h : E.nx env O) : dNext E env O := h
theorem i_asg (h : te env O fun d O1 => g d env O1 E.nx) : dAsg te g E env O := h
theorem i_gname {i : Nat} {d : D} (h : qe (env.set i (some d)) O) : dgName i d env O qe := h
theorem i_ret (h : te env O E.rt) : dRet te E env O := h
theorem i_retN (h : E.rt .non O) : dRetN E env O := h
theorem i_expr (h : te env O fun _ O1 => E.nx env O1) : dExpr te E env O := h
theorem i_if (h : cT env O fun b O1 => if b = true then t E env O1 else u E env O1) : dIf cT t u E env O := h
theorem i_break (h : E.bk env O) : dBreak E env O := h
theorem i_cont (h : E.ct env O) : dCont E env O := h
theorem i_par {i j : Nat} (h : tA env O fun ds O1 => match ds with | [d, e] => E.nx ((env.set i (some d)).set j (some e)) O1 | _ => False) : dPar i j tA E env O := h
theorem i_for {wi : DTI} (h : wi env O fun xs Gd O1 => forGo g t Gd E xs env O1) : dFor wi g t E env O := h
theorem i_gtup {n : Nat} {gs : DTGs} {ds : List D} (h : ds.length = n) (h2 : gs ds env O qe) : dgTup n gs (.tup ds) env O qe := ⟨h, h2⟩
theorem i_gnil (h : qe env O) : dgNil [] env O qe := ⟨rfl, h⟩
theorem i_gcons {gs : DTGs} {d : D} {ds : List D} (h : g d env O fun env' O' => gs ds env' O' qe) : dgCons g gs (d :: ds) env O qe := h
theorem i_augI {f : Int → Int → Int} {i : Nat} {x : Int} (e : env[i]? = some (some (.int x))) (h : te env O fun y O1 => match y with | .int z => E.nx (env.set i (some (.int (f x z)))) O1 | _ => False) : dAugI f i te E env O := ⟨x, e, h⟩
theorem i_var {i : Nat} {d : D} (e : env[i]? = some (some d)) (h : q d O) : dVar i env O q := ⟨d, e, h⟩
theorem i_c {d : D} (h : q d O) : dC d env O q := h
theorem i_op {r : DR2} (h : ta env O fun x O1 => tb env O1 fun y O2 => r x y O2 q) : dOp r ta tb env O q := h
theorem i_cb {dr : List D → Ow → DQ → Prop} (h : tA env O fun ds O1 => dr ds O1 q) : dCB dr tA env O q := h
theorem i_nil (h : qa [] O) : dNil env O qa := h
theorem i_cons (h : ta env O fun x O1 => tA env O1 fun xs O2 => qa (x :: xs) O2) : dCons ta tA env O qa := h
theorem i_tup (h : tA env O fun ds O1 => ds.length ≤ sizeLine ∧ q (.tup ds) O1) : dTup tA env O q := h
theorem i_lst (h : tA env O fun ds O1 => ds.length ≤ sizeLine ∧ q (.lst ds) O1) : dLst tA env O q := h
theorem i_lstO (h : tA env O fun ds O1 => ds.length ≤ sizeLine ∧ ∀ p, O1 p = none → q (.ref p) (setO O1 p (.lst ds))) : dLstO tA env O q := h
theorem i_ifE (h : cT env O fun c O1 => if c = true then ta env O1 q else tb env O1 q) : dIfE cT ta tb env O q := h
theorem i_test (h : te env O fun x O' => match x with | .bl k => qb k O' | _ => False) : dTest te env O qb := h
theorem i_tru (h : te env O fun x O' => ∃ k, truD O' x = some k ∧ qb k O') : dTru te env O qb := h
theorem i_and (h : cT env O fun c O1 => if c = true then cU env O1 qb else qb false O1) : dAnd cT cU env O qb := h
theorem i_or (h : cT env O fun c O1 => if c = true then qb true O1 else cU env O1 qb) : dOr cT cU env O qb := h
theorem i_not (h : cT env O fun c O1 => qb (!c) O1) : dNot cT env O qb := h
theorem i_andV (h : ta env O fun x O1 => match x with | .bl true => tb env O1 q | .bl false => q (.bl false) O1 | _ => False) : dAndV ta tb env O q := h
theorem i_orV (h : ta env O fun x O1 => match x with | .bl false => tb env O1 q | .bl true => q (.bl true) O1 | _ => False) : dOrV ta tb env O q := h
theorem i_notV (h : ta env O fun x O1 => match x with | .bl b => q (.bl !b) O1 | _ => False) : dNotV ta env O q := h
theorem i_neg (h : ta env O fun x O1 => match x with | .int i => q (.int (-i)) O1 | _ => False) : dNeg ta env O q := h
theorem i_chain {r r' : DR2} (h : ta env O fun x O1 => tb env O1 fun y O2 => r x y O2 fun z O3 => match z with | .bl true => tc env O3 fun u O4 => r' y u O4 q | .bl false => q (.bl false) O3 | _ => False) : dChain r r' ta tb tc env O q := h
theorem i_call {fn : DF} {n : Nat} {w : DW} {dds : List D} (h : tA env O fun ds O1 => (ds ++ dds).length = n ∧ fn (ds ++ dds) O1 q fun c fs O' => w c fs env O') : dCall fn n w dds tA env O q := h
theorem i_callK {fn : DF} {n m l : Nat} {w : DW} {gD : List D → List D → List D} (h : tA env O fun ds O1 => tB env O1 fun es O2 => ds.length = m ∧ es.length = l ∧ (gD ds es).length = n ∧ fn (gD ds es) O2 q fun c fs O' => w c fs env O') : dCallK fn n m l w gD tA tB env O q := h
def appK2 (p : Addr) (es : List D) (q : DQ) : List D → Ow → Prop := fun ds O2 => match ds with | [d] => O2 p = some (.lst es) ∧ es.length < sizeLine ∧ q .non (setO O2 p (.lst (es ++ [d]))) | _ => False
def appK (tA : DTA) (env : Env) (q : DQ) : D → Ow → Prop := fun x O1 => match x with
  | .ref p => ∃ es, O1 p = some (.lst es) ∧ tA env O1 (appK2 p es q)
  | _ => False
theorem i_append (h : to env O (appK tA env q)) : dAppend to tA env O q := h
theorem i_appK {p : Addr} {es : List D} (hp : O p = some (.lst es)) (h : tA env O (appK2 p es q)) : appK tA env q (.ref p) O := ⟨es, hp, h⟩
theorem i_appK2 {p : Addr} {es : List D} {d : D} (hp : O p = some (.lst es)) (hl : es.length < sizeLine) (h : q .non (setO O p (.lst (es ++ [d])))) : appK2 p es q [d] O := ⟨hp, hl, h⟩
def subK (d : D) (env : Env) (qe : Env → Ow → Prop) (x : D) : D → Ow → Prop := fun y O2 => match x, y with
  | .ref p, .int i => ∃ es j, O2 p = some (.lst es) ∧ ixN es.length i = some j ∧ qe env (setO O2 p (.lst (es.set j d)))
  | _, _ => False
theorem i_gsub {d : D} (h : to env O fun x O1 => ti env O1 (subK d env qe x)) : dgSub to ti d env O qe := h
theorem i_subK {d : D} {p : Addr} {es : List D} {i : Int} {j : Nat} (hp : O p = some (.lst es)) (e : ixN es.length i = some j) (h : qe env (setO O p (.lst (es.set j d)))) : subK d env qe (.ref p) (.int i) O := ⟨es, j, hp, e, h⟩
def slK (q : DQ) (x : D) (l : Option Int) : Option Int → Ow → Prop := fun u O3 => match x with
  | .tup ds => q (.tup (cutD ds l u)) O3
  | x => ∃ ds, asL O3 x = some ds ∧ q (.lst (cutD ds l u)) O3
theorem i_sl {tl th : DTO} (h : te env O fun x O1 => tl env O1 fun l O2 => th env O2 (slK q x l)) : dSl te tl th env O q := h
theorem i_slT {ds : List D} {l u : Option Int} (h : q (.tup (cutD ds l u)) O) : slK q (.tup ds) l u O := h
theorem i_slL {ds : List D} {l u : Option Int} (h : q (.lst (cutD ds l u)) O) : slK q (.lst ds) l u O := ⟨ds, rfl, h⟩
theorem asL_ref {p : Addr} {ds : List D} (h : O p = some (.lst ds)) : asL O (.ref p) = some ds := by simp [asL, h]
theorem i_slO {p : Addr} {ds : List D} {l u : Option Int} (hp : O p = some (.lst ds)) (h : q (.lst (cutD ds l u)) O) : slK q (.ref p) l u O := ⟨ds, asL_ref hp, h⟩
theorem i_oN {qo : Option Int → Ow → Prop} (h : qo none O) : doNone env O qo := h
theorem i_oS {qo : Option Int → Ow → Prop} (h : te env O fun d O1 => match d with | .int i => qo (some i) O1 | _ => False) : doSome te env O qo := h
theorem i_lc {wi : DTI} {tt : DTT} {vs : List Nat} (h : wi env O fun xs Gd O1 => xs.length ≤ sizeLine ∧ lcGo g tt te Gd xs (wipeD env vs) O1 fun ys O2 => q (.lst ys) O2) : dLc wi g tt te vs env O q := h
theorem i_lcO {wi : DTI} {tt : DTT} {vs : List Nat} (h : wi env O fun xs Gd O1 => xs.length ≤ sizeLine ∧ lcGo g tt te Gd xs (wipeD env vs) O1 fun ys O2 => ∀ p, O2 p = none → q (.ref p) (setO O2 p (.lst ys))) : dLcO wi g tt te vs env O q := h
theorem i_yes (h : qb true O) : dYes env O qb := h
theorem i_listRg1 (h : ta env O fun d O1 => match d with | .int n => RgOk 0 n ∧ q (.lst (rgD 0 n)) O1 | _ => False) : dListRg1 ta env O q := h
theorem i_rg1 {qi : List D → (Ow → Prop) → Ow → Prop} (h : tA env O fun ds O1 => match ds with | [.int j] => InRg j ∧ qi (rgD 0 j) (fun _ => True) O1 | _ => False) : diRg1 tA env O qi := h
theorem i_rg2 {qi : List D → (Ow → Prop) → Ow → Prop} (h : tA env O fun ds O1 => match ds with | [.int i, .int j] => InRg i ∧ InRg j ∧ qi (rgD i j) (fun _ => True) O1 | _ => False) : diRg2 tA env O qi := h
def seqK (qi : List D → (Ow → Prop) → Ow → Prop) : D → Ow → Prop := fun d O1 => match d with | .tup ds => qi ds (fun _ => True) O1 | d => ∃ ds, asL O1 d = some ds ∧ qi ds (gdL O1 d) O1
theorem i_seqI {qi : List D → (Ow → Prop) → Ow → Prop} (h : te env O (seqK qi)) : diSeq te env O qi := h
theorem i_seqT {qi : List D → (Ow → Prop) → Ow → Prop} {ds : List D} (h : qi ds (fun _ => True) O) : seqK qi (.tup ds) O := h
theorem i_seqL {qi : List D → (Ow → Prop) → Ow → Prop} {ds : List D} (h : qi ds (fun _ => True) O) : seqK qi (.lst ds) O := ⟨ds, rfl, h⟩
theorem i_seqO {qi : List D → (Ow → Prop) → Ow → Prop} {p : Addr} {ds : List D} (hp : O p = some (.lst ds)) (h : qi ds (fun O' => O' p = O p) O) : seqK qi (.ref p) O := ⟨ds, asL_ref hp, h⟩
variable {i j : Int}
theorem i_lt (h : q (.bl (decide (i < j))) O) : dLt (.int i) (.int j) O q := ⟨trivial, h⟩
theorem i_le (h : q (.bl (decide (i ≤ j))) O) : dLe (.int i) (.int j) O q := ⟨trivial, h⟩
theorem i_gt (h : q (.bl (decide (j < i))) O) : dGt (.int i) (.int j) O q := ⟨trivial, h⟩
theorem i_ge (h : q (.bl (decide (j ≤ i))) O) : dGe (.int i) (.int j) O q := ⟨trivial, h⟩
theorem i_sub (h : q (.int (i - j)) O) : dSub (.int i) (.int j) O q := ⟨trivial, h⟩
theorem i_addI (h : q (.int (i + j)) O) : dAdd (.int i) (.int j) O q := h
theorem i_mulI (hc : CMul i j) (h : q (.int (i * j)) O) : dMul (.int i) (.int j) O q := ⟨hc, h⟩
theorem i_mod (hc : 0 < j) (h : q (.int (i % j)) O) : dMod (.int i) (.int j) O q := ⟨hc, h⟩
theorem i_fdiv (hc : CDiv i j) (h : q (.int (i / j)) O) : dFdiv (.int i) (.int j) O q := ⟨hc, h⟩
theorem i_pow (hc : CPowW i j) (h : q (.int (i ^ j.toNat)) O) : dPow (.int i) (.int j) O q := ⟨hc, h⟩
theorem i_int (h : q (.int i) O) : dInt1 [.int i] O q := h
theorem i_intb {b : Bool} (h : q (.int (if b then 1 else 0)) O) : dInt1 [.bl b] O q := h
theorem i_abs (h : q (.int (if i < 0 then -i else i)) O) : dAbs [.int i] O q := h
theorem i_min2 (h : q (.int (if j < i then j else i)) O) : dMin2 [.int i, .int j] O q := h
theorem i_max2 (h : q (.int (if j > i then j else i)) O) : dMax2 [.int i, .int j] O q := h
theorem i_isN {d : D} (h : q (.bl (match d with | .non => true | _ => false)) O) : dIsN d .non O q := h
theorem i_notN {d : D} (h : q (.bl (match d with | .non => false | _ => true)) O) : dNotN d .non O q := h
theorem i_addL {a b : List D} (h1 : a.length + b.length ≤ sizeLine) (h : q (.lst (a ++ b)) O) : dAdd (.lst a) (.lst b) O q := ⟨a, b, rfl, rfl, h1, h⟩
theorem i_ixT {ds : List D} {d : D} (e : atI ds i = some d) (h : q d O) : dIx (.tup ds) (.int i) O q := ⟨d, e, h⟩
theorem i_ixL {ds : List D} {d : D} (e : atI ds i = some d) (h : q d O) : dIx (.lst ds) (.int i) O q := ⟨ds, d, rfl, e, h⟩
theorem i_ixO {p : Addr} {ds : List D} {d : D} (hp : O p = some (.lst ds)) (e : atI ds i = some d) (h : q d O) : dIx (.ref p) (.int i) O q := ⟨ds, d, asL_ref hp, e, h⟩
theorem i_lenL {ds : List D} (h : q (.int (ds.length : Int)) O) : dLen [.lst ds] O q := ⟨ds.length, rfl, h⟩
theorem i_lenT {ds : List D} (h : q (.int (ds.length : Int)) O) : dLen [.tup ds] O q := ⟨ds.length, rfl, h⟩
theorem i_lenO {p : Addr} {ds : List D} (hp : O p = some (.lst ds)) (h : q (.int (ds.length : Int)) O) : dLen [.ref p] O q := ⟨ds.length, by simp [lenD, asL_ref hp], h⟩
theorem join (V : D → Prop) (hk : ∀ d, V d → q d O) (h : ∀ q' : DQ, (∀ d, V d → q' d O) → te env O q') : te env O q := h q hk
theorem if_d {P A B : Prop} [Decidable P] (h1 : P → A) (h2 : ¬ P → B) : if decide P = true then A else B := by
  by_cases h : P
  · rw [decide_eq_true h]; exact h1 h
  · rw [decide_eq_false h]; exact h2 h
end
theorem asP_pd {O : Ow} {d : D} (h : pd d = true) : asP O d = some (py d) := by
  cases d <;> first | (simp [pd] at h; done) | simp [asP, h]
theorem line_ok {n : Nat} (h : n ≤ 100000) : n ≤ sizeLine := Nat.le_trans h (by decide)
theorem len_ok {ds : List D} (h : ds.length ≤ 100000) : ds.length ≤ sizeLine := Nat.le_trans h (by decide)
theorem powW {i j : Int} {m : Nat} (hi : i.natAbs < 2 ^ m) (hm : 0 < m) (h0 : 0 ≤ j) (h : ((m : Int) + 1) * j ≤ 2 ^ 27) : CPowW i j := by
  refine ⟨h0, Int.le_trans (Int.mul_le_mul_of_nonneg_right ?_ h0) h⟩
  have h1 : i.natAbs.log2 < m := PySem.Flt.log2_lt_of hm hi
  have h2 : Builtin.Int.intBits i ≤ i.natAbs.log2 + 1 := by
    unfold Builtin.Int.intBits
    split <;> omega
  omega
/-- a source of draws: digits, a mixed number, how often it was mixed -/
def Bag (O : Ow) (p : Addr) (m : Int) : Prop := ∃ a b c : Int, O p = some (.lst [.int a, .int b, .int c]) ∧ 0 ≤ b ∧ b < 2 ^ 90 ∧ 0 ≤ c ∧ c ≤ m
theorem Bag.mono {O : Ow} {p : Addr} {m m' : Int} (h : Bag O p m) (hm : m ≤ m') : Bag O p m' := by
  obtain ⟨a, b, c, e, h1, h2, h3, h4⟩ := h
  exact ⟨a, b, c, e, h1, h2, h3, Int.le_trans h4 hm⟩
theorem Bag.other {O : Ow} {p r : Addr} {m : Int} {o : OD} (h : Bag O p m) (hr : O r = none) : Bag (setO O r o) p m := by
  obtain ⟨a, b, c, e, h1⟩ := h
  refine ⟨a, b, c, ?_, h1⟩
  have : p ≠ r := fun z => by rw [z, hr] at e; cases e
  rw [setO_ne this]; exact e
/-- a number from 0 to n - 1 is drawn; nothing else changes -/
def f_take : DF := fun ds O q _ => ∃ p n m, ds = [.ref p, .int n] ∧ Bag O p m ∧ m < 2 ^ 40 ∧ 0 < n ∧ n < 2 ^ 30 ∧ ∀ r o, 0 ≤ r → r < n → Bag (setO O p o) p (m + 1) → q (.int r) (setO O p o)
/-- a new bag of a cell of the script -/
def f_bag : DF := fun ds O q _ => ∃ (ns : List Int) (at_ : Int), ds = [.lst (ns.map D.int), .int at_] ∧ 0 ≤ at_ ∧ at_ < 1000 ∧ ∀ p o, O p = none → Bag (setO O p o) p 0 → q (.ref p) (setO O p o)
end DL
set_option linter.all false
namespace DL
open PySem PySem.Spec PyProof.Rows L2
def shw (d : D) : Str := (py d).shown
def shwOk (d : D) : Bool := pd d && (py d).showable && decide ((py d).depth ≤ 64) && decide ((py d).shown.length ≤ 16777216) && (PyData.str (shw d)).canLay0
theorem i_neStr {O : Ow} {q : DQ} {a b : Str} (h : a = b) (ha : (PyData.str a).canLay0 = true) (hq : q (.bl false) O) : dNe (.str a) (.str b) O q := by
  subst h
  refine ⟨_, _, asP_pd (by simp [pd]), asP_pd (by simp [pd]), ?_, ?_, ?_⟩
  · simp only [SeqAt.shaped, py, PyData.depth, ha]; decide
  · simp only [SeqAt.shaped, py, PyData.depth, ha]; decide
  · have : PyData.eqv (py (.str a)) (py (.str a)) = true := by simp [py, PyData.eqv]
    rw [this]
    exact hq
end DL
set_option Elab.async false
set_option linter.all false
set_option maxRecDepth 100000
set_option maxHeartbeats 4000000
namespace DL
open PySem PySem.Spec PyProof.Rows L2
theorem walk_GE {l : PySem.W.OpenLaw} {n k : Nat} {q : Program} {loose : List Str} {XP : (Str → Option Value) → Heap → Prop} {YP : World → Heap → Prop} {d : DefRec} {x : Str} {fn : DF}
    (hn : l.most = some n) (hn2 : n ≤ sizeLine) (hdf : d.params.defaults = []) (hr : Room k callerA)
    (F : ∀ (w : World) (mg : Str → Option Value) (fa : Addr) (h : Heap), YP w h → h.Ns mainGlobals mg → mg d.name = some (.ref fa) →
      ∃ (K : PySem.W.Frag) (fd : FuncData), K.In h ∧ (∀ (s : Shared) (u : Value), BindsTo s fd ⟨[u], []⟩ [(x, u)]) ∧ ∀ base : Heap, K.In base → base.Ns mainGlobals mg → FnG l.prog w K mg base (L2.CX l.prog w) k fa fd [x] (spD K 1 fn))
    (hfn : ∀ ns : List Int, ns.length ≤ n → (∀ k ∈ ns, Builtin.Int.intBits k ≤ 1048576) → fn [.lst (ns.map D.int)] (fun _ => none) (fun d _ => d = .bl true) (fun _ _ _ => False)) :
    PySem.W.WalkO q loose XP YP l.row.toRowW d [] (fun f vs => PySem.call f vs) := by
  refine Att.attach_callB hn hdf fun w s₀ s₁ mg mb fa o pm cd doc a vs ns G Y ho hd hcd hmg hobj hints hlen hbits hg => ?_
  obtain ⟨K, fd, KX, hb, hF⟩ := F w mg fa _ Y G.T.g hmg
  exact law_G KX G.T.g G.T.b G.T.builtins G.T.nolimit hg hobj hints (Nat.le_trans hlen hn2) hr hF hb (hfn ns hlen hbits)
end DL
set_option Elab.async false
set_option linter.all false
set_option maxRecDepth 100000
set_option maxHeartbeats 4000000
namespace DL
open PySem PySem.Spec PyProof.Rows L2
section
variable {X : Cx} {B : Bd} {pos : Pos} {k : Nat} {wx : DW} {e : Expr} {p : Pos}
def delO (O : Ow) (p : Addr) : Ow := fun b => if b = p then none else O b
theorem delO_ne {O : Ow} {p r : Addr} (h : r ≠ p) : delO O p r = O r := if_neg h
def iceK (q : DQ) : DQ := fun d O1 => match d with
  | .ref p => ∃ ds, O1 p = some (.lst ds) ∧ q (.lst ds) (delO O1 p)
  | .lst ds => q (.lst ds) O1
  | _ => False
def dIce (t : DTE) : DTE := fun env O q => t env O (iceK q)
theorem i_ice {t : DTE} {env : Env} {O : Ow} {q : DQ} (h : t env O (iceK q)) : dIce t env O q := h
theorem i_iceK {O : Ow} {q : DQ} {p : Addr} {ds : List D} (e : O p = some (.lst ds)) (h : q (.lst ds) (delO O p)) : iceK q (.ref p) O := ⟨ds, e, h⟩
theorem i_iceL {O : Ow} {q : DQ} {ds : List D} (h : q (.lst ds) O) : iceK q (.lst ds) O := h
def tyN (O : Ow) : D → Option String
  | .non => some "NoneType"
  | .bl _ => some "bool"
  | .int _ => some "int"
  | .str _ => some "str"
  | .lst _ => some "list"
  | .tup _ => some "tuple"
  | .ref p => match O p with
    | some (.lst _) => some "list"
    | some (.dK _) => some "dict"
    | some (.dT _) => some "dict"
    | _ => none
  | .ty _ => none
  | .ins _ _ _ => none
def kitT (a n : String) : Bool := a == n || (a == "bool" && n == "int")
def dIsi : List D → Ow → DQ → Prop := fun ds O q => match ds with
  | [x, .ty n] => ∃ a, tyN O x = some a ∧ n ∈ ["str", "int", "bool", "tuple", "list", "dict"] ∧ q (.bl (kitT a n)) O
  | _ => False
theorem bt_isi : bootBuiltins "isinstance" = some (.builtin "isinstance") := by decide +kernel
/-- a built-in type by its name -/
theorem so_ty {x : Str} {n : String} (hg : Gl X x) (hm : X.mg x = none) (hv : bootBuiltins x = some (.type n) := by decide +kernel) (hn : x ≠ "__name__" := by decide) (hd : (x == ("__debug__" : Str)) = false := by decide) : PE X (.Name x pos) (lift B (dC (.ty n))) :=
  de_con (pe_bltn hg hm hv (v := .ty n) rfl hn hd) fun _ => .ty n
theorem i_isi {O : Ow} {q : DQ} {x : D} {n a : String} {b : Bool} (e : tyN O x = some a) (hn : ["str", "int", "bool", "tuple", "list", "dict"].contains n = true) (hb : kitT a n = b) (h : q (.bl b) O) : dIsi [x, .ty n] O q :=
  ⟨a, e, by simpa using hn, hb ▸ h⟩
end
end DL
set_option Elab.async false
set_option linter.all false
set_option maxRecDepth 100000
set_option maxHeartbeats 4000000
namespace DL
open PySem PySem.Spec PyProof.Rows L2
def putD (f : Str) (v : D) : List (Str × D) → List (Str × D)
  | [] => [(f, v)]
  | (g, x) :: r => if g = f then (g, v) :: r else (g, x) :: putD f v r
theorem RKV.put {K : Frag} {F : Hp} {f : Str} {d : D} {v : V} (r : RV K F d v) : ∀ {l : List (Str × D)} {m : List (Str × V)}, RKV K F l m → RKV K F (putD f d l) (putF f v m)
  | _, _, .nil => .cons ⟨rfl, r⟩ .nil
  | (g, x) :: l, (g', y) :: m, .cons h t => by
    obtain ⟨h1, h2⟩ := h
    simp only at h1
    subst h1
    unfold putD putF
    by_cases hg : g = f
    · rw [if_pos hg, if_pos hg]; exact .cons ⟨rfl, r⟩ t
    · rw [if_neg hg, if_neg hg]; exact .cons ⟨rfl, h2⟩ (RKV.put r t)
theorem RKV.len {κ : Type} {K : Frag} {F : Hp} : ∀ {l : List (κ × D)} {m : List (κ × V)}, RKV K F l m → l.length = m.length
  | _, _, .nil => rfl
  | _, _, .cons _ t => congrArg (· + 1) (RKV.len t)
section
variable {X : Cx} {B : Bd} {pos : Pos} {k : Nat} {wx : DW} {e o value : Expr} {es : List Expr} {p pos' : Pos} {C : Addr} {f : Str} {ta tv : DTE} {env : Env} {O : Ow} {q : DQ} {E : DEnds}
/-- an instance of C: one's own, or data -/
def InsAt (C : Addr) (O : Ow) : D → List (Str × D) → Prop
  | .ref p, fs => ∃ dx, O p = some (.ins C dx fs)
  | .ins C' ns ds, fs => C' = C ∧ fs = ns.zip ds
  | _, _ => False
theorem rkv_zip {K : Frag} {F : Hp} : ∀ {ns : List Str} {ds : List D} {vs : List V}, RVs K F ds vs → RKV K F (ns.zip ds) (ns.zip vs)
  | [], _, _, _ => by simp only [List.zip_nil_left]; exact .nil
  | _ :: _, _, _, .nil => .nil
  | _ :: ns, _, _, .cons h t => .cons ⟨rfl, h⟩ (rkv_zip (ns := ns) t)
theorem InsAt.ok {K : Frag} {C : Addr} {O : Ow} {H F : Hp} (fh : Same F H) (ow : OwOk K O H F) {d : D} {v : V} {fs : List (Str × D)} (r : RV K F d v) (h : InsAt C O d fs) : ∃ a dx gs, v = .ref a ∧ H a = some (.ins C dx gs) ∧ RKV K F fs gs := by
  cases d <;> try exact h.elim
  · rename_i p
    obtain ⟨dx, e⟩ := h
    cases r
    obtain ⟨_, ho, e3, gs, rfl, rk⟩ := ow _ _ e
    exact ⟨_, dx, gs, rfl, e3, rk⟩
  · obtain ⟨rfl, rfl⟩ := h
    cases r with
    | ins e l hs => exact ⟨_, _, _, rfl, fh _ _ e, rkv_zip hs⟩
def fldK (C : Addr) (f : Str) (q : DQ) : DQ := fun x O1 => ∃ fs d, InsAt C O1 x fs ∧ fs.lookup f = some d ∧ q d O1
def dFld (C : Addr) (f : Str) (ta : DTE) : DTE := fun env O q => ta env O (fldK C f q)
theorem i_fld (h : ta env O (fldK C f q)) : dFld C f ta env O q := h
theorem i_fldK {p dx : Addr} {fs : List (Str × D)} {d : D} (e1 : O p = some (.ins C dx fs)) (e2 : fs.lookup f = some d) (h : q d O) : fldK C f q (.ref p) O := ⟨fs, d, ⟨dx, e1⟩, e2, h⟩
theorem i_fldI {ns : List Str} {ds : List D} {d : D} (e2 : (ns.zip ds).lookup f = some d) (h : q d O) : fldK C f q (.ins C ns ds) O := ⟨_, d, ⟨rfl, rfl⟩, e2, h⟩
/-- self.f = v -/
def setfK (C : Addr) (f : Str) (y : D) (E : DEnds) (env : Env) : DQ := fun x O2 => match x with
  | .ref p => ∃ dx fs, O2 p = some (.ins C dx fs) ∧ fs.length < 1000 ∧ E.nx env (setO O2 p (.ins C dx (putD f y fs)))
  | _ => False
def dsFld (C : Addr) (f : Str) (ta tv : DTE) : DTS := fun E env O => tv env O fun y O1 => ta env O1 (setfK C f y E env)
theorem i_sfld (h : tv env O fun y O1 => ta env O1 (setfK C f y E env)) : dsFld C f ta tv E env O := h
end
section
variable {X : Cx} {B : Bd} {pos : Pos} {C f : Addr} {fd : FuncData} {ps : List Str} {k n : Nat}
def dMake (C : Addr) (fn : DF) (n : Nat) (w : DW) (dds : List D) (ta : DTA) : DTE := fun env O q => ta env O fun ds O1 => (ds ++ dds).length + 1 = n ∧ ∀ x dx, O1 x = none → O1 dx = none → dx ≠ x →
  fn (.ref x :: (ds ++ dds)) (setO O1 x (.ins C dx [])) (fun d O2 => d = .non ∧ q (.ref x) O2) fun c fs O' => w c fs env O'
/-- the dict of a new instance: nobody's own, it stands -/
theorem Rel.junk {env : Env} {O : Ow} {σ : St} {H F : Hp} (R : Rel B env O σ H F) {p : Addr} (h : H p = none) (o : HO) : After B.K O H F O (upd H p o) F := by
  obtain ⟨hO, hF⟩ := R.free h
  refine ⟨Same.refl _, fun b x e => by rw [upd_ne (ne_of_none e hF)]; exact R.fh b x e, fun b x e _ => .inl (by rw [upd_ne (ne_of_none e h)]; exact e), fun _ _ _ e => e, fun q x e => ?_, fun q x e => .inl (by rw [e]; simp), fun _ _ t => tabs_new t h⟩
  have hq : q ≠ p := fun z => by rw [z, hO] at e; cases e
  obtain ⟨h1, ho, h3, h4⟩ := R.ow q x e
  exact ⟨h1, ho, by rw [upd_ne hq]; exact h3, h4⟩
theorem i_make {fn : DF} {w : DW} {dds : List D} {ta : DTA} {env : Env} {O : Ow} {q : DQ} (h : ta env O fun ds O1 => (ds ++ dds).length + 1 = n ∧ ∀ x dx, O1 x = none → O1 dx = none → dx ≠ x →
  fn (.ref x :: (ds ++ dds)) (setO O1 x (.ins C dx [])) (fun d O2 => d = .non ∧ q (.ref x) O2) fun c fs O' => w c fs env O') : dMake C fn n w dds ta env O q := h
end
end DL
set_option Elab.async false
set_option linter.all false
set_option maxRecDepth 100000
set_option maxHeartbeats 4000000
namespace DL
open PySem PySem.Spec PyProof.Rows L2
theorem enum1_new {v : Value} {o : Obj} {Hh : Heap → Prop} (Bg : Begins v o Hh) :
    Meets (Builtin.«enumerate.__new__» ⟨[.type "enumerate", v], []⟩) (fun _ R s => Hh s.heap ∧
      R (.ok (.ret (.ref (s.heap.push o).objs.size))) { s with heap := (s.heap.push o).push { cls := .type "enumerate", data := .fields #[.none, .bool false, .ref s.heap.objs.size, rawInt 0, .none, .none] } }) :=
  .of_wp fun prog w A R s z => by
    obtain ⟨hp, g, d, tk, os⟩ := s
    obtain ⟨z1, z⟩ := z
    have hsub := sub_enumerate
    have q1 : ∀ {A' : Around} {E : Value → Shared → Prop} {Q : Value → Shared → Prop}, Q (.ref hp.objs.size) ⟨hp.push o, g, d, tk, os⟩ → wpAny (model prog w) A' (pyIter v) Q E ⟨hp, g, d, tk, os⟩ :=
      fun y => Bg.iter prog w _ _ ⟨hp, g, d, tk, os⟩ _ z1 y
    wp_walk using q1
    refine wpAny_stack_any fun st => wpAny_pure ?_
    split
    · rename_i c _ _ _ _ _
      cases (c == Value.type "enumerate")
      · wp_walk using q1
        exact ⟨_, rfl, z⟩
      · wp_walk using q1
        exact ⟨_, rfl, z⟩
    · wp_walk using q1
      exact ⟨_, rfl, z⟩
theorem enum1 {prog : Program} {w : World} {A : Around} {E : Value → Shared → Prop} {s : Shared} {v : Value} {o : Obj} {Hh : Heap → Prop} {Q : Value → Shared → Prop} (Bg : Begins v o Hh) (h1 : Hh s.heap)
    (h : ∀ h', IsEnum h' (s.heap.objs.size + 1) s.heap.objs.size 0 .none → h'.get? s.heap.objs.size = some o → (∀ b u, s.heap.get? b = some u → h'.get? b = some u) → Q (.ref (s.heap.objs.size + 1)) { s with heap := h' }) :
    wpAny (model prog w) A (call (.type "enumerate") [v]) Q E s := by
  refine callType_new F.called_enumerate (by decide) (F.typeCall_enumerate_1 _) (F.newCall_enumerate_1 _) (fun obj => F.args_object_init_2 obj _) F.entry_enumerate_new (enum1_new Bg) ⟨h1, ?_⟩
  have sz : (s.heap.push o).objs.size = s.heap.objs.size + 1 := Heap.size_push ..
  show _ ∧ _
  rw [sz]
  have en : IsEnum ((s.heap.push o).push { cls := .type "enumerate", data := .fields #[.none, .bool false, .ref s.heap.objs.size, rawInt 0, .none, .none] }) (s.heap.objs.size + 1) s.heap.objs.size 0 .none := by
    have y := Heap.get?_push_size (s.heap.push o) (o := { cls := .type "enumerate", data := .fields #[.none, .bool false, .ref s.heap.objs.size, rawInt 0, .none, .none] }) rfl
    rw [sz] at y
    exact y
  exact ⟨⟨_, en, rfl⟩, h _ en (Heap.get?_push_of_some _ (Heap.get?_push_size _ Bg.free)) fun b u x => Heap.get?_push_of_some _ (Heap.get?_push_of_some _ x)⟩
/-- the tuple at a, each item in a new pair -/
def IteT (K : Frag) (a : Addr) : It :=
  ⟨fun i H => ∃ (xs : List V) (x : V), SqT K H a xs ∧ xs[i]? = some x, fun i H v H' => ∃ T x, v = .ref T ∧ H T = none ∧ (∃ o : Obj, o.dict = none ∧ H' = upd H T (.frz o (.tup [.int (i : Nat), x]))) ∧ ∀ xs, SqT K H a xs → xs[i]? = some x, fun i H => ∃ xs : List V, SqT K H a xs ∧ xs.length = i⟩
theorem turn_enumT {P : Program} {w : World} {K : Frag} {elts : List Expr} {kk : Nat} {tpos : Pos} (a e it : Addr) (hai : a ≠ it) (hae : a ≠ e) :
    Turn P w K (.Tuple elts kk tpos) (IteT K a) [e, it] e (fun i h => (∃ old, IsEnum h e it ((i : Nat) : Int) old) ∧ h.IsTupleIter it a i ∧ e ≠ it) where
  mem := by simp
  obj := fun i h st b hb => by
    obtain ⟨⟨old, he⟩, ⟨o, ho, hc, hd⟩, _⟩ := st
    have e' : b = e ∨ b = it := by simpa using hb
    rcases e' with z | z
    · rw [z]; exact ⟨_, he, fun v q => nomatch q⟩
    · rw [z]; exact ⟨o, ho, fun v q => by rw [hd] at q; cases q⟩
  keep := fun i h h' st k => let ⟨⟨old, he⟩, hi, hne⟩ := st; ⟨⟨old, k e (by simp) _ he⟩, hi.at fun o q => k it (by simp) o q, hne⟩
  item := by
    intro X hP hw hK hc i pins s σ H E I hf st hg
    subst hP hw hK
    obtain ⟨⟨old, he⟩, hit, hne⟩ := st
    obtain ⟨xs, x, hq, hx⟩ := hg
    obtain ⟨its, rv, p, hz⟩ := I.tuple hq
    obtain ⟨u, hu, ru⟩ := rv.get hx
    have l1 : e < s.heap.objs.size := Heap.lt_size he
    have l2 : it < s.heap.objs.size := by obtain ⟨_, q, _⟩ := hit; exact Heap.lt_size q
    have hlt : i < its.toArray.size := by
      have := (List.getElem?_eq_some_iff.mp hu).1
      simpa using this
    have hef : e ∉ [it, a] := by simp [hne, Ne.symm hae]
    refine wpAny_pyNext_enum_itemD (Draws.tuple (A := X.A.in1) (I.ok.hd hc) it a hai its.toArray) he ⟨hit, p⟩ hlt hne hef fun y h' tk hy ho st' hT hsz hk => ?_
    have ey : y = u := by
      have : its[i]? = some y := by simpa using hy
      rw [hu] at this
      exact (Option.some.inj this).symm
    subst ey
    refine ⟨_, rfl, wpAny_letOwnedTupleGo_enum (s := { s with heap := h', toks := tk + 1 }) ho fun h'' he' sb => ?_⟩
    have hT2 : h''.get? s.heap.objs.size = some { cls := .type "tuple", data := .seq #[.int i tk, y] } := (sb.2 _ (Nat.ne_of_gt l1)).trans hT
    have new : ObjOk X.prog X.w (upd H s.heap.objs.size (.frz { cls := .type "tuple", data := .seq #[.int i tk, y] } (.tup [.int (i : Nat), x]))) h'' s.heap.objs.size (.frz { cls := .type "tuple", data := .seq #[.int i tk, y] } (.tup [.int (i : Nat), x])) :=
      ⟨hT2, by show 2 ≤ sizeLine; decide, [.int i tk, y], .cons ⟨_, rfl⟩ (.cons ru .nil), ⟨_, hT2, rfl, _, rfl⟩⟩
    have I1 : Inv X pins σ (upd H s.heap.objs.size (.frz { cls := .type "tuple", data := .seq #[.int i tk, y] } (.tup [.int (i : Nat), x]))) { s with heap := h'', toks := tk + 1 } :=
      I.turnedNew (ch := [e, it]) (fun b ob hb q => (sb.2 b (fun z => hb (by simp [z]))).trans (hk b ob (fun z => hb (by simp [z])) (fun z => hb (by simp [z])) q)) hf (Nat.le_refl _) new
    refine ⟨.ref s.heap.objs.size, _, I1, rfl, ⟨_, x, rfl, I.hok.fresh (Nat.le_refl _), ⟨_, rfl, rfl⟩, fun ys hy => by rw [I.tuple_inj hy hq]; exact hx⟩, ⟨⟨y, ?_⟩, st'.1.at fun o q => (sb.2 it (Ne.symm hne)).trans q, hne⟩, fun b hb => ?_⟩
    · have e1 : ((i + 1 : Nat) : Int) = (i : Int) + 1 := by omega
      rw [e1]; exact he'
    · have hb' : b < s.heap.objs.size := by
        have e' : b = e ∨ b = it := by simpa using hb
        rcases e' with z | z
        · rw [z]; exact l1
        · rw [z]; exact l2
      rw [upd_ne (Nat.ne_of_lt hb')]
      exact (hf b hb).1
  done := by
    intro X hP hw hK hc i pins s σ H E I hf st hg
    subst hP hw hK
    obtain ⟨⟨old, he⟩, hit, hne⟩ := st
    obtain ⟨xs, hq, hx⟩ := hg
    obtain ⟨its, rv, p, hz⟩ := I.tuple hq
    obtain ⟨f0, f1, f2, f3, f4, f5⟩ := hf it (by simp)
    have hl := rv.length
    have hi : i = its.toArray.size := by rw [List.size_toArray, ← hl, hx]
    subst hi
    exact wpAny_pyNext_enum_endD (Draws.tuple (A := X.A.in1) (I.ok.hd hc) it a hai its.toArray) he ⟨hit, p⟩ fun h' eb => ⟨rfl, I.turned (t' := s.toks) (fun b o hb q => eb b o hb q) f0 f1 f3 f4 f5⟩
  self := fun A i s Q E st h => let ⟨⟨_, he⟩, _⟩ := st; wpAny_pyIter_enum he h
/-- the list at a as it stands at each turn, each item in a new pair, told as it stands -/
def IteL (K : Frag) (a : Addr) : It :=
  ⟨fun i H => ∃ (xs : List V) (x : V), SqL K H a xs ∧ xs[i]? = some x, fun i H v H' => ∃ T x, v = .ref T ∧ H T = none ∧ (∃ o : Obj, o.dict = none ∧ H' = upd H T (.frz o (.tup [.int (i : Nat), x]))) ∧ ∀ xs, SqL K H a xs → xs[i]? = some x, fun i H => ∃ xs : List V, SqL K H a xs ∧ xs.length ≤ i⟩
theorem turn_enumL {P : Program} {w : World} {K : Frag} {elts : List Expr} {kk : Nat} {tpos : Pos} (a e it : Addr) :
    Turn P w K (.Tuple elts kk tpos) (IteL K a) [e, it] e (fun i h => (∃ old, IsEnum h e it ((i : Nat) : Int) old) ∧ h.IsListIter it a i ∧ e ≠ it) where
  mem := (turn_enum (P := P) (w := w) (K := K) (elts := elts) (kk := kk) (tpos := tpos) a e it).mem
  obj := (turn_enum (P := P) (w := w) (K := K) (elts := elts) (kk := kk) (tpos := tpos) a e it).obj
  keep := (turn_enum (P := P) (w := w) (K := K) (elts := elts) (kk := kk) (tpos := tpos) a e it).keep
  item := by
    intro X hP hw hK hc i pins s σ H E I hf st hg
    subst hP hw hK
    obtain ⟨⟨old, he⟩, hit, hne⟩ := st
    obtain ⟨xs, x, hq, hx⟩ := hg
    obtain ⟨vs, rv, pl, _⟩ := I.list hq
    obtain ⟨y, hy, ry⟩ := rv.get hx
    have l1 : e < s.heap.objs.size := Heap.lt_size he
    have l2 : it < s.heap.objs.size := by obtain ⟨_, q, _⟩ := hit; exact Heap.lt_size q
    have lb : ∀ b ∈ [e, it], b < s.heap.objs.size := fun b hb => by
      rcases List.mem_cons.mp hb with z | z
      · rw [z]; exact l1
      · rw [List.mem_singleton.mp z]; exact l2
    refine wpAny_pyNext_enum_item he hit pl.isList (x := y) (by simpa using hy) hne fun h1 ho st1 hT _ hk => ⟨_, rfl, ?_⟩
    refine wpAny_letOwnedTupleGo_enum (s := { s with heap := h1, toks := s.toks + 1 }) ho fun h2 he2 sb => ?_
    have hT2 : h2.get? s.heap.objs.size = some { cls := .type "tuple", data := .seq #[.int i s.toks, y] } := (sb.2 _ (Nat.ne_of_gt l1)).trans hT
    have new : ObjOk X.prog X.w (upd H s.heap.objs.size (.frz { cls := .type "tuple", data := .seq #[.int i s.toks, y] } (.tup [.int (i : Nat), x]))) h2 s.heap.objs.size (.frz { cls := .type "tuple", data := .seq #[.int i s.toks, y] } (.tup [.int (i : Nat), x])) :=
      ⟨hT2, by show 2 ≤ sizeLine; decide, [.int i s.toks, y], .cons ⟨_, rfl⟩ (.cons ry .nil), ⟨_, hT2, rfl, _, rfl⟩⟩
    have I1 := I.turnedNew (t' := s.toks + 1) (ch := [e, it]) (fun b ob hb q => (sb.2 b (fun z => hb (by simp [z]))).trans (hk b ob (fun z => hb (by simp [z])) (fun z => hb (by simp [z])) q)) hf (Nat.le_refl _) new
    have ei : ((i + 1 : Nat) : Int) = (i : Int) + 1 := by omega
    refine ⟨.ref s.heap.objs.size, _, I1, rfl, ⟨_, x, rfl, I.hok.fresh (Nat.le_refl _), ⟨_, rfl, rfl⟩, fun ys hy => by rw [I.list_inj hy hq]; exact hx⟩, ⟨⟨y, by rw [ei]; exact he2⟩, st1.at fun o q => (sb.2 it (Ne.symm hne)).trans q, hne⟩, fun b hb => ?_⟩
    rw [upd_ne (Nat.ne_of_lt (lb b hb))]
    exact (hf b hb).1
  done := (turn_enum (P := P) (w := w) (K := K) (elts := elts) (kk := kk) (tpos := tpos) a e it).done
  self := (turn_enum (P := P) (w := w) (K := K) (elts := elts) (kk := kk) (tpos := tpos) a e it).self
/-- enumerate(x), x a list or a tuple -/
def iEnumS (K : Frag) (ta : TA) : TI := fun σ H R => ta σ H fun vs H1 => ∃ a, vs = [.ref a] ∧ (((∃ xs, SqL K H1 a xs) ∧ R (IteL K a) H1) ∨ ((∃ xs, SqT K H1 a xs) ∧ R (IteT K a) H1))
section
variable {X : Cx} {B : Bd} {k : Nat} {wx : DW}
theorem pi_enumS {e : Expr} {ta : TA} {p pos tpos : Pos} {elts : List Expr} {kk : Nat} (hg : Gl X "enumerate") (hm : X.mg "enumerate" = none) (ha : PA X [e] ta) (hs : starEach [e] X.env = [(false, eval e X.env)] := by rfl) :
    PI X (.Tuple elts kk tpos) (.Call (.Name "enumerate" p) [e] [] pos) (iEnumS X.K ta) := by
  refine ⟨fun pins s σ H R I h => ?_⟩
  refine Call_ (ld_blt I hg hm boot_enumerate (PyProof.Rows.callWith_type1 (thn (ha.run pos pins s σ H _ I h) fun us s1 ⟨vs, H1, I1, r1, q1⟩ => ?_) hs rfl))
  obtain ⟨a, ex, q1⟩ := q1
  subst ex
  cases r1 with
  | cons r rr =>
    cases rr
    cases r
    have fps : ∀ b ∈ [s1.heap.objs.size + 1, s1.heap.objs.size], FpOk X pins H1 b := fun b hb => by
      have e' : b = s1.heap.objs.size + 1 ∨ b = s1.heap.objs.size := by simpa using hb
      have hle : s1.heap.objs.size ≤ b := by
        rcases e' with z | z
        · rw [z]; exact Nat.le_add_right _ _
        · rw [z]; exact Nat.le_refl _
      exact I1.fpOk hle (I1.hok.fresh hle)
    rcases q1 with ⟨⟨xs, hq⟩, q⟩ | ⟨⟨xs, hq⟩, q⟩
    · obtain ⟨its, rv, p', hz⟩ := I1.list hq
      refine call_enumerate_list p'.isList fun h' he hit hsz hk => wpAny_pyIter_enum he ?_
      exact ⟨s1.heap.objs.size + 1, [s1.heap.objs.size + 1, s1.heap.objs.size], _, _, H1, rfl, I1.kept (t' := s1.toks) hk, turn_enumL a (s1.heap.objs.size + 1) s1.heap.objs.size, ⟨⟨.none, he⟩, hit, Nat.succ_ne_self _⟩, fps, q⟩
    · obtain ⟨its, rv, p', hz⟩ := I1.tuple hq
      have hal : a < s1.heap.objs.size := by obtain ⟨_, y, _⟩ := p'; exact Heap.lt_size y
      refine enum1 (begins_tuple a its.toArray) p' fun h' he hit hk => wpAny_pyIter_enum he ?_
      exact ⟨s1.heap.objs.size + 1, [s1.heap.objs.size + 1, s1.heap.objs.size], _, _, H1, rfl, I1.kept (t' := s1.toks) hk, turn_enumT a (s1.heap.objs.size + 1) s1.heap.objs.size (Nat.ne_of_lt hal) (Nat.ne_of_lt (Nat.lt_succ_of_lt hal)), ⟨⟨.none, he⟩, ⟨_, hit, rfl, rfl⟩, Nat.succ_ne_self _⟩, fps, q⟩
/-- the pairs -/
def enumD (ds : List D) : List D := (List.range ds.length).zipWith (fun i d => D.tup [.int (i : Nat), d]) ds
theorem enumD_get (ds : List D) (i : Nat) : (enumD ds)[i]? = (ds[i]?).map fun d => D.tup [.int (i : Nat), d] := by
  unfold enumD
  rw [List.getElem?_zipWith]
  by_cases h : i < ds.length
  · rw [List.getElem?_range h]
    cases ds[i]? <;> rfl
  · have h' : ds[i]? = none := List.getElem?_eq_none (Nat.le_of_not_lt h)
    rw [h']
    cases (List.range ds.length)[i]? <;> rfl
theorem enumD_len (ds : List D) : (enumD ds).length = ds.length := by simp [enumD]
def diEnum (ta : DTE) : DTI := fun env O q => ta env O fun d O1 => match d with
  | .tup ds => q (enumD ds) (fun _ => True) O1
  | d => ∃ ds, asL O1 d = some ds ∧ q (enumD ds) (gdL O1 d) O1
theorem di_enum {e : Expr} {te : DTE} {p pos tpos : Pos} {elts : List Expr} {kk : Nat} (S : Site X B k wx) (hg : Gl X "enumerate") (hm : X.mg "enumerate" = none) (h : PE X e (lift B te)) (hs : starEach [e] X.env = [(false, eval e X.env)] := by rfl) :
    PI X (.Tuple elts kk tpos) (.Call (.Name "enumerate" p) [e] [] pos) (liftI B (diEnum te)) := PI.weak (pi_enumS hg hm (da_cons h da_nil hs) hs) fun σ H R hh => by
  have hK := S.hK
  obtain ⟨env, O, F, q, R0, hh, kk⟩ := hh
  refine ⟨env, O, F, fun ds O1 => match ds with
    | [d] => (match d with
      | .tup ds => q (enumD ds) (fun _ => True) O1
      | d => ∃ ds, asL O1 d = some ds ∧ q (enumD ds) (gdL O1 d) O1)
    | _ => False, R0, hh, fun ds vs O1 H1 F1 a1 r1 h1 => ?_⟩
  have laid : ∀ (O2 : Ow) (H2 F2 : Hp) (T : Addr) (i : Nat) (d : D) (x : V) (o : Obj), Same F2 H2 → OwOk B.K O2 H2 F2 → H2 T = none → o.dict = none → RV B.K F2 d x →
      ∃ F3, After B.K O2 H2 F2 O2 (upd H2 T (.frz o (.tup [.int (i : Nat), x]))) F3 ∧ RV B.K F3 (.tup [.int (i : Nat), d]) (.ref T) := fun O2 H2 F2 T i d x o fh ow hT hd r => by
    have R2 : Rel ⟨B.K, O2, H2, F2⟩ [] O2 [] H2 F2 := ⟨.rfl' fh ow, rfl, fun j d e => by cases e⟩
    have a := R2.froz hT (.frz o (.tup [.int (i : Nat), x]))
    exact ⟨_, a, .tup (SqN.new hd) (.cons (.int _) (.cons (r.mono a.ff) .nil))⟩
  match ds, r1, h1 with
  | [d], r1, h1 =>
    obtain ⟨v, rfl, rd⟩ := r1.one
    have hL : (∃ ds, asL O1 d = some ds ∧ q (enumD ds) (gdL O1 d) O1) → ∃ a, [v] = [V.ref a] ∧ (((∃ xs, SqL X.K H1 a xs) ∧ R (IteL X.K a) H1) ∨ ((∃ xs, SqT X.K H1 a xs) ∧ R (IteT X.K a) H1)) := by
      rintro ⟨ds, e, h1⟩
      obtain ⟨a, xs, rfl, hs, hr⟩ := asL_sq a1.fh a1.ow rd e
      refine ⟨a, rfl, .inl ⟨⟨xs, by rw [hK]; exact hs⟩, kk _ _ O1 H1 F1 _ a1 ?_ h1⟩⟩
      intro O2 H2 F2 i s2 fh2 ow2 gd
      obtain ⟨a', ys, e', hs', hr'⟩ := asL_sq fh2 ow2 (rd.mono s2) (asL_gd e gd)
      cases e'
      rw [hK]
      refine ⟨fun x hx => ?_, fun hi => ⟨ys, hs', by rw [hi, enumD_len, hr'.length]; exact Nat.le_refl _⟩⟩
      rw [enumD_get] at hx
      cases hd : ds[i]? with
      | none => rw [hd] at hx; cases hx
      | some d' =>
        rw [hd] at hx
        cases hx
        obtain ⟨v', e1, r'⟩ := hr'.get hd
        refine ⟨⟨ys, v', hs', e1⟩, fun v H3 hy => ?_⟩
        obtain ⟨T, x, rfl, hT, ⟨o, hd, rfl⟩, hy⟩ := hy
        obtain rfl : x = v' := Option.some.inj ((hy ys hs').symm.trans e1)
        exact laid O2 H2 F2 T i d' x o fh2 ow2 hT hd r'
    cases d <;> simp only at h1 <;> try exact hL h1
    rename_i ds0
    cases rd with
    | @tup a xs _ hs hr =>
      refine ⟨a, rfl, .inr ⟨⟨xs, by rw [hK]; exact same_tup a1.fh hs⟩, kk _ _ O1 H1 F1 _ a1 ?_ h1⟩⟩
      intro O2 H2 F2 i s2 fh2 ow2 _
      have hs' : SqT B.K H2 a xs := same_tup (s2.trans fh2) hs
      rw [hK]
      refine ⟨fun x hx => ?_, fun hi => ⟨xs, hs', by rw [hi, enumD_len, hr.length]⟩⟩
      rw [enumD_get] at hx
      cases hd : ds0[i]? with
      | none => rw [hd] at hx; cases hx
      | some d' =>
        rw [hd] at hx
        cases hx
        obtain ⟨v', e1, r'⟩ := hr.get hd
        refine ⟨⟨xs, v', hs', e1⟩, fun v H3 hy => ?_⟩
        obtain ⟨T, x, rfl, hT, ⟨o, hd, rfl⟩, hy⟩ := hy
        obtain rfl : x = v' := Option.some.inj ((hy xs hs').symm.trans e1)
        exact laid O2 H2 F2 T i d' x o fh2 ow2 hT hd (r'.mono s2)
def dPar3 (i j l : Nat) (ta : DTA) : DTS := fun E env O => ta env O fun ds O1 => match ds with | [d, e, f] => E.nx (((env.set i (some d)).set j (some e)).set l (some f)) O1 | _ => False
end
end DL
set_option Elab.async false
set_option linter.all false
set_option maxRecDepth 100000
set_option maxHeartbeats 4000000
namespace DL
open PySem PySem.Spec PyProof.Rows L2
open ClX (CRead CVal pe_cval tCVal)
section
variable {X : Cx} {B : Bd} {pos : Pos} {k n : Nat} {wx : DW}
def dCallK0 (fn : DF) (n l : Nat) (w : DW) (gD : List D → List D) (tb : DTA) : DTE := fun env O q => tb env O fun es O1 => es.length = l ∧ (gD es).length = n ∧ fn (gD es) O1 q fun c fs O' => w c fs env O'
theorem i_callK0 {fn : DF} {l : Nat} {w : DW} {gD : List D → List D} {tb : DTA} {env : Env} {O : Ow} {q : DQ} (h : tb env O fun es O1 => es.length = l ∧ (gD es).length = n ∧ fn (gD es) O1 q fun c fs O' => w c fs env O') : dCallK0 fn n l w gD tb env O q := h
def dDsp2 (x y : Str) (i j : Int) (te : DTE) : DTE := fun env O q => te env O fun d O1 => match d with
  | .str z => (z = x ∧ x ≠ y ∧ q (.int i) O1) ∨ (z = y ∧ x ≠ y ∧ q (.int j) O1)
  | _ => False
end
structure DefX where
  adr : Frag → Addr
  d : He.DefD
def fnX (K : Frag) (a : Addr) : He.FnW := match K.lookup a with
  | some ⟨_, _, .func fd, _⟩ => some (fd.name, fd.qualname, fd.params, fd.body, fd.scope, fd.globals, fd.closure, fd.builtins)
  | _ => none
def DefX.ok (K : Frag) (z : DefX) : Bool := PySem.W.keepIn K (.ref (z.adr K)) && (match K.lookup (z.adr K) with
  | some ⟨_, _, .func fd, _⟩ => PySem.W.codeIn K fd.code z.d.qual && (He.dflB K fd.defaults (z.d.dvs K) && He.kwdB K fd.kwdefaults (z.d.kws K))
  | _ => false)
theorem DefX.funD {K : Frag} {z : DefX} (e : fnX K (z.adr K) = z.d.val) (c : z.ok K = true) : ∃ fd, FunD K z.d.name z.d.qual z.d.params z.d.body z.d.scope (z.d.dvs K) (z.d.kws K) (z.adr K) fd := by
  obtain ⟨kp, c2⟩ := Bool.and_eq_true_iff.mp c
  unfold fnX at e
  cases lk : K.lookup (z.adr K) with
  | none => rw [lk] at c2; cases c2
  | some o =>
    obtain ⟨oc, od, dt, osl⟩ := o
    rw [lk] at c2 e
    cases dt with
    | func fd =>
      obtain ⟨m1, m2, m3, m4, m5, m6, m7, m8, m9, m10, m11, m12, m13, m14, m15⟩ := fd
      have e2 : (some (m1, m2, m3, m4, m5, m6, m7, m15) : He.FnW) = some (z.d.name, z.d.qual, z.d.params, .stmts z.d.body, z.d.scope, mainGlobals, [], builtinsNs) := e
      simp only [Option.some.injEq, Prod.mk.injEq] at e2
      obtain ⟨y1, y2, y3, y4, y5, y6, y7, y8⟩ := e2
      subst y1 y2 y3 y4 y5 y6 y7 y8
      obtain ⟨x1, x2⟩ := Bool.and_eq_true_iff.mp (show (PySem.W.codeIn K m13 z.d.qual && (He.dflB K m8 (z.d.dvs K) && He.kwdB K m9 (z.d.kws K))) = true from c2)
      obtain ⟨x3, x4⟩ := Bool.and_eq_true_iff.mp x2
      exact ⟨_, ⟨oc, od, m8, m9, m10, m11, m12, m13, m14, osl, rfl, lk, x1, He.dflB_ok x3, He.kwdB_ok x4⟩, kp⟩
    | _ => cases c2
abbrev Fac := Frag → Bool
def asX (st : List Addr) (g : Addr → Option Obj) : Nat → List Addr
  | 0 => st
  | n + 1 => He.growD g (asX st g n)
def obsX (fa : List Fac) (fn : List DefX) (K : Frag) : He.AlD := ((fa.all fun f => f K) && fn.all fun z => z.ok K, fn.map fun z => fnX K (z.adr K))
def valX (fn : List DefX) : He.AlD := (true, fn.map fun z => z.d.val)
def SaysX (fa : List Fac) (fn : List DefX) (K : Frag) : Prop := obsX fa fn K = valX fn
section
variable {fa : List Fac} {fn : List DefX} {K : Frag}
theorem SaysX.both (c : SaysX fa fn K) : (fa.all fun f => f K) = true ∧ (fn.all fun z => z.ok K) = true := Bool.and_eq_true_iff.mp (congrArg (fun z : He.AlD => z.1) c)
theorem SaysX.fact (c : SaysX fa fn K) (i : Nat) {f : Fac} (h : fa[i]? = some f := by rfl) : f K = true := List.all_eq_true.mp c.both.1 f (List.mem_of_getElem? h)
theorem SaysX.def_ (c : SaysX fa fn K) (i : Nat) {z : DefX} (h : fn[i]? = some z := by rfl) : ∃ fd, FunD K z.d.name z.d.qual z.d.params z.d.body z.d.scope (z.d.dvs K) (z.d.kws K) (z.adr K) fd := by
  have e : (fn.map fun z => fnX K (z.adr K)) = fn.map fun z => z.d.val := congrArg (fun z : He.AlD => z.2) c
  have e2 := congrArg (·[i]?) e
  simp only [List.getElem?_map, h, Option.map_some, Option.some.injEq] at e2
  exact DefX.funD e2 (List.all_eq_true.mp c.both.2 z (List.mem_of_getElem? h))
end
def gloB (x : Str) : Fac := fun K => (He.Fa.glo x).ok K
def freeB (x : Str) : Fac := fun K => (He.Fa.free x).ok K
def noatB (x f : Str) : Fac := fun K => (He.Fa.noat x f).ok K
end DL
set_option Elab.async false
set_option linter.all false
set_option maxRecDepth 100000
set_option maxHeartbeats 4000000
namespace DL
open PySem PySem.Spec PyProof.Rows L2
section
variable {X : Cx} {B : Bd} {pos p : Pos} {k j n : Nat} {wx : DW} {e : Expr} {es : List Expr} {x : Str} {ps : List Str} {fn : DF} {C f : Addr} {fd : FuncData} {tA : DTA}
/-- a module's constant -/
theorem so_gc {v : V} {d : D} (hg : Gl X x) (h : ∃ u, X.mg x = some u ∧ RelV v u) (r : ∀ F, RV B.K F d v) (hd : (x == ("__debug__" : Str)) = false := by decide) : PE X (.Name x pos) (lift B (dC d)) := by
  obtain ⟨u, hm, ru⟩ := h
  exact de_con (pe_glob hg hm ru hd) r
end
section
variable {env : Env} {O : Ow} {q : DQ} {E : DEnds} {te : DTE} {ta : DTA}
theorem i_par3 {i j l : Nat} (h : ta env O fun ds O1 => match ds with | [d, e, f] => E.nx (((env.set i (some d)).set j (some e)).set l (some f)) O1 | _ => False) : dPar3 i j l ta E env O := h
theorem i_dsp2 {x y : Str} {i j : Int} (h : te env O fun d O1 => match d with | .str z => (z = x ∧ x ≠ y ∧ q (.int i) O1) ∨ (z = y ∧ x ≠ y ∧ q (.int j) O1) | _ => False) : dDsp2 x y i j te env O q := h
end
end DL
set_option Elab.async false
set_option linter.all false
set_option maxRecDepth 100000
set_option maxHeartbeats 4000000
namespace DL
open PySem PySem.Spec PyProof.Rows L2
/-- ranges -/
def zs (lo hi : Int) : List Int := (List.range (hi - lo).toNat).map fun (k : Nat) => lo + (k : Int)
theorem rgD_zs (lo hi : Int) : rgD lo hi = (zs lo hi).map D.int := by
  unfold rgD zs
  rw [List.map_map]; rfl
theorem zs_mem {lo hi x : Int} (h : x ∈ zs lo hi) : lo ≤ x ∧ x < hi := by
  unfold zs at h
  simp only [List.mem_map, List.mem_range] at h
  obtain ⟨k, hk, rfl⟩ := h
  omega
theorem zs_len (lo hi : Int) : (zs lo hi).length = (hi - lo).toNat := by simp [zs]
theorem map_get {l : List Int} {i : Nat} {x : D} (hx : (l.map D.int)[i]? = some x) : ∃ b, l[i]? = some b ∧ x = .int b := by
  rw [List.getElem?_map] at hx
  cases e : l[i]? with
  | none => rw [e] at hx; cases hx
  | some b => rw [e] at hx; exact ⟨b, rfl, (Option.some.inj hx).symm⟩
theorem atI_in {ds : List D} {i : Int} (h0 : 0 ≤ i) (h : i < (ds.length : Int)) : ∃ d, ds[i.toNat]? = some d ∧ atI ds i = some d := by
  have hl : i.toNat < ds.length := by omega
  refine ⟨ds[i.toNat], by simp [hl], ?_⟩
  have := atI_nat (xs := ds) (j := i.toNat) (v := ds[i.toNat]) (by simp [hl])
  rw [Int.toNat_of_nonneg h0] at this
  exact this
theorem Bag.ne {O : Ow} {p r : Addr} {m : Int} (h : Bag O p m) (hr : O r = none) : p ≠ r := fun z => by
  obtain ⟨a, b, c, e, h1⟩ := h
  rw [z, hr] at e; cases e
theorem Bag.keep {O : Ow} {p r : Addr} {m : Int} {o : OD} (h : Bag O p m) (hr : p ≠ r) : Bag (setO O r o) p m := by
  obtain ⟨a, b, c, e, h1⟩ := h
  exact ⟨a, b, c, by rw [setO_ne hr]; exact e, h1⟩
theorem Bag.ref {O : Ow} {p r : Addr} {m : Int} {o : OD} (h : Bag O p m) (hr : O r = some o) (ho : ∀ ds, o ≠ .lst ds) : p ≠ r := fun z => by
  obtain ⟨a, b, c, e, h1⟩ := h
  rw [z, hr] at e
  exact ho _ (Option.some.inj e)
def bitB : D → Bool
  | .int i => i == 0 || i == 1
  | _ => false
def plB (n : Int) (ws : List Str) : D → Bool
  | .int i => decide (0 ≤ i) && decide (i < n)
  | .str s => ws.contains s
  | _ => false
def rowB (n : Int) (ws : List Str) : D → Bool
  | .tup [b, p, q] => bitB b && plB n ws p && plB n ws q
  | _ => false
/-- a sound machine -/
def Mach (ws : List Str) (rs : List D) : Prop := ∀ r ∈ rs, rowB rs.length ws r = true
theorem plB_cases {n : Int} {ws : List Str} {d : D} (h : plB n ws d = true) : (∃ i : Int, d = .int i ∧ 0 ≤ i ∧ i < n) ∨ ∃ s, d = .str s ∧ s ∈ ws := by
  cases d <;> simp [plB] at h
  · exact .inl ⟨_, rfl, h.1, h.2⟩
  · exact .inr ⟨_, rfl, h⟩
theorem rowB_cases {n : Int} {ws : List Str} {d : D} (h : rowB n ws d = true) : ∃ (b : Int) (p q : D), d = .tup [.int b, p, q] ∧ (b = 0 ∨ b = 1) ∧ plB n ws p = true ∧ plB n ws q = true := by
  unfold rowB at h
  split at h
  · rename_i b p q
    simp only [Bool.and_eq_true] at h
    cases b <;> simp [bitB] at h
    exact ⟨_, p, q, rfl, h.1.1, h.1.2, h.2⟩
  · cases h
end DL
namespace DL
open PySem PySem.Spec PyProof.Rows L2
def good (d : D) : Bool := pd d && SeqAt.shaped (py d)
def strGood (s : Str) : Bool := (PyData.str s).canLay0
theorem good_int (i : Int) : good (.int i) = true := by simp [good, pd, py, SeqAt.shaped, PyData.canLay0, PyData.depth]
theorem good_bl (i : Bool) : good (.bl i) = true := by simp [good, pd, py, SeqAt.shaped, PyData.canLay0, PyData.depth]
theorem good_pd {d : D} (h : good d = true) : pd d = true := (Bool.and_eq_true_iff.mp h).1
theorem good_sh {d : D} (h : good d = true) : SeqAt.shaped (py d) = true := (Bool.and_eq_true_iff.mp h).2
end DL
namespace DL
open PySem PySem.Spec PyProof.Rows L2
section
variable {O : Ow} {q : DQ}
theorem i_eqG {x y : D} (hx : good x = true) (hy : good y = true) (h : q (.bl (PyData.eqv (py x) (py y))) O) : dEq x y O q := ⟨_, _, asP_pd (good_pd hx), asP_pd (good_pd hy), good_sh hx, good_sh hy, h⟩
theorem i_neG {x y : D} (hx : good x = true) (hy : good y = true) (h : q (.bl (!PyData.eqv (py x) (py y))) O) : dNe x y O q := ⟨_, _, asP_pd (good_pd hx), asP_pd (good_pd hy), good_sh hx, good_sh hy, h⟩
theorem eqv_int (i j : Int) : PyData.eqv (py (.int i)) (py (.int j)) = decide (i = j) := by
  simp only [py, PyData.eqv]
  by_cases h : i = j
  · simp [h]
  · simp [h]
theorem i_eqI {i j : Int} (h : q (.bl (decide (i = j))) O) : dEq (.int i) (.int j) O q := i_eqG (good_int _) (good_int _) (by rw [eqv_int]; exact h)
theorem i_neI {i j : Int} (h : q (.bl (!decide (i = j))) O) : dNe (.int i) (.int j) O q := i_neG (good_int _) (good_int _) (by rw [eqv_int]; exact h)
theorem i_truB {b : Bool} {Pk : Bool → Prop} (h : Pk b) : ∃ k, truD O (.bl b) = some k ∧ Pk k := ⟨b, rfl, h⟩
end
end DL
namespace DL
open PySem PySem.Spec PyProof.Rows L2
/-- two objects of one's own beside what was there -/
structure Two (O O' : Ow) (p r : Addr) (a b : OD) : Prop where
  ne : p ≠ r
  at1 : O' p = some a
  at2 : O' r = some b
  old : ∀ x, x ≠ p → x ≠ r → O' x = O x
theorem Two.sub {O O' : Ow} {p r : Addr} {a b : OD} (h : Two O O' p r a b) (hp : O p = none) (hr : O r = none) : SubO O O' := fun x o e => by
  have h1 : x ≠ p := fun z => by rw [z, hp] at e; cases e
  have h2 : x ≠ r := fun z => by rw [z, hr] at e; cases e
  rw [h.old x h1 h2]; exact e
end DL
set_option linter.all false
set_option maxRecDepth 100000
set_option maxHeartbeats 4000000
namespace DL
open PySem PySem.Spec PyProof.Rows L2
theorem RVs.reverse {K : Frag} {F : Hp} : ∀ {ds : List D} {vs : List V}, RVs K F ds vs → RVs K F ds.reverse vs.reverse
  | _, _, .nil => .nil
  | _, _, .cons h t => by
    rw [List.reverse_cons, List.reverse_cons]
    exact (RVs.reverse t).append (.cons h .nil)
end DL
set_option Elab.async false
set_option linter.all false
set_option maxRecDepth 100000
set_option maxHeartbeats 4000000
namespace DL
open PySem PySem.Spec PyProof.Rows L2
/-- a def of the text, as the head tells it: at the address a -/
def HasD (K : Frag) (x qn : Str) (st : Stmt) (dvs : List V) (kws : List (Str × V)) (a : Addr) : Prop := ∃ fd, FunD K x qn (defArgs st) (defBody st) (defScope st) dvs kws a fd
/-- a def of the text as callee -/
structure Fn (P : Program) (w : World) (K : Frag) (mg : Str → Option Value) (base : Heap) (x qn : Str) (st : Stmt) (dvs : List V) (kws : List (Str × V)) (ps : List Str) (n k : Nat) (fn : DF) (a : Addr) : Prop where
  ex : ∃ fd, FnG P w K mg base (L2.CX P w) k a fd ps (spD K n fn) ∧ FunD K x qn (defArgs st) (defBody st) (defScope st) dvs kws a fd
section
variable {P : Program} {w : World} {K : Frag} {mg : Str → Option Value} {base : Heap}
theorem fn_E {x qual : Str} {st : Stmt} {dvs : List V} {kws : List (Str × V)} {f : Addr} {N ps : List Str} {n k : Nat} {fn : DF} (F : HasD K x qual st dvs kws f) (S : FnScope N ps (defScope st)) (hn : ps.length = n)
    (hb : ∀ (cdv : Value) (A : Around) (outer : List PySem.Env) (s : Shared) (H : Hp) (E : XK) (O0 : Ow) (H0 F0 : Hp) (ds : List D) (O : Ow) (q : DQ) (xx : DX), ds.length = n → fn ds O q xx →
      Site (cxOf (L2.CX P w) P w K mg base N qual (defScope st) f cdv A outer s H E) ⟨K, O0, H0, F0⟩ k (fun c fs _ O => xx c fs O) →
      ∃ t : DTS, PSs (cxOf (L2.CX P w) P w K mg base N qual (defScope st) f cdv A outer s H E) (defBody st) (liftS ⟨K, O0, H0, F0⟩ t) ∧ t { nx := fun _ O' => rtK q .non O', rt := rtK q } (envOf N.length ds) O) :
    Fn P w K mg base x qual st dvs kws ps n (k + 1) fn f := by
  obtain ⟨fd, F⟩ := F
  exact ⟨fd, fn_DD F S hn hb, F⟩
end
/-- how all parameters are bound by position -/
def Bd0 (x qn : Str) (st : Stmt) (ps : List Str) : Prop := ∀ (kV doc pm : Value) (an : Option Addr) (cdv ct : Value) (us : List Value), us.length = ps.length → bindArgs (PySem.W.fnOf x qn (defArgs st) (defBody st) (defScope st) .none kV doc pm an cdv ct) ⟨us, []⟩ = pure (ps.zip us)
/-- picked by places -/
def pick {α : Type} (ix : List Nat) (l : List α) : List α := ix.filterMap fun i => l[i]?
theorem pick_vals {vs : List V} {us : List Value} (r : Vals vs us) : ∀ ix : List Nat, Vals (pick ix vs) (pick ix us)
  | [] => .nil
  | i :: ix => by
    unfold pick
    rw [List.filterMap_cons, List.filterMap_cons]
    cases e : vs[i]? with
    | none =>
      have : us[i]? = none := by
        have h2 := List.getElem?_eq_none_iff.mp e
        exact List.getElem?_eq_none_iff.mpr (by rw [← r.length]; exact h2)
      rw [this]
      exact pick_vals r ix
    | some d =>
      obtain ⟨v, e1, r1⟩ := r.get e
      rw [e1]
      exact .cons r1 (pick_vals r ix)
/-- how n values by position and keywords ks are bound: by the places ix in both together -/
def BdK (x qn : Str) (st : Stmt) (ps : List Str) (n : Nat) (ks : List Str) (ix : List Nat) : Prop := ∀ (kV doc pm : Value) (an : Option Addr) (cdv ct : Value) (us ws : List Value), us.length = n → ws.length = ks.length →
  bindArgs (PySem.W.fnOf x qn (defArgs st) (defBody st) (defScope st) .none kV doc pm an cdv ct) ⟨us, ks.zip ws⟩ = pure (ps.zip (pick ix (us ++ ws)))
section
variable {K : Frag} {x qn : Str} {st : Stmt} {ps ks : List Str} {kws : List (Str × V)} {f : Addr} {fd : FuncData} {n : Nat} {ix : List Nat}
theorem FunD.b0 (F : FunD K x qn (defArgs st) (defBody st) (defScope st) [] kws f fd) (h : Bd0 x qn st ps) : Binds K fd ps [] := FunD.bindsN F h
theorem FunD.bk (F : FunD K x qn (defArgs st) (defBody st) (defScope st) [] kws f fd) (h : BdK x qn st ps n ks ix) : KBn K fd ps n ks (fun us ws => pick ix (us ++ ws)) (fun us ws => pick ix (us ++ ws)) := by
  obtain ⟨oc, od, dV, kV, doc, pm, an, cdv, ct, osl, rfl, lk, hcd, hD, hK⟩ := F.ex
  rcases hD with ⟨_, rfl⟩ | ⟨e, _⟩
  · exact ⟨fun s us ws _ l1 l2 => .of_eq (h kV doc pm an cdv ct us ws l1 l2), fun r1 r2 => pick_vals (r1.append r2) ix⟩
  · exact absurd rfl e
end
section
variable {X : Cx} {B : Bd} {pos p : Pos} {k j n : Nat} {wx : DW} {e : Expr} {es : List Expr} {x qn : Str} {st : Stmt} {kws : List (Str × V)} {ps : List Str} {fn : DF} {f : Addr} {tA tB : DTA}
theorem so_callF (S : Site X B k wx) (C : Fn X.prog X.w X.K X.mg X.base x qn st [] kws ps n j fn f) (hj : j ≤ k) (hm : X.mg x = some (.ref f)) (hb : Bd0 x qn st ps) (hg : Gl X x) (ha : PA X (e :: es) (liftA B tA))
    (hdb : (x == ("__debug__" : Str)) = false := by decide) (he : starEach (e :: es) X.env = (false, eval e X.env) :: starEach es X.env := by rfl) (hpl : (backTo pos (starEach es X.env)).any (·.1) = false := by rfl) :
    PE X (.Call (.Name x p) (e :: es) [] pos) (lift B (dCall fn n wx [] tA)) := by
  obtain ⟨fd, G, F⟩ := C.ex
  exact de_call (S.hK ▸ G) S.gd (S.rm.mono hj) hg hm F.kp (FunD.b0 F hb) .nil (fun _ => .nil) S.tk ha hdb he hpl
end
end DL
set_option Elab.async false
set_option linter.all false
set_option maxRecDepth 100000
set_option maxHeartbeats 4000000
namespace DL
open PySem PySem.Spec PyProof.Rows L2
section
variable {X : Cx} {B : Bd} {k n : Nat} {C f : Addr} {fd : FuncData} {ps : List Str} {sp : Sp}
/-- the reading: y is an instance of C -/
def dOwnIn (C : Addr) (neg : Bool) (fn : DF) : DR2 := fun x y O q => ∃ fs, InsAt C O y fs ∧ fn [y, x] O (fun d O' => ∃ b, d = .bl b ∧ q (.bl (if neg then !b else b)) O') (fun _ _ _ => False)
def dOwnEq (C : Addr) (fn : DF) : DR2 := fun x y O q => ∃ fs gs, InsAt C O x fs ∧ InsAt C O y gs ∧ fn [x, y] O (fun d O' => ∃ c, d = .bl c ∧ q (.bl c) O') (fun _ _ _ => False)
def dOwnLen (C : Addr) (fn : DF) : List D → Ow → DQ → Prop := fun ds O q => match ds with | [y] => ∃ fs, InsAt C O y fs ∧ fn [y] O (fun d O' => ∃ n : Int, d = .int n ∧ (0 ≤ n ∧ n < 2 ^ 63) ∧ q (.int n) O') (fun _ _ _ => False) | _ => False
def dOwnStr (C : Addr) (fn : DF) : List D → Ow → DQ → Prop := fun ds O q => match ds with | [y] => ∃ fs, InsAt C O y fs ∧ fn [y] O (fun d O' => ∃ x : Str, d = .str x ∧ q (.str x) O') (fun _ _ _ => False) | _ => False
def dIsiC (C : Addr) : List D → Ow → DQ → Prop := fun ds O q => match ds with
  | [x, .ref c] => c = C ∧ ((∃ fs, InsAt C O x fs ∧ q (.bl true) O) ∨ ∃ a, tyN O x = some a ∧ q (.bl false) O)
  | _ => False
end
section
variable {O : Ow} {q : DQ} {C : Addr} {fn : DF} {ns : List Str} {ds : List D}
theorem i_ownIn {x : D} {neg : Bool} (h : fn [.ins C ns ds, x] O (fun d O' => ∃ b, d = .bl b ∧ q (.bl (if neg then !b else b)) O') (fun _ _ _ => False)) : dOwnIn C neg fn x (.ins C ns ds) O q := ⟨_, ⟨rfl, rfl⟩, h⟩
theorem i_ownEq {ms : List Str} {es : List D} (h : fn [.ins C ns ds, .ins C ms es] O (fun d O' => ∃ c, d = .bl c ∧ q (.bl c) O') (fun _ _ _ => False)) : dOwnEq C fn (.ins C ns ds) (.ins C ms es) O q := ⟨_, _, ⟨rfl, rfl⟩, ⟨rfl, rfl⟩, h⟩
theorem i_ownLen (h : fn [.ins C ns ds] O (fun d O' => ∃ n : Int, d = .int n ∧ (0 ≤ n ∧ n < 2 ^ 63) ∧ q (.int n) O') (fun _ _ _ => False)) : dOwnLen C fn [.ins C ns ds] O q := ⟨_, ⟨rfl, rfl⟩, h⟩
theorem i_ownStr (h : fn [.ins C ns ds] O (fun d O' => ∃ x : Str, d = .str x ∧ q (.str x) O') (fun _ _ _ => False)) : dOwnStr C fn [.ins C ns ds] O q := ⟨_, ⟨rfl, rfl⟩, h⟩
theorem i_isiI (h : q (.bl true) O) : dIsiC C [.ins C ns ds, .ref C] O q := ⟨rfl, .inl ⟨_, ⟨rfl, rfl⟩, h⟩⟩
end
end DL
set_option Elab.async false
set_option linter.all false
set_option maxRecDepth 100000
set_option maxHeartbeats 4000000
namespace DL
open PySem PySem.Spec PyProof.Rows L2
section
variable {X : Cx} {B : Bd} {k : Nat} {wx : DW} {e o : Expr} {p pos apos : Pos} {tA : DTA} {ta tb : DTE}
def dStr1 : List D → Ow → DQ → Prop := fun ds O q => match ds with
  | [.int i] => i.natAbs.log2 < 1920 ∧ q (.str (toString i)) O
  | [.str s] => q (.str s) O
  | _ => False
/-- sep.join(texts) -/
def strsOf : List D → Option (List Str)
  | [] => some []
  | .str s :: ds => (strsOf ds).map (s :: ·)
  | _ => none
def joinK (a : Str) (q : DQ) : DQ := fun y O2 => ∃ ds ss, asS O2 y = some ds ∧ strsOf ds = some ss ∧ (ss.map (·.length)).sum + ss.length * a.length ≤ 16777216 ∧ q (.str (Txt.join a ss)) O2
def dJoin (ta tb : DTE) : DTE := fun env O q => ta env O fun x O1 => match x with
  | .str a => tb env O1 (joinK a q)
  | _ => False
theorem i_join {env : Env} {O : Ow} {q : DQ} (h : ta env O fun x O1 => match x with | .str a => tb env O1 (joinK a q) | _ => False) : dJoin ta tb env O q := h
end
end DL
set_option Elab.async false
set_option linter.all false
set_option maxRecDepth 100000
set_option maxHeartbeats 4000000
namespace DL
open PySem PySem.Spec PyProof.Rows L2
/-- what an own list is as data -/
def frzD (O : Ow) : D → D
  | .ref p => match O p with | some (.lst ds) => .lst ds | _ => .ref p
  | d => d
/-- the own lists among some data -/
def frzP (O : Ow) : List (Str × D) → Addr → Bool
  | [], _ => false
  | (_, .ref p) :: r, a => (match O p with | some (.lst _) => a == p | _ => false) || frzP O r a
  | _ :: r, a => frzP O r a
/-- without x and the own lists among its attributes -/
def cutO (O : Ow) (x : Addr) (fs : List (Str × D)) : Ow := fun a => if a = x ∨ frzP O fs a = true then none else O a
section
variable {X : Cx} {B : Bd} {pos p : Pos} {k j n : Nat} {wx : DW} {e : Expr} {es : List Expr} {x qn : Str} {st : Stmt} {kws : List (Str × V)} {ps : List Str} {fn : DF} {C f : Addr} {tA tB : DTA} {t : DTE} {env : Env} {O : Ow} {q : DQ}
/-- an own instance becomes data -/
def iceI (C : Addr) (q : DQ) : DQ := fun d O1 => match d with
  | .ref x => ∃ dx fs, O1 x = some (.ins C dx fs) ∧ ∃ o2, SubO o2 (cutO O1 x fs) ∧ q (.ins C (fs.map (·.1)) (fs.map fun z => frzD O1 z.2)) o2
  | _ => False
def dIceI (C : Addr) (t : DTE) : DTE := fun env O q => t env O (iceI C q)
theorem i_iceI (h : t env O (iceI C q)) : dIceI C t env O q := h
end
end DL
set_option Elab.async false
set_option linter.all false
set_option maxRecDepth 100000
set_option maxHeartbeats 4000000
namespace DL
open PySem PySem.Spec PyProof.Rows L2
section
variable {X : Cx} {B : Bd} {pos : Pos} {env : Env} {O : Ow} {q : DQ}
/-- {} of one's own -/
def dDict0 : DTE := fun _ O q => ∀ p, O p = none → q (.ref p) (setO O p (.dK []))
theorem so_dict0 : PE X (.Dict [] [] pos) (lift B dDict0) := PE.weak pe_dnewK fun σ H Q h => by
  obtain ⟨env, O, F, q, R, h, k⟩ := h
  intro p hp
  exact k _ _ _ _ F (R.own hp (u := .dK []) ⟨[], rfl, .nil⟩) (.ref p) (h p (R.free hp).1)
theorem i_sz {ds : List D} {Pr : Prop} (h1 : ds.length ≤ 100000) (h : Pr) : ds.length ≤ sizeLine ∧ Pr := ⟨len_ok h1, h⟩
theorem i_strS {s : Str} (h : q (.str s) O) : dStr1 [.str s] O q := h
theorem i_neT {x y : D} (hx : good x = true) (hy : good y = true) (he : PyData.eqv (py x) (py y) = true) (h : q (.bl false) O) : dNe x y O q := i_neG hx hy (by rw [he]; exact h)
theorem i_dict0 (h : ∀ p, O p = none → q (.ref p) (setO O p (.dK []))) : dDict0 env O q := h
end
end DL
set_option Elab.async false
set_option linter.all false
set_option maxRecDepth 100000
set_option maxHeartbeats 4000000
namespace DL
open PySem PySem.Spec PyProof.Rows L2
theorem pys_map : ∀ ds : List D, pys ds = ds.map py
  | [] => rfl
  | d :: ds => by rw [pys, pys_map ds]; rfl
theorem seq_parts {m : Nat} : ∀ {ds : List D}, (∀ d ∈ ds, good d = true ∧ (py d).depth ≤ m) → pds ds = true ∧ PyData.canLayAll0 (pys ds) = true ∧ PyData.depthAll (pys ds) ≤ m
  | [], _ => ⟨rfl, rfl, Nat.zero_le _⟩
  | d :: ds, h => by
    obtain ⟨h1, h2, h3⟩ := seq_parts fun e he => h e (List.mem_cons_of_mem _ he)
    obtain ⟨g, gd⟩ := h d List.mem_cons_self
    simp only [good, SeqAt.shaped, Bool.and_eq_true, decide_eq_true_eq] at g
    refine ⟨by simp [pds, g.1, h1], by simp [pys, PyData.canLayAll0, g.2.1, h2], ?_⟩
    simp only [pys, PyData.depthAll]
    omega
theorem good_tupI {ds : List D} (h : ∀ d ∈ ds, good d = true ∧ (py d).depth ≤ 60) : good (.tup ds) = true := by
  obtain ⟨h1, h2, h3⟩ := seq_parts h
  simp only [good, SeqAt.shaped, pd, py, PyData.canLay0, PyData.depth, h1, h2, Bool.true_and, decide_eq_true_eq]
  omega
theorem good_lstI {ds : List D} (h : ∀ d ∈ ds, good d = true ∧ (py d).depth ≤ 60) : good (.lst ds) = true := by
  obtain ⟨h1, h2, h3⟩ := seq_parts h
  simp only [good, SeqAt.shaped, pd, py, PyData.canLay0, PyData.depth, h1, h2, Bool.true_and, decide_eq_true_eq]
  omega
mutual
theorem eqv_refl : ∀ {d : D}, pd d = true → PyData.eqv (py d) (py d) = true
  | .non, _ => by simp [py, PyData.eqv]
  | .bl b, _ => by simp [py, PyData.eqv]
  | .int i, _ => by simp [py, PyData.eqv]
  | .str x, _ => by simp [py, PyData.eqv]
  | .ref a, h => by simp [pd] at h
  | .ty n, h => by simp [pd] at h
  | .ins _ _ _, h => by simp [pd] at h
  | .lst ds, h => by rw [py, PyData.eqv]; exact eqvs_refl (by simpa [pd] using h)
  | .tup ds, h => by rw [py, PyData.eqv]; exact eqvs_refl (by simpa [pd] using h)
theorem eqvs_refl : ∀ {ds : List D}, pds ds = true → PyData.eqvAll (pys ds) (pys ds) = true
  | [], _ => by simp [pys, PyData.eqvAll]
  | d :: ds, h => by
    simp only [pds, Bool.and_eq_true] at h
    simp only [pys, PyData.eqvAll, Bool.and_eq_true]
    exact ⟨eqv_refl h.1, eqvs_refl h.2⟩
end
open TL (tl tl_append tl_join joinL tl_mk)
theorem tl_len (a : Str) : a.length = (tl a).length := by simp [Str.length, tl]
def sgn (d : D) : List Nat := tl (shw d)
theorem sgn_tup {ds : List D} (h : ds.length ≠ 1) : sgn (.tup ds) = 40 :: (joinL [44, 32] (ds.map sgn) ++ [41]) := by
  unfold sgn shw
  rw [py, PyData.shown]
  have e : ∀ l : List D, (PyData.shownAll (pys l)).map tl = l.map sgn := by
    intro l
    induction l with
    | nil => rfl
    | cons d l ih => simp only [pys, PyData.shownAll, List.map_cons, ih]; rfl
  have el : (PyData.shownAll (pys ds)).length = ds.length := by
    have := congrArg List.length (e ds)
    simpa using this
  unfold tupleText
  rw [tl_append, tl_append, tl_join, e]
  have h1 : ((PyData.shownAll (pys ds)).length == 1) = false := by rw [el]; simpa using h
  rw [h1]
  rfl
theorem sgn_tup1 {d : D} : sgn (.tup [d]) = 40 :: (sgn d ++ [44, 41]) := by
  unfold sgn shw
  rw [py, PyData.shown]
  simp only [pys, PyData.shownAll]
  unfold tupleText
  rw [tl_append, tl_append, tl_join]
  rfl
theorem joinL_mem {S : List Nat} {x : Nat} : ∀ {ps : List (List Nat)}, x ∈ joinL S ps → x ∈ S ∨ ∃ p ∈ ps, x ∈ p
  | [], h => by simp [joinL] at h
  | [p], h => .inr ⟨p, List.mem_cons_self, h⟩
  | p :: q :: r, h => by
    rcases List.mem_append.mp h with h | h
    · exact .inr ⟨p, List.mem_cons_self, h⟩
    · rcases List.mem_append.mp h with h | h
      · exact .inl h
      · rcases joinL_mem h with h | ⟨z, hz, h⟩
        · exact .inl h
        · exact .inr ⟨z, List.mem_cons_of_mem _ hz, h⟩
theorem joinL_len {S : List Nat} {m : Nat} : ∀ {ps : List (List Nat)}, (∀ p ∈ ps, p.length ≤ m) → (joinL S ps).length ≤ ps.length * (m + S.length)
  | [], _ => by simp [joinL]
  | [p], h => by
    have := h p List.mem_cons_self
    simp only [joinL, List.length_cons, List.length_nil]
    omega
  | p :: q :: r, h => by
    have h1 := h p List.mem_cons_self
    have h2 := joinL_len (S := S) (ps := q :: r) fun z hz => h z (List.mem_cons_of_mem _ hz)
    have e : (p :: q :: r).length * (m + S.length) = (q :: r).length * (m + S.length) + (m + S.length) := by
      rw [List.length_cons, Nat.add_mul, Nat.one_mul]
    rw [e]
    simp only [joinL, List.length_append]
    omega
/-- data that can be shown, with few and common signs -/
structure Shows (d : D) (m : Nat) : Prop where
  gd : good d = true
  sh : (py d).showable = true
  ln : (sgn d).length ≤ m
  sg : ∀ x ∈ sgn d, x < 128
theorem Shows.ok {d : D} {m : Nat} (h : Shows d m) (hm : m ≤ 1000000) : shwOk d = true := by
  have hd := good_sh h.gd
  simp only [SeqAt.shaped, Bool.and_eq_true, decide_eq_true_eq] at hd
  simp only [shwOk, Bool.and_eq_true, decide_eq_true_eq]
  have hl : (py d).shown.length = (sgn d).length := tl_len _
  have h1 := h.ln
  refine ⟨⟨⟨⟨good_pd h.gd, h.sh⟩, hd.2⟩, by omega⟩, ?_⟩
  simp only [PyData.canLay0, PyData.strOk, Array.all_eq_true_iff_forall_mem, decide_eq_true_eq]
  intro x hx
  have := h.sg x (by simpa [sgn, tl] using hx)
  omega
theorem shows_all {m : Nat} : ∀ {ds : List D}, (∀ d ∈ ds, Shows d m) → PyData.showableAll (pys ds) = true
  | [], _ => rfl
  | d :: ds, h => by
    simp only [pys, PyData.showableAll, Bool.and_eq_true]
    exact ⟨(h d List.mem_cons_self).sh, shows_all fun e he => h e (List.mem_cons_of_mem _ he)⟩
theorem Shows.tup {ds : List D} {m : Nat} (h : ∀ d ∈ ds, Shows d m ∧ (py d).depth ≤ 60) : Shows (.tup ds) ((m + 2) * ds.length + 4) := by
  have hl : ∀ p ∈ ds.map sgn, p.length ≤ m := fun p hp => by
    obtain ⟨d, hd, rfl⟩ := List.mem_map.mp hp
    exact (h d hd).1.ln
  have hs : ∀ p ∈ ds.map sgn, ∀ x ∈ p, x < 128 := fun p hp => by
    obtain ⟨d, hd, rfl⟩ := List.mem_map.mp hp
    exact (h d hd).1.sg
  refine ⟨good_tupI fun d hd => ⟨(h d hd).1.gd, (h d hd).2⟩, by rw [py, PyData.showable]; exact shows_all fun d hd => (h d hd).1, ?_, fun x hx => ?_⟩
  · by_cases h1 : ds.length = 1
    · match ds, h1 with
      | [d], _ =>
        rw [sgn_tup1]
        have := (h d List.mem_cons_self).1.ln
        simp only [List.length_cons, List.length_append, List.length_nil]
        omega
    · rw [sgn_tup h1]
      have := joinL_len (S := [44, 32]) hl
      rw [List.length_map] at this
      simp only [List.length_cons, List.length_append, List.length_nil, Nat.zero_add] at this ⊢
      rw [Nat.mul_comm]
      have e2 : m + (1 + 1) = m + 2 := rfl
      rw [e2] at this
      omega
  · by_cases h1 : ds.length = 1
    · match ds, h1 with
      | [d], _ =>
        rw [sgn_tup1] at hx
        simp only [List.mem_cons, List.mem_append, List.mem_nil_iff, or_false] at hx
        rcases hx with rfl | hx | rfl | rfl
        · decide
        · exact (h d List.mem_cons_self).1.sg x hx
        · decide
        · decide
    · rw [sgn_tup h1] at hx
      simp only [List.mem_cons, List.mem_append, List.mem_nil_iff, or_false] at hx
      rcases hx with rfl | hx | rfl
      · decide
      · rcases joinL_mem hx with h2 | ⟨p, hp, h2⟩
        · simp only [List.mem_cons, List.mem_nil_iff, or_false] at h2
          rcases h2 with rfl | rfl <;> decide
        · exact hs p hp x h2
      · decide
end DL
set_option Elab.async false
set_option linter.all false
set_option maxRecDepth 100000
set_option maxHeartbeats 4000000
namespace DL
open PySem PySem.Spec PyProof.Rows L2 ItX
section
variable {X : Cx} {B : Bd} {k : Nat} {wx : DW} {tg e : Expr} {C fa : Addr} {f : Str} {te : DTE} {pos : Pos}
/-- the walk over an end's table -/
def diOwn (C : Addr) (f : Str) (te : DTE) : DTI := fun env O q => te env O fun d O1 => ∃ fs z ds, InsAt C O1 d fs ∧ fs.lookup f = some z ∧ asL O1 z = some ds ∧ q ds (gdL O1 z) O1
theorem i_own {env : Env} {O : Ow} {q : List D → (Ow → Prop) → Ow → Prop} (h : te env O fun d O1 => ∃ fs z ds, InsAt C O1 d fs ∧ fs.lookup f = some z ∧ asL O1 z = some ds ∧ q ds (gdL O1 z) O1) : diOwn C f te env O q := h
end
section
variable {X : Cx} {B : Bd} {k : Nat} {wx : DW} {e : Expr} {te : DTE} {pos : Pos}
def fmtK (q : DQ) : DQ := fun x O1 => match x with
  | .str y => y.length ≤ sizeLine ∧ q (.str y) O1
  | .int i => i.natAbs.log2 < 1920 ∧ q (.str (toString i)) O1
  | _ => False
def dFmt (te : DTE) : DTE := fun env O q => te env O (fmtK q)
def jsK (rest : Str → Env → Ow → DQ → Prop) (acc : Str) (env : Env) (q : DQ) : DQ := fun x O1 => match x with
  | .str y => (acc ++ y).length ≤ sizeLine ∧ rest (acc ++ y) env O1 q
  | _ => False
def dJs : List DTE → Str → Env → Ow → DQ → Prop
  | [], acc, _, O, q => q (.str acc) O
  | t :: ts, acc, env, O, q => t env O (jsK (dJs ts) acc env q)
end
section
variable {env : Env} {O : Ow} {q : DQ} {te : DTE} {ts : List DTE} {acc : Str}
theorem i_fmt (h : te env O (fmtK q)) : dFmt te env O q := h
theorem i_js {t : DTE} (h : t env O (jsK (dJs ts) acc env q)) : dJs (t :: ts) acc env O q := h
theorem i_js0 (h : q (.str acc) O) : dJs [] acc env O q := h
end
section
variable {X : Cx} {B : Bd} {pos p : Pos} {k j n : Nat} {wx : DW} {x qn : Str} {st : Stmt} {kws : List (Str × V)} {ps : List Str} {fn : DF} {C f : Addr} {tB : DTA}
def dMakeK0 (C : Addr) (fn : DF) (n l : Nat) (w : DW) (ix : List Nat) (tb : DTA) : DTE := fun env O q => tb env O fun es O1 => es.length = l ∧ (∀ x, (pick ix (x :: es)).length = n) ∧ ∀ x dx, O1 x = none → O1 dx = none → dx ≠ x →
  fn (pick ix (.ref x :: es)) (setO O1 x (.ins C dx [])) (fun d O2 => d = .non ∧ q (.ref x) O2) fun c fs O' => w c fs env O'
theorem i_makeK0 {w : DW} {ix : List Nat} {l : Nat} {env : Env} {O : Ow} {q : DQ} (h : tB env O fun es O1 => es.length = l ∧ (∀ x, (pick ix (x :: es)).length = n) ∧ ∀ x dx, O1 x = none → O1 dx = none → dx ≠ x →
  fn (pick ix (.ref x :: es)) (setO O1 x (.ins C dx [])) (fun d O2 => d = .non ∧ q (.ref x) O2) fun c fs O' => w c fs env O') : dMakeK0 C fn n l w ix tB env O q := h
end
section
variable {X : Cx} {B : Bd} {k j : Nat} {wx : DW} {C f : Addr} {fd : FuncData} {ps : List Str} {sp : Sp} {a b : Expr} {ta tb : DTE} {pos : Pos} {x qn : Str} {st : Stmt} {kws : List (Str × V)} {fn : DF}
variable {e : Expr} {apos : Pos} {to : DTE}
def clearK (q : DQ) : DQ := fun x O1 => match x with
  | .ref p => ∃ es, O1 p = some (.lst es) ∧ q .non (setO O1 p (.lst []))
  | _ => False
def dClear (to : DTE) : DTE := fun env O q => to env O (clearK q)
theorem i_clear {env : Env} {O : Ow} {q : DQ} (h : to env O (clearK q)) : dClear to env O q := h
theorem i_clearK {O : Ow} {q : DQ} {p : Addr} {es : List D} (e1 : O p = some (.lst es)) (h : q .non (setO O p (.lst []))) : clearK q (.ref p) O := ⟨es, e1, h⟩
end
end DL
set_option Elab.async false
set_option linter.all false
set_option maxRecDepth 100000
set_option maxHeartbeats 4000000
namespace DL
open PySem PySem.Spec PyProof.Rows L2
def exSp1 (C : Addr) (f : Str) : Sp := fun vs H Q _ => ∃ a v, vs = [.ref a, v] ∧ H a = some (exo a C none) ∧ ∀ dx, H dx = none → dx ≠ a → Q .non (upd (upd H dx (exd dx [(f, v)])) a (exo a C (some dx)))
def exSp2 (C : Addr) (f g : Str) : Sp := fun vs H Q _ => ∃ a v w, vs = [.ref a, v, w] ∧ H a = some (exo a C none) ∧ ∀ dx, H dx = none → dx ≠ a → Q .non (upd (upd (upd H dx (exd dx [(f, v)])) a (exo a C (some dx))) dx (exd dx [(g, w), (f, v)]))
section
variable {X : Cx} {B : Bd} {k : Nat} {wx : DW} {x f g : Str} {C fI : Addr} {e1 e2 : Expr} {p p2 pos : Pos} {tA : DTA}
def dRaise (C : Addr) (fs : List Str) (wx : DW) (tA : DTA) : DTS := fun _ env O => tA env O fun ds O1 => ds.length = fs.length ∧ wx (.ref C) (fs.zip ds).reverse env O1
theorem i_raise {fs : List Str} {E : DEnds} {env : Env} {O : Ow} (h : tA env O fun ds O1 => ds.length = fs.length ∧ wx (.ref C) (fs.zip ds).reverse env O1) : dRaise C fs wx tA E env O := h
end
section
variable {X : Cx} {B : Bd} {k i : Nat} {wx : DW} {x n : Str} {c : Value} {body suite : List Stmt} {b₀ : Stmt} {np pos pos' : Pos} {tb : DW → DTS} {ts : Addr → Value → List (Str × D) → DTS}
def dTryAs (K : Frag) (c : Value) (i : Nat) (tb : DW → DTS) (ts : Addr → Value → List (Str × D) → DTS) (wx : DW) : DTS := fun E env O => tb (fun cls fs env' O' => ∃ b, PySem.W.exmOne K cls c = some b ∧
  (b = true → ∀ a, O' a = none → ts a cls fs { nx := fun e o => E.nx (e.set i none) o, rt := E.rt, bk := fun e o => E.bk (e.set i none) o, ct := fun e o => E.ct (e.set i none) o } (env'.set i (some (.ref a))) O') ∧ (b = false → wx cls fs env' O')) E env O
/-- e.f of the caught exception -/
def xfK (a : Addr) (cls : Value) (C : Addr) (fs : List (Str × D)) (f : Str) (q : DQ) : DQ := fun x O1 => x = .ref a ∧ cls = .ref C ∧ ∃ v, fs.lookup f = some v ∧ q v O1
def dXf (a : Addr) (cls : Value) (C : Addr) (fs : List (Str × D)) (f : Str) (te : DTE) : DTE := fun env O q => te env O (xfK a cls C fs f q)
theorem i_xf {a : Addr} {cls : Value} {C : Addr} {fs : List (Str × D)} {f : Str} {te : DTE} {env : Env} {O : Ow} {q : DQ} (h : te env O (xfK a cls C fs f q)) : dXf a cls C fs f te env O q := h
theorem i_xfK {a : Addr} {C : Addr} {fs : List (Str × D)} {f : Str} {v : D} {O : Ow} {q : DQ} (e : fs.lookup f = some v) (h : q v O) : xfK a (.ref C) C fs f q (.ref a) O := ⟨rfl, rfl, v, e, h⟩
theorem i_tryAs {K : Frag} {E : DEnds} {env : Env} {O : Ow} (h : tb (fun cls fs env' O' => ∃ b, PySem.W.exmOne K cls c = some b ∧
  (b = true → ∀ a, O' a = none → ts a cls fs { nx := fun e o => E.nx (e.set i none) o, rt := E.rt, bk := fun e o => E.bk (e.set i none) o, ct := fun e o => E.ct (e.set i none) o } (env'.set i (some (.ref a))) O') ∧ (b = false → wx cls fs env' O')) E env O) : dTryAs K c i tb ts wx E env O := h
end
def excO (K : Frag) (C : Addr) : Bool := match K.lookup C with
  | some ⟨.type "type", _, .cls cd, sl⟩ => (match cd.mro, sl.toList with
    | .ref C' :: bm, [_, _, _, _, some (.builtin n), _] => C' == C && n == "ValueError.__new__" && !cd.hasDel && cd.hasDict && PySem.HandSPX.refsVE bm
    | _, _ => false)
  | _ => false
end DL
set_option Elab.async false
set_option linter.all false
set_option maxRecDepth 100000
set_option maxHeartbeats 4000000
namespace DL
open PySem PySem.Spec PyProof.Rows L2
section
variable {X : Cx} {B : Bd} {pos p p2 pos2 apos : Pos} {k : Nat} {wx : DW} {a b e : Expr} {ta tb to : DTE} {tA : DTA} {env : Env} {O : Ow} {q : DQ}
def dRep : DR2 := fun x y O q => match x, y with
  | .ref p, .int k => ∃ es, O p = some (.lst es) ∧ (-(2 ^ 63) ≤ k ∧ k < 2 ^ 63) ∧ es.length * k.toNat ≤ sizeLine ∧ q (.lst (List.replicate k.toNat es).flatten) O
  | _, _ => False
theorem sim_rep : Sim2 B rRep dRep := by
  intro env O σ H F x y dx dy q Q R rx ry h kk
  cases dx <;> cases dy <;> try exact h.elim
  cases rx; cases ry
  obtain ⟨es, e, ⟨h1, h2⟩, h3, h⟩ := h
  obtain ⟨_, ho, e2, vs, rfl, rr⟩ := R.ow _ _ e
  exact ⟨_, _, vs, rfl, rfl, e2, h1, h2, by rw [← rr.length]; exact h3, fresh_lst R (rr.rep _) h kk⟩
theorem so_rep (S : Site X B k wx) (ha : PE X a (lift B ta)) (hb : PE X b (lift B tb)) : PE X (.BinOp a .Mult b pos) (lift B (dOp dRep ta tb)) := de_op op_rep sim_rep ha hb
theorem i_rep {pp : Addr} {k : Int} {es : List D} (e : O pp = some (.lst es)) (h0 : 0 ≤ k ∧ k ≤ 100000) (hl : es.length ≤ 100) (h : q (.lst (List.replicate k.toNat es).flatten) O) : dRep (.ref pp) (.int k) O q :=
  ⟨es, e, ⟨by omega, by omega⟩, Nat.le_trans (Nat.mul_le_mul hl (show k.toNat ≤ 100000 by omega)) (by decide), h⟩
theorem flat_one {d : D} : ∀ n : Nat, (List.replicate n [d]).flatten = List.replicate n d
  | 0 => rfl
  | n + 1 => by rw [List.replicate_succ, List.flatten_cons, flat_one n, List.replicate_succ]; rfl
def popK2 (p : Addr) (es : List D) (q : DQ) : List D → Ow → Prop := fun ds O2 => match ds with
  | [.int i] => O2 p = some (.lst es) ∧ 0 ≤ i ∧ i < es.length ∧ es.length < 2 ^ 62 ∧ ∃ d, es[i.toNat]? = some d ∧ q d (setO O2 p (.lst (es.eraseIdx i.toNat)))
  | _ => False
def popK (tA : DTA) (env : Env) (q : DQ) : DQ := fun x O1 => match x with
  | .ref p => ∃ es, O1 p = some (.lst es) ∧ tA env O1 (popK2 p es q)
  | _ => False
def dPop (to : DTE) (tA : DTA) : DTE := fun env O q => to env O (popK tA env q)
theorem RVs.eraseIdx {K : Frag} {F : Hp} : ∀ {ds : List D} {vs : List V} (i : Nat), RVs K F ds vs → RVs K F (ds.eraseIdx i) (vs.eraseIdx i)
  | _, _, _, .nil => .nil
  | _, _, 0, .cons _ t => t
  | _, _, i + 1, .cons h t => .cons h (RVs.eraseIdx i t)
theorem i_pop (h : to env O (popK tA env q)) : dPop to tA env O q := h
theorem i_popK {pp : Addr} {es : List D} (hp : O pp = some (.lst es)) (h : tA env O (popK2 pp es q)) : popK tA env q (.ref pp) O := ⟨es, hp, h⟩
def dListRg2 (ta tb : DTE) : DTE := fun env O q => ta env O fun d O1 => tb env O1 fun e O2 => match d, e with | .int i, .int j => RgOk i j ∧ q (.lst (rgD i j)) O2 | _, _ => False
def dListRg2O (ta tb : DTE) : DTE := fun env O q => ta env O fun d O1 => tb env O1 fun e O2 => match d, e with | .int i, .int j => RgOk i j ∧ ∀ p, O2 p = none → q (.ref p) (setO O2 p (.lst (rgD i j))) | _, _ => False
theorem i_listRg2 (h : ta env O fun d O1 => tb env O1 fun e O2 => match d, e with | .int i, .int j => RgOk i j ∧ q (.lst (rgD i j)) O2 | _, _ => False) : dListRg2 ta tb env O q := h
theorem i_listRg2O (h : ta env O fun d O1 => tb env O1 fun e O2 => match d, e with | .int i, .int j => RgOk i j ∧ ∀ p, O2 p = none → q (.ref p) (setO O2 p (.lst (rgD i j))) | _, _ => False) : dListRg2O ta tb env O q := h
end
def SeqD (O : Ow) (d : D) (rs : List D) : Prop := d = .lst rs ∨ d = .tup rs ∨ ∃ p, d = .ref p ∧ O p = some (.lst rs)
theorem SeqD.set {O : Ow} {d : D} {rs : List D} {x : Addr} {o : OD} (h : SeqD O d rs) (hx : ∀ ds, O x ≠ some (.lst ds)) : SeqD (setO O x o) d rs := by
  rcases h with h | h | ⟨p, h, e⟩
  · exact .inl h
  · exact .inr (.inl h)
  · refine .inr (.inr ⟨p, h, ?_⟩)
    have hne : p ≠ x := fun z => hx rs (by rw [← z]; exact e)
    rw [setO_ne hne]
    exact e
def enumK (qi : List D → (Ow → Prop) → Ow → Prop) : DQ := fun d O1 => match d with
  | .tup ds => qi (enumD ds) (fun _ => True) O1
  | d => ∃ ds, asL O1 d = some ds ∧ qi (enumD ds) (gdL O1 d) O1
section
variable {env : Env} {O : Ow} {qi : List D → (Ow → Prop) → Ow → Prop} {te : DTE} {rs : List D} {d : D} {q : DQ}
theorem i_enum2 (h : te env O (enumK qi)) : diEnum te env O qi := h
theorem i_enumL (h : qi (enumD rs) (fun _ => True) O) : enumK qi (.lst rs) O := ⟨rs, rfl, h⟩
theorem i_enumT (h : qi (enumD rs) (fun _ => True) O) : enumK qi (.tup rs) O := h
theorem SeqD.ty (hs : SeqD O d rs) : ∃ a, tyN O d = some a ∧ ["list", "tuple"].any (kitT a) = true := by
  rcases hs with rfl | rfl | ⟨p, rfl, hp⟩
  · exact ⟨"list", rfl, by decide⟩
  · exact ⟨"tuple", rfl, by decide⟩
  · exact ⟨"list", by simp [tyN, hp], by decide⟩
end
end DL
set_option Elab.async false
set_option linter.all false
set_option maxRecDepth 100000
set_option maxHeartbeats 4000000
namespace DL
open PySem PySem.Spec PyProof.Rows L2
section
variable {X : Cx} {B : Bd} {pos p p2 apos : Pos} {k i j : Nat} {wx : DW} {a b e o : Expr} {es : List Expr} {ta tb te to : DTE} {tA tB : DTA} {env : Env} {O : Ow} {q : DQ}
def splK (a : Str) (q : DQ) : DQ := fun y O2 => match y with
  | .str b => (b.length == 0) = false ∧ a.length + 2 ≤ sizeLine ∧ q (.lst ((Txt.split a b).map D.str)) O2
  | _ => False
def dSplit (to te : DTE) : DTE := fun env O q => to env O fun x O1 => match x with
  | .str a => te env O1 (splK a q)
  | _ => False
theorem i_split (h : to env O fun x O1 => match x with | .str a => te env O1 (splK a q) | _ => False) : dSplit to te env O q := h
/-- x.m() of a text: a bool -/
def m0K (g : Str → Bool) (q : DQ) : DQ := fun x O1 => match x with
  | .str a => q (.bl (g a)) O1
  | _ => False
def dM0 (g : Str → Bool) (to : DTE) : DTE := fun env O q => to env O (m0K g q)
theorem i_m0 {g : Str → Bool} (h : to env O (m0K g q)) : dM0 g to env O q := h
theorem i_m0K {g : Str → Bool} {a : Str} (h : q (.bl (g a)) O) : m0K g q (.str a) O := h
def dInt2 : List D → Ow → DQ → Prop := fun ds O q => match ds with
  | [.str a] => ∃ n, PySem.intText? a = some n ∧ a.length ≤ 640 ∧ q (.int n) O
  | ds => dInt1 ds O q
theorem i_int2I {i : Int} (h : q (.int i) O) : dInt2 [.int i] O q := h
theorem i_int2B {b : Bool} (h : q (.int (if b then 1 else 0)) O) : dInt2 [.bl b] O q := h
def dStarA (te : DTE) (tA : DTA) : DTA := fun env O q => te env O fun x O1 => ∃ xs, asS O1 x = some xs ∧ tA env O1 fun ys O2 => q (xs ++ ys) O2
theorem i_starA {qa : List D → Ow → Prop} (h : te env O fun x O1 => ∃ xs, asS O1 x = some xs ∧ tA env O1 fun ys O2 => qa (xs ++ ys) O2) : dStarA te tA env O qa := h
end
end DL
set_option Elab.async false
set_option linter.all false
set_option maxRecDepth 100000
set_option maxHeartbeats 4000000
namespace DL
open PySem PySem.Spec PyProof.Rows L2
section
variable {X : Cx} {B : Bd} {pos p p2 apos : Pos} {k i j : Nat} {wx : DW}
variable {e o : Expr} {es : List Expr} {tA tB : DTA}
variable {C g pa : Addr} {mc : Value} {m x qn : Str} {st : Stmt} {kws : List (Str × V)} {ps : List Str} {n : Nat} {fn : DF} {pl : Sem Bool}
def dCm (C : Addr) (fn : DF) (n : Nat) (w : DW) (tA : DTA) : DTE := fun env O q => tA env O fun ds O1 => ds.length + 1 = n ∧ fn (.ref C :: ds) O1 q fun c fs O' => w c fs env O'
def dCmK (C : Addr) (fn : DF) (n l : Nat) (w : DW) (ix : List Nat) (tB : DTA) : DTE := fun env O q => tB env O fun es O1 => es.length = l ∧ (pick ix (.ref C :: es)).length = n ∧ fn (pick ix (.ref C :: es)) O1 q fun c fs O' => w c fs env O'
theorem i_cm {env : Env} {O : Ow} {q : DQ} {w : DW} (h : tA env O fun ds O1 => ds.length + 1 = n ∧ fn (.ref C :: ds) O1 q fun c fs O' => w c fs env O') : dCm C fn n w tA env O q := h
theorem i_cmK {env : Env} {O : Ow} {q : DQ} {w : DW} {l : Nat} {ix : List Nat} (h : tB env O fun es O1 => es.length = l ∧ (pick ix (.ref C :: es)).length = n ∧ fn (pick ix (.ref C :: es)) O1 q fun c fs O' => w c fs env O') : dCmK C fn n l w ix tB env O q := h
variable {f : Addr}
def dMakeL (i : Nat) (C : Addr) (fn : DF) (n : Nat) (w : DW) (tA : DTA) : DTE := fun env O q => env[i]? = some (some (.ref C)) ∧ dMake C fn n w [] tA env O q
theorem i_makeL {env : Env} {O : Ow} {q : DQ} {w : DW} (h0 : env[i]? = some (some (.ref C))) (h : tA env O fun ds O1 => (ds ++ []).length + 1 = n ∧ ∀ x dx, O1 x = none → O1 dx = none → dx ≠ x →
  fn (.ref x :: (ds ++ [])) (setO O1 x (.ins C dx [])) (fun d O2 => d = .non ∧ q (.ref x) O2) fun c fs O' => w c fs env O') : dMakeL i C fn n w tA env O q := ⟨h0, h⟩
end
end DL
set_option Elab.async false
set_option linter.all false
set_option maxRecDepth 100000
set_option maxHeartbeats 4000000
namespace DL
open PySem PySem.Spec PyProof.Rows L2
end DL
namespace DL
open PySem PySem.Spec PyProof.Rows L2
end DL
namespace DL
open PySem PySem.Spec PyProof.Rows L2
end DL
set_option Elab.async false
set_option linter.all false
set_option maxRecDepth 100000
set_option maxHeartbeats 4000000
namespace PySem.W
open PySem PySem.Spec PySem.Calls PyProof.Rows
section
variable {prog : Program} {w : World} {A : Around} {E : Value → Shared → Prop} {s : Shared} {K : Frag} {x D : Addr} {ox : Obj} {od : Option Obj}
theorem findObj_dataO {C : Addr} {name : Str} {a g : Value} (hc : (clsIn K C).isSome = true) (ha : findIn K (.ref C) name = some (some a)) (hg : specialIn K a "__get__" = some (some g)) (ht : takesIn K a = some true) : findObj K C od name = some (.bind g a) := by
  obtain ⟨cd, hc⟩ := Option.isSome_iff_exists.mp hc
  unfold findObj
  rw [hc, Option.bind_some, ha, Option.bind_some]
  simp [hg, ht]
theorem kin_classO {Q : Option Value → Shared → Prop} (hga : findIn K (.ref D) "__getattribute__" = some (some (.builtin "BaseException.__getattribute__"))) (hgt : findIn K (.ref D) "__getattr__" = some none) (hsub : subIn K (.ref D) (.type "BaseException") = some true)
    (hdct : hasDictIn K D = true) (ha : findIn K (.ref D) "__class__" = some (some (.builtin "object.__class__")))
    (hn : specialIn K (.builtin "object.__class__") "__get__" = some (some (.builtin "getset_descriptor.__get__"))) (htk : takesIn K (.builtin "object.__class__") = some true) (hm : mroIn K D (.type "object") = some true)
    (X : K.In s.heap) (I : InstAt s.heap x ox D od) (h : Q (some (.ref D)) { s with toks := s.toks + 1 }) : wpAny (model prog w) A (getAttr? (.ref x) "__class__") Q E s := by
  have hf : findObj K D od "__class__" = some (.bind (.builtin "getset_descriptor.__get__") (.builtin "object.__class__")) := findObj_dataO (by obtain ⟨cd, hc, _⟩ := any_some hdct; rw [hc]; rfl) ha hn htk
  obtain ⟨hp, g, d, t, os⟩ := s
  have L0 := I.type (M := model prog w)
  have L1 := looks_findIn (M := model prog w) X hga
  have L2 := looks_findIn (M := model prog w) X hgt
  have L3 := looks_find (M := model prog w) X I hf
  have sub : Looks (model prog w) hp (isInstance (.ref x) (.type "BaseException")) true := L0.andThen (looks_subIn X hsub)
  have hx0 : (false && onTheHeap (Value.builtin "BaseException.__getattribute__")) = false := rfl
  have hx2 : (Value.builtin "BaseException.__getattribute__" == Value.builtin "object.__getattribute__") = false := by decide +kernel
  have hx1 : (onTheHeap (Value.ref D) && Value.builtin "BaseException.__getattribute__" == Value.builtin "object.__getattribute__") = false := by rw [hx2]; rfl
  unfold getAttr? getAttrBy? getAttrBy
  refine wpAny_bind (wpAny_mkText (wpAny_bind (wpAny_attempt (wpAny_holding (wpAny_bind (L0.at (wpAny_bind (L1.at ?_))))))))
  show wpAny _ _ (if (onTheHeap (Value.ref D) && Value.builtin "BaseException.__getattribute__" == Value.builtin "object.__getattribute__") = true then _ else _) _ _ _
  rw [hx1, if_neg Bool.false_ne_true]
  unfold getAttrByItsOwn hookBefore
  refine wpAny_bind ?_
  rw [if_pos (show onTheHeap (Value.ref D) = true from rfl)]
  refine L2.at ?_
  refine wpAny_bind (wpAny_attempt (wpAny_holding ?_))
  unfold callGetattribute
  rw [hx0, if_neg Bool.false_ne_true]
  unfold boundAndCalled
  rw [PySem.F.excAttr_ValueError.ga.bind (.ref x)]
  refine wpAny_bind (wpAny_pure ?_)
  show wpAny _ _ (call (.builtin "BaseException.__getattribute__") [.ref x, .str "__class__" t]) _ _ _
  refine wpAny_call (codeAny_call_builtin PySem.F.excAttr_ValueError.ga.plain PySem.F.entry_bexc_ga ?_)
  refine @check_slot (model prog w) _ _ ⟨hp, g, d, t + 1, os⟩ "BaseException.__getattribute__" "BaseException" "__getattribute__" (.ref x) [.str "__class__" t] [] _ (by decide +kernel) (by decide +kernel) sub (PySem.F.args_bexc_ga (.ref x) (.str "__class__" t)) ?_
  unfold Builtin.«object.__getattribute__»
  refine wpAny_bind (wpAny_of_eq (a := ((Value.ref x : Value), [Value.str "__class__" t])) (by first | rfl | (simp only [slotArgs]; rfl)) ?_)
  refine wpAny_bind (wpAny_pure (wpAny_bind (L0.at (wpAny_bind (L3.at ?_)))))
  show wpAny _ _ (holding [Value.builtin "object.__class__"] (call (.builtin "getset_descriptor.__get__") [.builtin "object.__class__", .ref x, .ref D]) >>= ret) _ _ _
  refine wpAny_bind (wpAny_holding (wpAny_call (class_get (s := ⟨hp, g, d, t + 1, os⟩) (ox := ox) (od := od) X I hm ?_)))
  refine wpAny_pure ?_
  show wpAny _ _ (handedOut (.ref D)) _ _ _
  rw [handedOut_of (v := .ref D) rfl]
  first
    | exact wpAny_pure (wpAny_pure h)
    | exact wpAny_pure h
    | exact wpAny_pure (wpAny_bind (wpAny_pure (wpAny_pure h)))
theorem kitx_excO (hga : findIn K (.ref D) "__getattribute__" = some (some (.builtin "BaseException.__getattribute__"))) (hgt : findIn K (.ref D) "__getattr__" = some none) (hsub : subIn K (.ref D) (.type "BaseException") = some true) (hdct : hasDictIn K D = true) (ha : findIn K (.ref D) "__class__" = some (some (.builtin "object.__class__")))
    (hn : specialIn K (.builtin "object.__class__") "__get__" = some (some (.builtin "getset_descriptor.__get__"))) (htk : takesIn K (.builtin "object.__class__") = some true) (hm : mroIn K D (.type "object") = some true) :
    KitX K (.ref x) (.ref D) (fun h => InstAt h x ox D od) where
  ty := fun _ _ _ I => I.type
  it := fun _ _ X _ => by
    obtain ⟨cdD, hcD, _⟩ := any_some hdct
    unfold clsIn at hcD
    split at hcD
    · rename_i c' d' cd' sl' ho
      intro A' Q' E' s' k q
      unfold isType loadHead
      exact wpAny_bind (wpAny_loadPart (k _ _ (X _ _ ho)) (wpAny_pure q))
    · cases hcD
  ne := fun h tp dd its n sl X htp => by
    obtain ⟨cdD, hcD, _⟩ := any_some hdct
    refine Bool.eq_false_iff.mpr fun q => ?_
    have e : D = tp := Value.ref.inj (beq_iff_eq.mp q)
    subst e
    unfold clsIn at hcD
    split at hcD
    · rename_i c' d' cd' sl' ho
      have z := (X _ _ ho).symm.trans htp
      cases z
    · cases hcD
  ca := fun X I k => kin_classO hga hgt hsub hdct ha hn htk hm X I k
end
end PySem.W
namespace DL
open PySem PySem.Spec PyProof.Rows L2
section
variable {X : Cx} {B : Bd} {pos p np : Pos} {f : Str}
/-- isinstance(e, T) of the caught exception, T a builtin class -/
def dXi (a : Addr) (cls : Value) (C : Addr) (b : Bool) (te : DTE) : DTE := fun env O q => te env O fun x O1 => x = .ref a ∧ cls = .ref C ∧ q (.bl b) O1
theorem i_xi {a C : Addr} {cls : Value} {b : Bool} {te : DTE} {env : Env} {O : Ow} {q : DQ} (h : te env O fun x O1 => x = .ref a ∧ cls = .ref C ∧ q (.bl b) O1) : dXi a cls C b te env O q := h
end
end DL
namespace DL
open PySem PySem.Spec PyProof.Rows L2
/-- at sysModules stands no list -/
def SmOk (K : Frag) : Prop := ∃ o, K.lookup sysModules = some o ∧ o.cls ≠ .type "list"
def smB : Fac := fun K => match K.lookup sysModules with
  | some ⟨.type n, _, _, _⟩ => decide (n = "dict")
  | _ => false
theorem smB_ok {K : Frag} (h : smB K = true) : SmOk K := by
  unfold smB at h
  split at h
  · rename_i n a b c e
    refine ⟨_, e, fun z => ?_⟩
    have h := of_decide_eq_true h
    cases z
    exact absurd h (by decide)
  · cases h
mutual
inductive DpE (K : Frag) (H : Hp) : V → PyData → Prop
  | non : DpE K H .non .none
  | bl (b : Bool) : DpE K H (.bl b) (.bool b)
  | int (i : Int) : DpE K H (.int i) (.int i)
  | str (x : Str) : DpE K H (.str x) (.str x)
  | lst {a : Addr} {xs : List V} {ds : List PyData} : SqL K H a xs → DpEs K H xs ds → DpE K H (.ref a) (.list ds)
  | tup {a : Addr} {xs : List V} {ds : List PyData} : SqT K H a xs → DpEs K H xs ds → DpE K H (.ref a) (.tuple ds)
  | emp {a : Addr} : H a = some (.dK []) → DpE K H (.ref a) (.dict [])
inductive DpEs (K : Frag) (H : Hp) : List V → List PyData → Prop
  | nil : DpEs K H [] []
  | cons {v : V} {vs : List V} {d : PyData} {ds : List PyData} : DpE K H v d → DpEs K H vs ds → DpEs K H (v :: vs) (d :: ds)
end
section
variable {X : Cx} {pins : List (Addr × Obj)} {σ : St} {H : Hp} {s : Shared}
mutual
theorem DpE.reads (I : Inv X pins σ H s) (hS : SmOk X.K) : ∀ (d : PyData) (v : V) (u : Value), DpE X.K H v d → RelV v u → ∃ as, Reads s.heap u d as ∧ sysModules ∉ as
  | .none, _, _, h, r => by
    cases h
    cases r
    exact ⟨_, Reads.none, by simp⟩
  | .bool b, _, _, h, r => by
    cases h
    cases r
    exact ⟨_, Reads.bool b, by simp⟩
  | .int i, _, _, h, r => by
    cases h
    obtain ⟨t, rfl⟩ := r
    exact ⟨_, Reads.int i t, by simp⟩
  | .str x, _, _, h, r => by
    cases h
    obtain ⟨t, rfl⟩ := r
    exact ⟨_, Reads.str x t, by simp⟩
  | .list ds, _, _, h, r => by
    cases h with
    | @lst a xs _ hs ha =>
      cases r
      obtain ⟨its, rv, ⟨o, n, ho, hc, _, hd⟩, _⟩ := I.list hs
      obtain ⟨as, hr, hm⟩ := DpE.readsAll I hS ds _ its ha rv
      refine ⟨_, Reads.list ho hc hd hr, fun z => ?_⟩
      rcases List.mem_cons.mp z with z | z
      · obtain ⟨o', e1, e2⟩ := hS
        have e3 := I.kIn _ _ e1
        rw [z, ho] at e3
        cases e3
        exact e2 hc
      · exact hm z
  | .tuple ds, _, _, h, r => by
    cases h with
    | tup hs ha =>
      cases r
      obtain ⟨its, rv, ⟨o, ho, hc, n, hd⟩, _⟩ := I.tuple hs
      obtain ⟨as, hr, hm⟩ := DpE.readsAll I hS ds _ its ha rv
      exact ⟨_, Reads.tuple ho hc hd hr, hm⟩
  | .dict _, _, _, h, r => by
    cases h with
    | @emp a e =>
      cases r
      obtain ⟨_, hsm, vs, kv, o, es, ep, ho, hx, hd, _, pr, _⟩ := dk_of I.hok e
      have ev : vs = [] := by cases kv; rfl
      subst ev
      have ee : es.toList = [] := by
        have := pr.length
        exact List.length_eq_zero_iff.mp this
      refine ⟨_, Reads.dict (kvs := []) ho hx.1 hd (as := []) (bs := []) (by rw [ee]; exact .nil) (by rw [ee]; exact .nil), fun z => ?_⟩
      simp only [List.append_nil, List.mem_singleton] at z
      rw [← z] at hsm
      simp at hsm
theorem DpE.readsAll (I : Inv X pins σ H s) (hS : SmOk X.K) : ∀ (ds : List PyData) (vs : List V) (us : List Value), DpEs X.K H vs ds → Vals vs us → ∃ as, ReadsAll s.heap us ds as ∧ sysModules ∉ as
  | [], _, _, h, r => by
    cases h
    cases r
    exact ⟨_, ReadsAll.nil, by simp⟩
  | d :: ds, _, _, h, r => by
    cases h with
    | cons h1 h2 =>
      cases r with
      | cons r1 r2 =>
        obtain ⟨as, q1, m1⟩ := DpE.reads I hS d _ _ h1 r1
        obtain ⟨bs, q2, m2⟩ := DpE.readsAll I hS ds _ _ h2 r2
        exact ⟨_, ReadsAll.cons q1 q2, fun z => (List.mem_append.mp z).elim m1 m2⟩
end
end
section
variable {X : Cx} {B : Bd} {pos p : Pos} {k : Nat} {wx : DW} {e : Expr} {tA : DTA}
def rReprE (K : Frag) : List V → Hp → VK → Prop := fun xs H Q => ∃ v d, xs = [v] ∧ DpE K H v d ∧ d.showable = true ∧ d.depth ≤ 64 ∧ d.shown.length ≤ sizeLine ∧ Q (.str d.shown) H
theorem cr_reprE (hgd : X.A.guards = some []) (hu : X.A.units + 66 < cLine) (hS : SmOk X.K) : CallR X (.builtin "repr") (rReprE X.K) := by
  intro pins s σ H xs us Q I r h
  obtain ⟨v, d, rfl, hd, hs, hdp, hz, q⟩ := h
  obtain ⟨u, rfl, ru⟩ := vals1 r
  cases v with
  | ref a =>
    cases ru
    obtain ⟨as, rd, hm⟩ := DpE.reads I hS d _ _ hd rfl
    exact repr_of_reads' rd hs (fun _ => hm) hgd (by omega) (fun _ _ e => e) (fun h' u tk hk => ⟨.str _, H, I.kept hk, ⟨_, rfl⟩, q⟩) hz
  | non => cases hd; cases ru; exact PySem.P.repr_of_none ⟨.str _, H, I.tok _, ⟨_, rfl⟩, by simpa [PyData.shown] using q⟩
  | bl b => cases hd; cases ru; exact PySem.P.repr_of_bool ⟨.str _, H, I.tok _, ⟨_, rfl⟩, by simpa [PyData.shown] using q⟩
  | int i => cases hd; obtain ⟨t, rfl⟩ := ru; exact PySem.P.repr_of_int (by simpa [PyData.showable] using hs) ⟨.str _, H, I.tok _, ⟨_, rfl⟩, by simpa [PyData.shown] using q⟩
  | str x => cases hd; obtain ⟨t, rfl⟩ := ru; exact PySem.P.repr_of_str ⟨.str _, H, I.tok _, ⟨_, rfl⟩, by simpa [PyData.shown] using q⟩
  | _ => cases hd
mutual
def asE (O : Ow) : D → Option PyData
  | .non => some .none
  | .bl b => some (.bool b)
  | .int i => some (.int i)
  | .str s => some (.str s)
  | .lst ds => (asEs O ds).map .list
  | .tup ds => (asEs O ds).map .tuple
  | .ref p => match O p with
    | some (.lst ds) => if pds ds = true then some (.list (pys ds)) else none
    | some (.dK []) => some (.dict [])
    | _ => none
  | .ty _ => none
  | .ins _ _ _ => none
def asEs (O : Ow) : List D → Option (List PyData)
  | [] => some []
  | d :: ds => match asE O d, asEs O ds with
    | some a, some b => some (a :: b)
    | _, _ => none
end
mutual
theorem dp_E {K : Frag} {H : Hp} : ∀ {v : V} {d : PyData}, Dp K H v d → DpE K H v d
  | _, _, .non => .non
  | _, _, .bl b => .bl b
  | _, _, .int i => .int i
  | _, _, .str s => .str s
  | _, _, .lst h r => .lst h (dps_E r)
  | _, _, .tup h r => .tup h (dps_E r)
theorem dps_E {K : Frag} {H : Hp} : ∀ {vs : List V} {ds : List PyData}, DpAll K H vs ds → DpEs K H vs ds
  | _, _, .nil => .nil
  | _, _, .cons h r => .cons (dp_E h) (dps_E r)
end
mutual
theorem asE_dp {K : Frag} {O : Ow} {H F : Hp} (fh : Same F H) (ow : OwOk K O H F) : ∀ {d : D} {v : V} {a : PyData}, RV K F d v → asE O d = some a → DpE K H v a
  | _, _, _, .non, h => by simp only [asE] at h; cases h; exact .non
  | _, _, _, .bl b, h => by simp only [asE] at h; cases h; exact .bl b
  | _, _, _, .int i, h => by simp only [asE] at h; cases h; exact .int i
  | _, _, _, .str s, h => by simp only [asE] at h; cases h; exact .str s
  | _, _, _, .lst hs hr, h => by
    simp only [asE] at h
    obtain ⟨as, e, rfl⟩ := Option.map_eq_some_iff.mp h
    exact .lst (fh.seq hs) (asEs_dp fh ow hr e)
  | _, _, _, .tup hs hr, h => by
    simp only [asE] at h
    obtain ⟨as, e, rfl⟩ := Option.map_eq_some_iff.mp h
    exact .tup (same_tup fh hs) (asEs_dp fh ow hr e)
  | _, _, _, .ref p, h => by
    simp only [asE] at h
    split at h
    · rename_i ds e
      split at h
      · rename_i e2
        cases h
        obtain ⟨_, ho, e1, vs, rfl, r⟩ := ow _ _ e
        exact .lst (SqL.of e1) (dps_E (r.dp fh e2))
      · cases h
    · rename_i e
      cases h
      obtain ⟨_, ho, e1, vs, rfl, r⟩ := ow _ _ e
      cases r
      exact .emp e1
    · cases h
  | _, _, _, .ty n, h => by simp only [asE] at h; cases h
  | _, _, _, .ins _ _ _, h => by simp only [asE] at h; cases h
theorem asEs_dp {K : Frag} {O : Ow} {H F : Hp} (fh : Same F H) (ow : OwOk K O H F) : ∀ {ds : List D} {vs : List V} {as : List PyData}, RVs K F ds vs → asEs O ds = some as → DpEs K H vs as
  | _, _, _, .nil, h => by simp only [asEs] at h; cases h; exact .nil
  | d :: ds, _, _, .cons r1 r2, h => by
    simp only [asEs] at h
    cases e1 : asE O d with
    | none => rw [e1] at h; cases h
    | some a =>
      cases e2 : asEs O ds with
      | none => rw [e1, e2] at h; cases h
      | some b =>
        rw [e1, e2] at h
        cases h
        exact .cons (asE_dp fh ow r1 e1) (asEs_dp fh ow r2 e2)
end
def dReprE : List D → Ow → DQ → Prop := fun ds O q => match ds with
  | [d] => ∃ a, asE O d = some a ∧ a.showable = true ∧ a.depth ≤ 64 ∧ a.shown.length ≤ sizeLine ∧ q (.str a.shown) O
  | _ => False
theorem sim_reprE : SimC B (rReprE B.K) dReprE := by
  intro env O σ H F vs ds q Q R r h k
  match ds, r, h with
  | [d], r, ⟨a, e, h1, h2, h3, h⟩ =>
    obtain ⟨v, rfl, r1⟩ := r.one
    exact ⟨v, a, rfl, asE_dp R.fh R.ow r1 e, h1, h2, h3, k _ _ O H F (.refl R) (.str _) h⟩
theorem so_reprE (S : Site X B k wx) (hS : SmOk X.K) (hg : Gl X "repr") (hm : X.mg "repr" = none) (ha : PA X [e] (liftA B tA)) (he : starEach [e] X.env = (false, eval e X.env) :: starEach [] X.env := by rfl) (hpl : (backTo pos (starEach [] X.env)).any (·.1) = false := by rfl) : PE X (.Call (.Name "repr" p) [e] [] pos) (lift B (dCB dReprE tA)) :=
  de_cb (by rw [S.hK]; exact sim_reprE) (pe_callB (cr_reprE S.gd S.u66 hS) hg hm bt_repr ha (by decide) (by decide) he hpl)
mutual
theorem asE_pd {O : Ow} : ∀ {d : D}, pd d = true → asE O d = some (py d)
  | .non, _ => by simp [asE, py]
  | .bl b, _ => by simp [asE, py]
  | .int i, _ => by simp [asE, py]
  | .str s, _ => by simp [asE, py]
  | .lst ds, h => by
    have h : pds ds = true := by simpa [pd] using h
    simp [asE, py, asEs_pd h]
  | .tup ds, h => by
    have h : pds ds = true := by simpa [pd] using h
    simp [asE, py, asEs_pd h]
  | .ref _, h => by simp [pd] at h
  | .ty _, h => by simp [pd] at h
  | .ins _ _ _, h => by simp [pd] at h
theorem asEs_pd {O : Ow} : ∀ {ds : List D}, pds ds = true → asEs O ds = some (pys ds)
  | [], _ => by simp [asEs, pys]
  | d :: ds, h => by
    simp only [pds, Bool.and_eq_true] at h
    simp [asEs, pys, asE_pd h.1, asEs_pd h.2]
end
/-- what may be shown: its data -/
def shE (a : PyData) : Prop := a.showable = true ∧ a.depth ≤ 64 ∧ a.shown.length ≤ 1000000
theorem i_reprE {O : Ow} {q : DQ} {d : D} {a : PyData} (e : asE O d = some a) (h : shE a) (hq : q (.str a.shown) O) : dReprE [d] O q := ⟨a, e, h.1, h.2.1, by rw [sizeLine_eq]; have := h.2.2; omega, hq⟩
end
end DL
set_option Elab.async false
set_option linter.all false
set_option maxRecDepth 100000
set_option maxHeartbeats 4000000
namespace L2
open PySem PySem.Spec PyProof.Rows
end L2
namespace DL
open PySem PySem.Spec PyProof.Rows L2
structure DHd where
  c : Value
  i : Option Nat
  ts : Addr → Value → List (Str × D) → DTS
def dEndsM (i : Option Nat) (E : DEnds) : DEnds := match i with
  | none => E
  | some i => { nx := fun e o => E.nx (e.set i none) o, rt := E.rt, bk := fun e o => E.bk (e.set i none) o, ct := fun e o => E.ct (e.set i none) o }
def dSlotM (i : Option Nat) (a : Addr) (env : Env) : Env := match i with
  | none => env
  | some i => env.set i (some (.ref a))
def dwM (K : Frag) (wx : DW) (E : DEnds) : List DHd → DW
  | [] => wx
  | z :: r => fun cls fs env' O' => ∃ b, PySem.W.exmOne K cls z.c = some b ∧ (b = true → ∀ a, O' a = none → z.ts a cls fs (dEndsM z.i E) (dSlotM z.i a env') O') ∧ (b = false → dwM K wx E r cls fs env' O')
def dTryM (K : Frag) (tb : DW → DTS) (l : List DHd) (wx : DW) : DTS := fun E env O => tb (dwM K wx E l) E env O
section
variable {X : Cx} {B : Bd} {k : Nat} {wx : DW} {body : List Stmt} {h₀ : ExceptHandler} {hds : List ExceptHandler} {l : List DHd} {pos : Pos} {tb : DW → DTS}
theorem i_tryM {K : Frag} {E : DEnds} {env : Env} {O : Ow} (h : tb (dwM K wx E l) E env O) : dTryM K tb l wx E env O := h
end
end DL
namespace DL
open PySem PySem.Spec PyProof.Rows L2
def excCB (x : Str) : Fac := fun K => He.eqO (PySem.W.findIn K (.ref (He.ga K x)) "__getattribute__") (some (some (.builtin "BaseException.__getattribute__"))) && (He.eqO (PySem.W.findIn K (.ref (He.ga K x)) "__getattr__") (some none) &&
  (decide (PySem.W.subIn K (.ref (He.ga K x)) (.type "BaseException") = some true) && (PySem.W.hasDictIn K (He.ga K x) && (He.eqO (PySem.W.findIn K (.ref (He.ga K x)) "__class__") (some (some (.builtin "object.__class__"))) &&
  (He.eqO (PySem.W.specialIn K (.builtin "object.__class__") "__get__") (some (some (.builtin "getset_descriptor.__get__"))) && (decide (PySem.W.takesIn K (.builtin "object.__class__") = some true) && decide (PySem.W.mroIn K (He.ga K x) (.type "object") = some true)))))))
theorem excCB_ok {K : Frag} {x : Str} (h : excCB x K = true) : ExcC K (He.ga K x) := by
  unfold excCB at h
  simp only [Bool.and_eq_true, decide_eq_true_eq] at h
  obtain ⟨h1, h2, h3, h4, h5, h6, h7, h8⟩ := h
  exact ⟨He.eqO_ok h1, He.eqO_ok h2, h3, h4, He.eqO_ok h5, He.eqO_ok h6, h7, h8⟩
end DL
set_option Elab.async false
set_option linter.all false
set_option maxRecDepth 100000
set_option maxHeartbeats 4000000
namespace DL
open PySem PySem.Spec PyProof.Rows L2
mutual
theorem asE_mono {O O' : Ow} (s : SubO O O') : ∀ {d : D} {a : PyData}, asE O d = some a → asE O' d = some a
  | .non, _, h => by simpa [asE] using h
  | .bl _, _, h => by simpa [asE] using h
  | .int _, _, h => by simpa [asE] using h
  | .str _, _, h => by simpa [asE] using h
  | .lst ds, _, h => by
    simp only [asE] at h ⊢
    obtain ⟨as, e, rfl⟩ := Option.map_eq_some_iff.mp h
    rw [asEs_mono s e]; rfl
  | .tup ds, _, h => by
    simp only [asE] at h ⊢
    obtain ⟨as, e, rfl⟩ := Option.map_eq_some_iff.mp h
    rw [asEs_mono s e]; rfl
  | .ref p, _, h => by
    simp only [asE] at h ⊢
    cases e : O p with
    | none => rw [e] at h; cases h
    | some o => rw [e] at h; rw [s p o e]; exact h
  | .ty _, _, h => by simp [asE] at h
  | .ins _ _ _, _, h => by simp [asE] at h
theorem asEs_mono {O O' : Ow} (s : SubO O O') : ∀ {ds : List D} {as : List PyData}, asEs O ds = some as → asEs O' ds = some as
  | [], _, h => by simpa [asEs] using h
  | d :: ds, as, h => by
    simp only [asEs] at h ⊢
    cases e1 : asE O d with
    | none => rw [e1] at h; cases h
    | some a =>
      cases e2 : asEs O ds with
      | none => rw [e1, e2] at h; cases h
      | some b =>
        rw [e1, e2] at h
        rw [asE_mono s e1, asEs_mono s e2]
        exact h
end
end DL
set_option Elab.async false
set_option linter.all false
set_option maxRecDepth 100000
set_option maxHeartbeats 4000000
namespace DL
open PySem PySem.Spec PyProof.Rows L2
open TL (tl tl_append tl_join joinL tl_mk)
/-- what can be shown with few and common signs -/
structure ShP (a : PyData) (m k : Nat) : Prop where
  sh : a.showable = true
  dp : a.depth ≤ k
  ln : (tl a.shown).length ≤ m
  sg : ∀ x ∈ tl a.shown, x < 128
def shP (a : PyData) (m k : Nat) : Bool := a.showable && decide (a.depth ≤ k) && decide ((tl a.shown).length ≤ m) && (tl a.shown).all fun x => decide (x < 128)
theorem shP_ok {a : PyData} {m k : Nat} (h : shP a m k = true) : ShP a m k := by
  simp only [shP, Bool.and_eq_true, decide_eq_true_eq, List.all_eq_true] at h
  exact ⟨h.1.1.1, h.1.1.2, h.1.2, h.2⟩
theorem ShP.mono {a : PyData} {m k m' k' : Nat} (h : ShP a m k) (hm : m ≤ m') (hk : k ≤ k') : ShP a m' k' := ⟨h.sh, Nat.le_trans h.dp hk, Nat.le_trans h.ln hm, h.sg⟩
theorem ShP.shE {a : PyData} {m k : Nat} (h : ShP a m k) (hm : m ≤ 1000000) (hk : k ≤ 64) : shE a := ⟨h.sh, Nat.le_trans h.dp hk, by rw [tl_len]; exact Nat.le_trans h.ln hm⟩
theorem ShP.good {a : PyData} {m k : Nat} (h : ShP a m k) : strGood a.shown = true := by
  simp only [strGood, PyData.canLay0, PyData.strOk, Array.all_eq_true_iff_forall_mem, decide_eq_true_eq]
  intro x hx
  have := h.sg x (by simpa [tl] using hx)
  omega
theorem depthAll_le {k : Nat} : ∀ {as : List PyData}, (∀ a ∈ as, a.depth ≤ k) → PyData.depthAll as ≤ k
  | [], _ => by simp [PyData.depthAll]
  | a :: as, h => by
    simp only [PyData.depthAll]
    have h1 := h a List.mem_cons_self
    have h2 := depthAll_le (as := as) fun b hb => h b (List.mem_cons_of_mem _ hb)
    omega
theorem shownAll_map : ∀ as : List PyData, PyData.shownAll as = as.map PyData.shown
  | [] => by simp only [PyData.shownAll, List.map_nil]
  | a :: as => by simp only [PyData.shownAll, List.map_cons, shownAll_map as]
section
variable {as : List PyData} {m k : Nat}
theorem seq_ln (h : ∀ a ∈ as, ShP a m k) : (joinL [44, 32] (as.map fun a => tl a.shown)).length ≤ as.length * (m + 2) := by
  have := joinL_len (S := [44, 32]) (ps := as.map fun a => tl a.shown) (m := m) fun p hp => by
    obtain ⟨a, ha, rfl⟩ := List.mem_map.mp hp
    exact (h a ha).ln
  rw [List.length_map] at this
  exact this
theorem seq_sg (h : ∀ a ∈ as, ShP a m k) : ∀ x ∈ joinL [44, 32] (as.map fun a => tl a.shown), x < 128 := fun x hx => by
  rcases joinL_mem hx with h2 | ⟨p, hp, h2⟩
  · simp only [List.mem_cons, List.mem_nil_iff, or_false] at h2
    rcases h2 with rfl | rfl <;> decide
  · obtain ⟨a, ha, rfl⟩ := List.mem_map.mp hp
    exact (h a ha).sg x h2
theorem tl_shownAll : (PyData.shownAll as).map tl = as.map fun a => tl a.shown := by rw [shownAll_map, List.map_map]; rfl
theorem ShP.list (h : ∀ a ∈ as, ShP a m k) : ShP (.list as) (as.length * (m + 2) + 2) (k + 1) := by
  have e : tl (PyData.list as).shown = 91 :: (joinL [44, 32] (as.map fun a => tl a.shown) ++ [93]) := by
    rw [PyData.shown_list, tl_append, tl_append, tl_join, tl_shownAll]
    rfl
  refine ⟨by rw [PyData.showable]; exact showableAll_of fun a ha => (h a ha).sh, by simp only [PyData.depth]; have := depthAll_le fun a ha => (h a ha).dp; omega, ?_, fun x hx => ?_⟩
  · rw [e]
    have := seq_ln h
    simp only [List.length_cons, List.length_append, List.length_nil]
    omega
  · rw [e] at hx
    simp only [List.mem_cons, List.mem_append, List.mem_nil_iff, or_false] at hx
    rcases hx with rfl | hx | rfl
    · decide
    · exact seq_sg h x hx
    · decide
theorem ShP.tuple (h : ∀ a ∈ as, ShP a m k) : ShP (.tuple as) (as.length * (m + 2) + 3) (k + 1) := by
  have e : tl (PyData.tuple as).shown = 40 :: (joinL [44, 32] (as.map fun a => tl a.shown) ++ if as.length == 1 then [44, 41] else [41]) := by
    rw [PyData.shown_tuple, tl_append, tl_append, tl_join, tl_shownAll]
    cases as.length == 1 <;> rfl
  refine ⟨by rw [PyData.showable]; exact showableAll_of fun a ha => (h a ha).sh, by simp only [PyData.depth]; have := depthAll_le fun a ha => (h a ha).dp; omega, ?_, fun x hx => ?_⟩
  · rw [e]
    have := seq_ln h
    simp only [List.length_cons, List.length_append]
    have h2 : (if (as.length == 1) = true then ([44, 41] : List Nat) else [41]).length ≤ 2 := by split <;> simp
    omega
  · rw [e] at hx
    simp only [List.mem_cons, List.mem_append] at hx
    rcases hx with rfl | hx | hx
    · decide
    · exact seq_sg h x hx
    · split at hx <;> simp only [List.mem_cons, List.mem_nil_iff, or_false] at hx
      · rcases hx with rfl | rfl <;> decide
      · subst hx; decide
end
/-- data of any kind that can be shown -/
def OkE (O : Ow) (d : D) (m k : Nat) : Prop := ∃ a, asE O d = some a ∧ ShP a m k
theorem OkE.sub {O O' : Ow} {d : D} {m k : Nat} (h : OkE O d m k) (s : SubO O O') : OkE O' d m k := let ⟨a, e, r⟩ := h; ⟨a, asE_mono s e, r⟩
theorem OkE.mono {O : Ow} {d : D} {m k m' k' : Nat} (h : OkE O d m k) (hm : m ≤ m') (hk : k ≤ k') : OkE O d m' k' := let ⟨a, e, r⟩ := h; ⟨a, e, r.mono hm hk⟩
theorem OkE.all {O : Ow} {m k : Nat} : ∀ {ds : List D}, (∀ d ∈ ds, OkE O d m k) → ∃ as, asEs O ds = some as ∧ as.length = ds.length ∧ ∀ a ∈ as, ShP a m k
  | [], _ => ⟨[], by simp [asEs], rfl, by simp⟩
  | d :: ds, h => by
    obtain ⟨a, e1, r1⟩ := h d List.mem_cons_self
    obtain ⟨as, e2, l2, r2⟩ := OkE.all (ds := ds) fun x hx => h x (List.mem_cons_of_mem _ hx)
    refine ⟨a :: as, by simp [asEs, e1, e2], by simp [l2], fun x hx => ?_⟩
    rcases List.mem_cons.mp hx with rfl | hx
    · exact r1
    · exact r2 x hx
theorem OkE.lst {O : Ow} {ds : List D} {m k : Nat} (h : ∀ d ∈ ds, OkE O d m k) : OkE O (.lst ds) (ds.length * (m + 2) + 2) (k + 1) := by
  obtain ⟨as, e, l, r⟩ := OkE.all h
  exact ⟨.list as, by simp [asE, e], by rw [← l]; exact ShP.list r⟩
theorem OkE.tup {O : Ow} {ds : List D} {m k : Nat} (h : ∀ d ∈ ds, OkE O d m k) : OkE O (.tup ds) (ds.length * (m + 2) + 3) (k + 1) := by
  obtain ⟨as, e, l, r⟩ := OkE.all h
  exact ⟨.tuple as, by simp [asE, e], by rw [← l]; exact ShP.tuple r⟩
end DL
namespace DL
open PySem PySem.Spec PyProof.Rows L2
end DL
set_option Elab.async false
set_option linter.all false
set_option maxRecDepth 100000
set_option maxHeartbeats 4000000
namespace DL
open PySem PySem.Spec PyProof.Rows L2
section
variable {X : Cx} {B : Bd} {pos p apos : Pos} {k j n : Nat} {wx : DW} {o e : Expr} {es : List Expr} {x qn m : Str} {st : Stmt} {kws : List (Str × V)} {ps : List Str} {fn : DF} {f C : Addr} {ta : DTE} {tA tB : DTA} {pl : Sem Bool}
def methK (C : Addr) (m : Str) (fn : DF) (n : Nat) (w : DW) (tA : DTA) (env : Env) (q : DQ) : DQ := fun d O1 => ∃ fs, InsAt C O1 d fs ∧ fs.lookup m = none ∧ tA env O1 fun ds O2 => ds.length + 1 = n ∧ fn (d :: ds) O2 q fun c fs O' => w c fs env O'
def dMeth (C : Addr) (m : Str) (fn : DF) (n : Nat) (w : DW) (ta : DTE) (tA : DTA) : DTE := fun env O q => ta env O (methK C m fn n w tA env q)
theorem i_meth {w : DW} {env : Env} {O : Ow} {q : DQ} (h : ta env O (methK C m fn n w tA env q)) : dMeth C m fn n w ta tA env O q := h
theorem i_methO {w : DW} {env : Env} {O : Ow} {q : DQ} {p dx : Addr} {fs : List (Str × D)} (h1 : O p = some (.ins C dx fs)) (h2 : fs.lookup m = none) (h : tA env O fun ds O2 => ds.length + 1 = n ∧ fn (.ref p :: ds) O2 q fun c fs O' => w c fs env O') : methK C m fn n w tA env q (.ref p) O := ⟨fs, ⟨dx, h1⟩, h2, h⟩
theorem i_methI {w : DW} {env : Env} {O : Ow} {q : DQ} {ns : List Str} {zs : List D} (h2 : (ns.zip zs).lookup m = none) (h : tA env O fun ds O2 => ds.length + 1 = n ∧ fn (.ins C ns zs :: ds) O2 q fun c fs O' => w c fs env O') : methK C m fn n w tA env q (.ins C ns zs) O := ⟨_, ⟨rfl, rfl⟩, h2, h⟩
end
def keyD : D → Option Key
  | .int i => some (.inl i)
  | .str x => some (.inr x)
  | _ => none
def valD {κ : Type} [DecidableEq κ] (kvs : List (κ × D)) (k : κ) : Option D := (kvs.find? fun kv => decide (kv.1 = k)).map (·.2)
def putKD {κ : Type} [DecidableEq κ] (kvs : List (κ × D)) (k : κ) (v : D) : List (κ × D) := if kvs.any (fun kv => decide (kv.1 = k)) then kvs.map fun kv => if kv.1 = k then (kv.1, v) else kv else kvs ++ [(k, v)]
section
variable {K : Frag} {F : Hp} {κ : Type} [DecidableEq κ]
theorem RKV.val : ∀ {kvs : List (κ × D)} {ks : List (κ × V)}, RKV K F kvs ks → ∀ (k : κ) {d : D}, valD kvs k = some d → ∃ v, valV ks k = some v ∧ RV K F d v
  | _, _, .nil, k, d, h => by simp [valD] at h
  | _, _, .cons (a := a) (b := b) h t, k, d, e => by
    by_cases hk : a.1 = k
    · rw [valV_pos (h.1 ▸ hk)]
      simp only [valD, List.find?_cons, decide_eq_true hk, Option.map_some, Option.some.injEq] at e
      subst e
      exact ⟨_, rfl, h.2⟩
    · rw [valV_neg (fun z => hk (h.1.trans z))]
      exact RKV.val t k (by simpa only [valD, List.find?_cons, decide_eq_false hk] using e)
theorem RKV.repl (k : κ) {d : D} {v : V} (r : RV K F d v) : ∀ {kvs : List (κ × D)} {ks : List (κ × V)}, RKV K F kvs ks → RKV K F (kvs.map fun kv => if kv.1 = k then (kv.1, d) else kv) (ks.map fun kv => if kv.1 = k then (kv.1, v) else kv)
  | _, _, .nil => .nil
  | _, _, .cons (a := a) (b := b) h t => by
    refine .cons ?_ (RKV.repl k r t)
    have h1 := h.1
    by_cases hk : a.1 = k
    · simp only [if_pos hk, if_pos (h1 ▸ hk)]
      exact ⟨h1, r⟩
    · simp only [if_neg hk, if_neg (h1 ▸ hk)]
      exact h
theorem RKV.snoc {k : κ} {d : D} {v : V} (r : RV K F d v) : ∀ {kvs : List (κ × D)} {ks : List (κ × V)}, RKV K F kvs ks → RKV K F (kvs ++ [(k, d)]) (ks ++ [(k, v)])
  | _, _, .nil => .cons ⟨rfl, r⟩ .nil
  | _, _, .cons h t => .cons h (RKV.snoc r t)
end
section
variable {κ : Type} [DecidableEq κ]
theorem valD_nil (k : κ) : valD ([] : List (κ × D)) k = none := rfl
theorem valD_cons (p : κ × D) (l : List (κ × D)) (k : κ) : valD (p :: l) k = if p.1 = k then some p.2 else valD l k := by
  simp only [valD, List.find?_cons]
  by_cases h : p.1 = k
  · simp [h]
  · simp [h]
theorem valD_any (k : κ) : ∀ kvs : List (κ × D), (kvs.any fun kv => decide (kv.1 = k)) = (valD kvs k).isSome
  | [] => rfl
  | p :: l => by
    rw [List.any_cons, valD_cons, valD_any k l]
    by_cases h : p.1 = k <;> simp [h]
theorem valD_map (k j : κ) (y : D) : ∀ kvs : List (κ × D), valD (kvs.map fun kv => if kv.1 = k then (kv.1, y) else kv) j = (valD kvs j).map fun x => if j = k then y else x
  | [] => rfl
  | p :: l => by
    rw [List.map_cons, valD_cons, valD_cons, valD_map k j y l]
    by_cases h : p.1 = k
    · by_cases h2 : p.1 = j
      · subst h; subst h2; simp
      · simp [h, h2, show ¬ k = j from fun z => h2 (h.trans z)]
    · by_cases h2 : p.1 = j
      · subst h2; simp [h]
      · simp [h, h2]
theorem valD_snoc (k j : κ) (y : D) : ∀ kvs : List (κ × D), valD kvs k = none → valD (kvs ++ [(k, y)]) j = if j = k then some y else valD kvs j
  | [], _ => by
    rw [List.nil_append, valD_cons, valD_nil]
    by_cases h : k = j
    · subst h; simp
    · simp [h, show ¬ j = k from fun z => h z.symm]
  | p :: l, e => by
    rw [valD_cons] at e
    split at e
    · cases e
    · rename_i hp
      rw [List.cons_append, valD_cons, valD_cons, valD_snoc k j y l e]
      by_cases h2 : p.1 = j
      · subst h2; simp [hp]
      · simp [h2]
theorem valD_put (kvs : List (κ × D)) (k j : κ) (y : D) : valD (putKD kvs k y) j = if j = k then some y else valD kvs j := by
  unfold putKD
  rw [valD_any]
  cases e : valD kvs k with
  | none => exact valD_snoc k j y kvs e
  | some x =>
    simp only [Option.isSome_some, if_true]
    rw [valD_map]
    by_cases h : j = k
    · subst h; rw [e]; simp
    · simp [h]
theorem putKD_new {kvs : List (κ × D)} {k : κ} (v : D) (h : valD kvs k = none) : putKD kvs k v = kvs ++ [(k, v)] := by
  unfold putKD
  rw [valD_any, h]
  rfl
theorem putKD_keys {kvs : List (κ × D)} {k : κ} {v : D} (h : (valD kvs k).isSome = true) : (putKD kvs k v).map (·.1) = kvs.map (·.1) := by
  unfold putKD
  rw [valD_any, if_pos h, List.map_map]
  apply List.map_congr_left
  intro a _
  simp only [Function.comp_apply]
  split <;> rfl
end
end DL
set_option Elab.async false
set_option linter.all false
set_option maxRecDepth 100000
set_option maxHeartbeats 4000000
namespace DL
open PySem PySem.Spec PyProof.Rows L2
abbrev XN := NestedKey × Addr × V
abbrev YN := NestedKey × Addr × Value
def XY (x : XN) (y : YN) : Prop := x.1 = y.1 ∧ x.2.1 = y.2.1 ∧ RelV x.2.2 y.2.2
def atN (xs : List XN) (k : NestedKey) : Option (Addr × V) := (xs.find? fun x => decide (x.1 = k)).map (·.2)
def putN (xs : List XN) (k : NestedKey) (b : Addr) (v : V) : List XN := if (atN xs k).isSome then xs.map (fun x => if x.1 = k then (x.1, x.2.1, v) else x) else xs ++ [(k, b, v)]
theorem xy_at {k : NestedKey} : ∀ {xs : List XN} {ys : List YN}, Paired XY xs ys → (∀ p, atN xs k = some p → ∃ q, atKey ys k = some q ∧ RelV p.2 q.2) ∧ (atN xs k = none → atKey ys k = none)
  | _, _, .nil => ⟨fun p h => by simp [atN] at h, fun _ => rfl⟩
  | _, _, .cons (a := x) (b := y) h t => by
    obtain ⟨h1, h2, h3⟩ := h
    by_cases hk : x.1 = k
    · have hk' : y.1 = k := h1 ▸ hk
      refine ⟨fun p e => ?_, fun e => ?_⟩
      · simp only [atN, List.find?_cons, decide_eq_true hk, Option.map_some, Option.some.injEq] at e
        subst e
        exact ⟨y.2, by simp [atKey, List.find?_cons, hk'], h3⟩
      · simp [atN, List.find?_cons, hk] at e
    · have hk' : ¬ y.1 = k := h1 ▸ hk
      obtain ⟨i1, i2⟩ := xy_at (k := k) t
      refine ⟨fun p e => ?_, fun e => ?_⟩
      · obtain ⟨q, e1, e2⟩ := i1 p (by simpa [atN, List.find?_cons, hk] using e)
        exact ⟨q, by simpa [atKey, List.find?_cons, hk'] using e1, e2⟩
      · have := i2 (by simpa [atN, List.find?_cons, hk] using e)
        simpa [atKey, List.find?_cons, hk'] using this
section
variable {X : Cx} {pins : List (Addr × Obj)} {σ : St} {H : Hp} {s : Shared} {a b : Addr} {xs : List XN} {k : NestedKey} {A : Around} {E : Value → Shared → Prop}
/-- such a dict, walked or not -/
def RdN (H : Hp) (w : World) (a : Addr) (xs : List XN) : Prop := H a = some (RawN w a xs) ∨ ∃ od, H a = some (RawNO w a od xs)
end
end DL
set_option Elab.async false
set_option linter.all false
set_option maxRecDepth 100000
set_option maxHeartbeats 4000000
namespace DL
open PySem PySem.Spec PyProof.Rows L2
def isK (k : NestedKey) (d : D) : Bool := decide (nkey d = some k)
def valNk (kvs : List (D × D)) (k : NestedKey) : Option D := (kvs.find? fun kv => isK k kv.1).map (·.2)
def putNk (kvs : List (D × D)) (y : D) (k : NestedKey) (v : D) : List (D × D) := if (valNk kvs k).isSome then kvs.map fun kv => if isK k kv.1 then (kv.1, v) else kv else kvs ++ [(y, v)]
theorem isK_of {d : D} {j k : NestedKey} (h : nkey d = some j) : isK k d = decide (j = k) := by
  unfold isK
  rw [h]
  simp
section
variable {K : Frag} {F : Hp}
theorem RN.at {k : NestedKey} : ∀ {kvs : List (D × D)} {xs : List XN}, RN K F kvs xs → (∀ d, valNk kvs k = some d → ∃ p, atN xs k = some p ∧ RV K F d p.2) ∧ (valNk kvs k = none → atN xs k = none)
  | _, _, .nil => ⟨fun d h => by simp [valNk] at h, fun _ => rfl⟩
  | _, _, .cons (a := a) (b := b) h t => by
    obtain ⟨h1, h2, h3, h4⟩ := h
    obtain ⟨i1, i2⟩ := RN.at (k := k) t
    by_cases hk : b.1 = k
    · have hk' : isK k a.1 = true := by rw [isK_of h1]; exact decide_eq_true hk
      refine ⟨fun d e => ?_, fun e => ?_⟩
      · simp only [valNk, List.find?_cons, hk', Option.map_some, Option.some.injEq] at e
        subst e
        exact ⟨b.2, by simp [atN, List.find?_cons, hk], h4⟩
      · simp [valNk, List.find?_cons, hk'] at e
    · have hk' : isK k a.1 = false := by rw [isK_of h1]; exact decide_eq_false hk
      refine ⟨fun d e => ?_, fun e => ?_⟩
      · obtain ⟨p, e1, e2⟩ := i1 d (by simpa [valNk, List.find?_cons, hk'] using e)
        exact ⟨p, by simpa [atN, List.find?_cons, hk] using e1, e2⟩
      · have := i2 (by simpa [valNk, List.find?_cons, hk'] using e)
        simpa [atN, List.find?_cons, hk] using this
theorem RN.repl {k : NestedKey} {d : D} {v : V} (r : RV K F d v) : ∀ {kvs : List (D × D)} {xs : List XN}, RN K F kvs xs → RN K F (kvs.map fun kv => if isK k kv.1 then (kv.1, d) else kv) (xs.map fun x => if x.1 = k then (x.1, x.2.1, v) else x)
  | _, _, .nil => .nil
  | _, _, .cons (a := a) (b := b) h t => by
    refine .cons ?_ (RN.repl r t)
    obtain ⟨h1, h2, h3, h4⟩ := h
    by_cases hk : b.1 = k
    · have hk' : isK k a.1 = true := by rw [isK_of h1]; exact decide_eq_true hk
      simp only [hk', if_true, if_pos hk]
      exact ⟨h1, h2, h3, r⟩
    · have hk' : isK k a.1 = false := by rw [isK_of h1]; exact decide_eq_false hk
      simp only [hk', if_neg hk]
      exact ⟨h1, h2, h3, h4⟩
theorem RN.snoc {y d : D} {z : XN} (r : nkey y = some z.1 ∧ z.1.depth ≤ 8 ∧ RV K F y (.ref z.2.1) ∧ RV K F d z.2.2) : ∀ {kvs : List (D × D)} {xs : List XN}, RN K F kvs xs → RN K F (kvs ++ [(y, d)]) (xs ++ [z])
  | _, _, .nil => .cons r .nil
  | _, _, .cons h t => .cons h (RN.snoc r t)
theorem RN.put {y d : D} {k : NestedKey} {b : Addr} {v : V} {kvs : List (D × D)} {xs : List XN} (h : RN K F kvs xs) (hk : nkey y = some k) (h8 : k.depth ≤ 8) (ry : RV K F y (.ref b)) (r : RV K F d v) : RN K F (putNk kvs y k d) (putN xs k b v) := by
  unfold putNk putN
  obtain ⟨i1, i2⟩ := h.at (k := k)
  cases e : valNk kvs k with
  | none => rw [i2 e]; exact h.snoc ⟨hk, h8, ry, r⟩
  | some x =>
    obtain ⟨p, e1, _⟩ := i1 x e
    rw [e1]
    exact h.repl r
end
def Look (w : World) (O : Ow) (p : Addr) (y : D) (r : Option D) : Prop :=
  (∃ kvs k, (O p = some (.dK kvs) ∨ ∃ u, O p = some (.fK u kvs)) ∧ keyD y = some k ∧ r = valD kvs k) ∨ ∃ kvs k ds, (O p = some (.dN w kvs) ∨ ∃ u, O p = some (.fN u w kvs)) ∧ y = .tup ds ∧ nkey y = some k ∧ k.depth ≤ 8 ∧ r = valNk kvs k
def Stor (w : World) (O : Ow) (p : Addr) (y v : D) (o : OD) : Prop :=
  (∃ kvs k, O p = some (.dK kvs) ∧ keyD y = some k ∧ kvs.length < sizeLine ∧ o = .dK (putKD kvs k v)) ∨ ∃ kvs k ds, O p = some (.dN w kvs) ∧ y = .tup ds ∧ nkey y = some k ∧ k.depth ≤ 8 ∧ kvs.length < sizeLine ∧ o = .dN w (putNk kvs y k v)
section
variable {X : Cx} {B : Bd} {pos pos' p apos cpos : Pos} {k : Nat} {wx : DW} {o i e f value : Expr} {td ty tv tx : DTE}
def dputK (w : World) (v x : D) (env : Env) (E : DEnds) : DQ := fun y O3 => ∃ p o, x = .ref p ∧ Stor w O3 p y v o ∧ E.nx env (setO O3 p o)
def dDPut (w : World) (td ty tv : DTE) : DTS := fun E env O => tv env O fun v O1 => td env O1 fun x O2 => ty env O2 (dputK w v x env E)
def dDict0N (w : World) : DTE := fun _ O q => ∀ p, O p = none → q (.ref p) (setO O p (.dN w []))
def IsDct (w : World) (O : Ow) (p : Addr) : Prop := (∃ kvs, O p = some (.dK kvs) ∨ ∃ u, O p = some (.fK u kvs)) ∨ ∃ kvs, O p = some (.dN w kvs)
def get2K2 (w : World) (p : Addr) (y : D) (q : DQ) : DQ := fun z O3 => ∃ r, Look w O3 p y r ∧ q (r.getD z) O3
def get2K (w : World) (ty tx : DTE) (env : Env) (q : DQ) : DQ := fun x O1 => ∃ p, x = .ref p ∧ IsDct w O1 p ∧ ty env O1 fun y O2 => tx env O2 (get2K2 w p y q)
def dGet2 (w : World) (td ty tx : DTE) : DTE := fun env O q => td env O (get2K w ty tx env q)
end
section
variable {w : World} {O : Ow} {q : DQ} {p : Addr} {y v : D} {kvs : List (Key × D)} {kvn : List (D × D)} {k : Key} {n : NestedKey} {env : Env} {E : DEnds} {td ty tv tx : DTE} {ds : List D}
theorem i_dput (h : tv env O fun v O1 => td env O1 fun x O2 => ty env O2 (dputK w v x env E)) : dDPut w td ty tv E env O := h
theorem i_dict0N (h : ∀ p, O p = none → q (.ref p) (setO O p (.dN w []))) : dDict0N w env O q := h
theorem i_get2 (h : td env O (get2K w ty tx env q)) : dGet2 w td ty tx env O q := h
end
end DL
set_option Elab.async false
set_option linter.all false
set_option maxRecDepth 100000
set_option maxHeartbeats 4000000
namespace DL
open PySem PySem.Spec PyProof.Rows L2
def dcGo (g : DTG) (tt : DTT) (tk tv : DTE) (Gd : Ow → Prop) : List D → Env → List (Key × D) → Ow → (List (Key × D) → Ow → Prop) → Prop
  | [], _, acc, O, q => Gd O ∧ q acc O
  | x :: xs, env, acc, O, q => Gd O ∧ g x env O fun env2 _ => tt env2 O fun b O3 => if b = true then tk env2 O3 fun y O4 => tv env2 O4 fun z O5 => ∃ k o2, keyD y = some k ∧ acc.length < sizeLine ∧ SubO o2 O5 ∧ dcGo g tt tk tv Gd xs env (putKD acc k z) o2 q else ∃ o2, SubO o2 O3 ∧ dcGo g tt tk tv Gd xs env acc o2 q
def dDc (wi : DTI) (g : DTG) (tt : DTT) (tk tv : DTE) (vs : List Nat) : DTE := fun env O q => wi env O fun xs Gd O1 => dcGo g tt tk tv Gd xs (wipeD env vs) [] O1 fun kvs O2 => ∀ p, O2 p = none → q (.ref p) (setO O2 p (.dK kvs))
section
variable {X : Cx} {B : Bd} {pos : Pos} {tg : Expr}
theorem i_dc {wi : DTI} {g : DTG} {tt : DTT} {tk tv : DTE} {vs : List Nat} {env : Env} {O : Ow} {q : DQ} (h : wi env O fun xs Gd O1 => dcGo g tt tk tv Gd xs (wipeD env vs) [] O1 fun kvs O2 => ∀ p, O2 p = none → q (.ref p) (setO O2 p (.dK kvs))) : dDc wi g tt tk tv vs env O q := h
end
/-- what is walked: the i-th of f kvs -/
def dwK (f : List (Key × D) → List D) (q : List D → (Ow → Prop) → Ow → Prop) : DQ := fun d O1 => ∃ p kvs, d = .ref p ∧ ((O1 p = some (.dK kvs) ∧ ∀ u, q (f kvs) (fun O' => O' p = some (.fK u kvs)) (setO O1 p (.fK u kvs))) ∨ ∃ u, O1 p = some (.fK u kvs) ∧ q (f kvs) (fun O' => O' p = some (.fK u kvs)) O1)
def diDct (f : List (Key × D) → List D) (te : DTE) : DTI := fun env O q => te env O (dwK f q)
section
variable {X : Cx} {B : Bd} {pos apos cpos tpos : Pos} {k : Nat} {wx : DW} {tg e : Expr} {te : DTE}
theorem i_dct {f : List (Key × D) → List D} {env : Env} {O : Ow} {q : List D → (Ow → Prop) → Ow → Prop} (h : te env O (dwK f q)) : diDct f te env O q := h
end
section
variable {X : Cx} {B : Bd} {pos p : Pos} {k : Nat} {wx : DW} {e : Expr} {kws : List Keyword} {tA tB : DTA}
def dCKw (r : List D → List D → Ow → DQ → Prop) (ta tb : DTA) : DTE := fun env O q => ta env O fun ds O1 => tb env O1 fun es O2 => r ds es O2 q
theorem i_ckw {r : List D → List D → Ow → DQ → Prop} {env : Env} {O : Ow} {q : DQ} (h : tA env O fun ds O1 => tB env O1 fun es O2 => r ds es O2 q) : dCKw r tA tB env O q := h
end
end DL
set_option Elab.async false
set_option linter.all false
set_option maxRecDepth 100000
set_option maxHeartbeats 4000000
namespace DL
open PySem PySem.Spec PyProof.Rows L2
end DL
set_option Elab.async false
set_option linter.all false
set_option maxRecDepth 100000
set_option maxHeartbeats 4000000
namespace DL
open PySem PySem.Spec PyProof.Rows L2
/-- the own lists at the addresses of A as data, n levels deep -/
def dv (A : Addr → Bool) (O : Ow) : Nat → D → D
  | 0, d => d
  | n + 1, .ref p => if A p then (match O p with | some (.lst ds) => .lst (ds.map (dv A O n)) | _ => .ref p) else .ref p
  | n + 1, .tup ds => .tup (ds.map (dv A O n))
  | n + 1, .lst ds => .lst (ds.map (dv A O n))
  | _ + 1, d => d
def cutA (A : Addr → Bool) (O : Ow) : Ow := fun a => if A a then none else O a
def iceA (q : DQ) : DQ := fun d O1 => ∃ (A : Addr → Bool) (n : Nat), (∀ a, A a = true → ∃ ds, O1 a = some (.lst ds)) ∧ q (dv A O1 n d) (cutA A O1)
def dIceA (t : DTE) : DTE := fun env O q => t env O (iceA q)
theorem i_iceA {t : DTE} {env : Env} {O : Ow} {q : DQ} (h : t env O (iceA q)) : dIceA t env O q := h
end DL
set_option Elab.async false
set_option linter.all false
set_option maxRecDepth 100000
set_option maxHeartbeats 4000000
namespace DL
open PySem PySem.Spec PyProof.Rows L2
theorem del_set {O : Ow} {p : Addr} {o : OD} : delO (setO O p o) p = delO O p := by
  funext b; unfold delO setO; split <;> rfl
/-- what is owned beside p stays -/
def Ex (p : Addr) (O O' : Ow) : Prop := SubO (delO O p) (delO O' p)
section
variable {p r : Addr} {O O' O2 : Ow} {o : OD} {m m' : Int}
theorem Ex.refl : Ex p O O := SubO.refl _
theorem Ex.trans (h : Ex p O O') (h' : Ex p O' O2) : Ex p O O2 := SubO.trans h h'
theorem Ex.at (h : Ex p O O') (hr : r ≠ p) (e : O r = some o) : O' r = some o := by
  have := h r o (by rw [delO_ne hr]; exact e)
  rw [delO_ne hr] at this
  exact this
theorem Ex.set (h : Ex p O O') : Ex p O (setO O' p o) := by
  unfold Ex
  rw [del_set]
  exact h
/-- a thing that the first moment did not know -/
theorem Ex.mine (h : Ex p O O') (h0 : O r = none) : Ex p O (setO O' r o) := fun a x e => by
  have h1 : a ≠ p := fun z => by unfold delO at e; rw [if_pos z] at e; cases e
  have h2 : a ≠ r := fun z => by rw [delO_ne h1, z, h0] at e; cases e
  have := h a x e
  rw [delO_ne h1] at this ⊢
  rw [setO_ne h2]
  exact this
theorem Ex.fresh (h : Ex p O O') (hr : r ≠ p) (h0 : O' r = none) : Ex p O (setO O' r o) := by
  refine h.mine ?_
  cases e : O r with
  | none => rfl
  | some x => rw [h.at hr e] at h0; cases h0
theorem Ex.gone (h : Ex p O O') (hr : r ≠ p) (h0 : O' r = none) : O r = none := by
  cases e : O r with
  | none => rfl
  | some x => rw [h.at hr e] at h0; cases h0
theorem Ex.sub (h : Ex p O O') (s : SubO (delO O p) (delO O2 p)) (hs : SubO O2 O') : Ex p O O2 := s
theorem Ex.weak (h : Ex p O O') (h2 : SubO O2 O) : Ex p O2 O' := fun a x e => by
  have h1 : a ≠ p := fun z => by unfold delO at e; rw [if_pos z] at e; cases e
  refine h a x ?_
  rw [delO_ne h1] at e ⊢
  exact h2 a x e
theorem Bag.off (hb : Bag O p m) (hr : O r = Option.none) : r ≠ p := fun z => by
  obtain ⟨_, _, _, e, _⟩ := hb
  rw [z, e] at hr; cases hr
theorem Bag.put (hb : Bag O p m) (hr : r ≠ p) : Bag (setO O r o) p m := by
  obtain ⟨a, b, c, e, h⟩ := hb
  exact ⟨a, b, c, by rw [setO_ne (Ne.symm hr)]; exact e, h⟩
end
section
variable {X : Cx} {B : Bd} {pos : Pos} {k j n : Nat} {wx : DW} {e : Expr} {C g pa : Addr} {f x qn : Str} {ta : DTE} {st : Stmt} {kws : List (Str × V)} {ps : List Str} {fn : DF}
def propK (C : Addr) (fn : DF) (q : DQ) : DQ := fun d O1 => ∃ fs, InsAt C O1 d fs ∧ fn [d] O1 q fun _ _ _ => False
def dProp (C : Addr) (fn : DF) (ta : DTE) : DTE := fun env O q => ta env O (propK C fn q)
theorem i_prop {env : Env} {O : Ow} {q : DQ} (h : ta env O (propK C fn q)) : dProp C fn ta env O q := h
theorem i_propI {O : Ow} {q : DQ} {ns : List Str} {zs : List D} (h : fn [.ins C ns zs] O q fun _ _ _ => False) : propK C fn q (.ins C ns zs) O := ⟨_, ⟨rfl, rfl⟩, h⟩
end
end DL
set_option Elab.async false
set_option linter.all false
set_option maxRecDepth 100000
set_option maxHeartbeats 4000000
namespace DL
open PySem PySem.Spec PyProof.Rows L2
def isRw : D → Bool
  | .int _ => true
  | _ => false
def rowAt (ms : List D) : D → D
  | .int i => (ms[i.toNat]?).getD .non
  | _ => .non
def putOf : D → Int
  | .tup [.int b, _, _] => b
  | _ => 1
def nxtOf (e : Int) : D → D
  | .tup [_, p, q] => if e = 0 then p else q
  | _ => .non
/-- the machines of the hearers and of the sender -/
structure Mc where
  hs : List D
  ss : List D
def Mc.m (M : Mc) (k : Nat) : List D := if k = 0 then M.ss else M.hs
/-- the bits that the stations on their way put -/
def puts (M : Mc) (ps : List D) : List Int := (ps.zipIdx.filter fun x => isRw x.1).map fun x => putOf (rowAt (M.m x.2) x.1)
def bitL (M : Mc) (ps : List D) : Int := if (0 : Int) ∈ puts M ps then 0 else 1
def silL (S : Nat → Bool) (ps : List D) : List D := ps.mapIdx fun k d => if S k then D.non else d
def earK (W : Nat → Bool) (b : Int) (k : Nat) : Int := if W k then 1 - b else b
def nxtL (M : Mc) (W : Nat → Bool) (b : Int) (ps : List D) : List D := ps.mapIdx fun k d => if isRw d then nxtOf (earK W b k) (rowAt (M.m k) d) else d
def stepL (M : Mc) (W S : Nat → Bool) (ps : List D) : List D := nxtL M W (bitL M (silL S ps)) (silL S ps)
def hearL (M : Mc) (W S : Nat → Bool) (ps : List D) (es : List (List Int)) : List (List Int) := es.mapIdx fun k e => if isRw ((silL S ps).getD k .non) then e ++ [earK W (bitL M (silL S ps)) k] else e
def atRest (ps : List D) : Bool := ps.all fun d => !isRw d
/-- a sending's moment -/
structure Mo where
  ps : List D
  es : List (List Int)
  bits : List Int
def stepM (M : Mc) (W S : Nat → Bool) (x : Mo) : Mo := ⟨stepL M W S x.ps, hearL M W S x.ps x.es, x.bits ++ [bitL M (silL S x.ps)]⟩
section
variable {M : Mc} {W S : Nat → Bool} {ps : List D}
theorem silL_get {k : Nat} : (silL S ps)[k]? = (ps[k]?).map fun d => if S k then D.non else d := by simp [silL, List.getElem?_mapIdx]
theorem nxtL_get {b : Int} {k : Nat} : (nxtL M W b ps)[k]? = (ps[k]?).map fun d => if isRw d then nxtOf (earK W b k) (rowAt (M.m k) d) else d := by simp [nxtL, List.getElem?_mapIdx]
end
end DL
set_option Elab.async false
set_option linter.all false
set_option maxRecDepth 100000
set_option maxHeartbeats 4000000
namespace DL
open PySem PySem.Spec PyProof.Rows L2
end DL
set_option Elab.async false
set_option linter.all false
set_option maxRecDepth 100000
set_option maxHeartbeats 4000000
namespace DL
open PySem PySem.Spec PyProof.Rows L2
end DL
set_option Elab.async false
set_option linter.all false
set_option maxRecDepth 100000
set_option maxHeartbeats 4000000
namespace DL
open PySem PySem.Spec PyProof.Rows L2
end DL
set_option Elab.async false
set_option linter.all false
set_option maxRecDepth 100000
set_option maxHeartbeats 4000000
namespace DL
open PySem PySem.Spec PyProof.Rows L2
end DL
set_option Elab.async false
set_option linter.all false
set_option maxRecDepth 100000
set_option maxHeartbeats 4000000
namespace DL
open PySem PySem.Spec PyProof.Rows L2 PySem.W
end DL
set_option Elab.async false
set_option linter.all false
set_option maxRecDepth 100000
set_option maxHeartbeats 4000000
namespace DL
open PySem PySem.Spec PyProof.Rows L2 ItX
end DL
set_option Elab.async false
set_option linter.all false
set_option maxRecDepth 100000
set_option maxHeartbeats 4000000
namespace DL
open PySem PySem.Spec PyProof.Rows L2 ItX
section
variable {X : Cx} {B : Bd} {k j : Nat} {wx : DW} {tg e : Expr} {C fa fl : Addr} {f : Str} {te : DTE} {tA : DTA} {pos p : Pos} {A1 : Around} {pins : List (Addr × Obj)} {σ : L2.St} {fd : FuncData} {ps : List Str} {sp : Sp}
def diOwnT (C : Addr) (f : Str) (te : DTE) : DTI := fun env O q => te env O fun d O1 => ∃ fs ds, InsAt C O1 d fs ∧ fs.lookup f = some (.tup ds) ∧ q ds (fun _ => True) O1
theorem i_ownT {env : Env} {O : Ow} {q : List D → (Ow → Prop) → Ow → Prop} (h : te env O fun d O1 => ∃ fs ds, InsAt C O1 d fs ∧ fs.lookup f = some (.tup ds) ∧ q ds (fun _ => True) O1) : diOwnT C f te env O q := h
end
end DL
set_option Elab.async false
set_option linter.all false
set_option maxRecDepth 100000
set_option maxHeartbeats 4000000
namespace DL
open PySem PySem.Spec PyProof.Rows L2
/-- the set at a: the values of its entries are xs, in the table's order -/
def SetBase (w : World) (h : Heap) (a : Addr) (us : List Value) : Prop :=
  ∃ o es ep t, h.get? a = some o ∧ o.ExactSet ∧ o.data = .set es ep t ∧ es.toList.map (·.2) = us ∧ es.size < 512 ∧ t.fits es.size = true ∧ Ris t.place.toList ∧ (w.params.followText "set-order" = true ∨ t.led = true)
theorem SetBase.at {w : World} {h h' : Heap} {a : Addr} {us : List Value} (R : SetBase w h a us) (k : ∀ o, h.get? a = some o → h'.get? a = some o) : SetBase w h' a us := by
  obtain ⟨o, es, ep, t, ho, r⟩ := R
  exact ⟨o, es, ep, t, k o ho, r⟩
def keyM (v : Value) : Key := match v with | .int k _ => .inl k | .str x _ => .inr x | _ => .inl 0
def GoodM (w : World) (e : Int × Value) : Prop := ∃ k, keyIs k e.2 = true ∧ e.1 = keyH w k
theorem keyM_is {k : Key} {v : Value} (h : keyIs k v = true) : keyM v = k := by
  rcases keyIs_shape h with ⟨i, t, rfl, rfl⟩ | ⟨x, t, rfl, rfl⟩ <;> rfl
theorem goodM_key {w : World} {e : Int × Value} (g : GoodM w e) : keyIs (keyM e.2) e.2 = true := by
  obtain ⟨k, h, _⟩ := g
  rw [keyM_is h]; exact h
/-- the set of keys at a -/
def SetM (w : World) (h : Heap) (a : Addr) (ks : List Key) : Prop :=
  ∃ o es ep t, h.get? a = some o ∧ o.ExactSet ∧ o.data = .set es ep t ∧ (∀ e ∈ es.toList, GoodM w e) ∧ es.toList.map (fun e => keyM e.2) = ks ∧ ks.Nodup ∧ es.size < 512 ∧ t.fits es.size = true ∧ Ris t.place.toList ∧ (w.params.followText "set-order" = true ∨ t.led = true)
theorem SetM.at {w : World} {h h' : Heap} {a : Addr} {ks : List Key} (R : SetM w h a ks) (k : ∀ o, h.get? a = some o → h'.get? a = some o) : SetM w h' a ks := by
  obtain ⟨o, es, ep, t, ho, r⟩ := R
  exact ⟨o, es, ep, t, k o ho, r⟩
theorem key_rel {k : Key} {v : Value} (h : keyIs k v = true) : RelV (kV k) v := by
  rcases keyIs_shape h with ⟨i, t, rfl, rfl⟩ | ⟨x, t, rfl, rfl⟩
  · exact ⟨t, rfl⟩
  · exact ⟨t, rfl⟩
theorem SetM.base {w : World} {h : Heap} {a : Addr} {ks : List Key} (R : SetM w h a ks) : ∃ us, SetBase w h a us ∧ Vals (ks.map kV) us := by
  obtain ⟨o, es, ep, t, ho, hx, hd, g, hk, nd, hb, hf, hr, hl⟩ := R
  refine ⟨_, ⟨o, es, ep, t, ho, hx, hd, rfl, hb, hf, hr, hl⟩, ?_⟩
  rw [← hk]
  have : ∀ l : List (Int × Value), (∀ e ∈ l, GoodM w e) → Vals ((l.map fun e => keyM e.2).map kV) (l.map (·.2)) := by
    intro l
    induction l with
    | nil => intro _; exact .nil
    | cons e l ih => intro g; exact .cons (key_rel (goodM_key (g e List.mem_cons_self))) (ih fun e he => g e (List.mem_cons_of_mem _ he))
  exact this _ g
/-- k goes into ks -/
def Adds {ε : Type} (eqv : ε → ε → Prop) (ks : List ε) (k : ε) (ks' : List ε) : Prop := ((∃ e ∈ ks, eqv e k) ∧ ks' = ks) ∨ ((∀ e ∈ ks, ¬ eqv e k) ∧ ks'.Perm (k :: ks))
end DL
set_option Elab.async false
set_option linter.all false
set_option maxRecDepth 100000
set_option maxHeartbeats 4000000
namespace DL
open PySem PySem.Spec PyProof.Rows L2
/-- at a stands a set with the members xs, each once -/
def IsZ (X : Cx) (H : Hp) (a : Addr) (xs : List V) : Prop := ∀ pins σ s, Inv X pins σ H s → ∃ us, SetBase X.w s.heap a us ∧ Vals xs us
section
variable {P : Program} {w : World} {A : Around} {E : Value → Shared → Prop} {s : Shared}
/-- what has come from the first items -/
def GotM (ns : List Key) (i : Nat) (ks : List Key) : Prop := (∀ k, k ∈ ks ↔ k ∈ ns.take i) ∧ ks.length ≤ i
theorem GotM.next {ns ks ks' : List Key} {i : Nat} {k : Key} (g : GotM ns i ks) (h : ns[i]? = some k) (ad : Adds Eq ks k ks') : GotM ns (i + 1) ks' := by
  have e : ns.take (i + 1) = ns.take i ++ [k] := by rw [List.take_add_one, h]; rfl
  rcases ad with ⟨⟨e2, he, rfl⟩, rfl⟩ | ⟨hn, pm⟩
  · refine ⟨fun j => ?_, Nat.le_succ_of_le g.2⟩
    rw [e, List.mem_append, g.1 j]
    refine ⟨.inl, fun z => z.elim id fun z => ?_⟩
    rw [List.mem_singleton.mp z]
    exact (g.1 _).1 he
  · refine ⟨fun j => ?_, by rw [pm.length_eq, List.length_cons]; exact Nat.succ_le_succ g.2⟩
    rw [e, List.mem_append, pm.mem_iff, List.mem_cons, g.1 j, List.mem_singleton]
    exact Or.comm
end
end DL
set_option Elab.async false
set_option linter.all false
set_option maxRecDepth 100000
set_option maxHeartbeats 4000000
namespace DL
open PySem PySem.Spec PyProof.Rows L2 PpSet
/-- a family of sets: how one stands in the heap, its members as values, what the heap says of a member, when two are one -/
structure Fam (ε : Type) where
  so : Addr → List ε → HO
  val : ε → V
  ok : Hp → ε → Prop
  eqv : ε → ε → Prop
end DL
set_option Elab.async false
set_option linter.all false
set_option maxRecDepth 100000
set_option maxHeartbeats 4000000
namespace DL
open PySem PySem.Spec PyProof.Rows L2
abbrev DTZ := Env → Ow → (List D → Ow → Prop) → Prop
/-- how the members of a family are data -/
structure DFam {ε : Type} (X : Cx) (K : Frag) (F : Fam ε) (isK : D → Prop) (dat : ε → D) : Prop where
  of : ∀ {Fz : Hp} {d : D} {v : V}, isK d → RV K Fz d v → ∃ e, dat e = d ∧ F.val e = v
  ok : ∀ {Fz Hz : Hp} {e : ε}, Same Fz Hz → RV K Fz (dat e) (F.val e) → F.ok Hz e
  eqv : ∀ {a b : ε}, F.eqv a b ↔ dat a = dat b
  nt : ∀ (p : Addr) (L : List ε), Nt p (F.so p L)
  isz : ∀ {H : Hp} {a : Addr} {L : List ε}, H a = some (F.so a L) → (∀ e ∈ L, F.ok H e) → IsZ X H a (L.map F.val)
def dKey (isK : D → Prop) (te : DTE) : DTE := fun env O q => te env O fun y O' => isK y ∧ q y O'
def dSc (isK : D → Prop) (wi : DTI) (g : DTG) (tt : DTT) (te : DTE) (vs : List Nat) : DTZ := fun env O q => wi env O fun xs Gd O1 => xs.length < 511 ∧ lcGo g tt (dKey isK te) Gd xs (wipeD env vs) O1 q
section
variable {X : Cx} {B : Bd} {ε : Type} {Fa : Fam ε} {isK : D → Prop} {dat : ε → D}
/-- the members so far -/
structure Mem (K : Frag) (F : Hp) (Fa : Fam ε) (dat : ε → D) (acc : List D) (L : List ε) : Prop where
  rv : ∀ e ∈ L, RV K F (dat e) (Fa.val e)
  nd : (L.map dat).Nodup
  mem : ∀ d, d ∈ L.map dat ↔ d ∈ acc
  len : L.length ≤ acc.length
theorem Mem.nil {K : Frag} {F : Hp} : Mem K F Fa dat [] [] := ⟨fun _ h => by simp at h, List.nodup_nil, fun d => by simp, Nat.le_refl _⟩
theorem Mem.mono {K : Frag} {F F' : Hp} {acc : List D} {L : List ε} (m : Mem K F Fa dat acc L) (s : Same F F') : Mem K F' Fa dat acc L := ⟨fun e he => (m.rv e he).mono s, m.nd, m.mem, m.len⟩
theorem Mem.add (DF : DFam X B.K Fa isK dat) {F : Hp} {acc : List D} {L L' : List ε} {e : ε} (m : Mem B.K F Fa dat acc L) (r : RV B.K F (dat e) (Fa.val e)) (ad : Adds Fa.eqv L e L') : Mem B.K F Fa dat (acc ++ [dat e]) L' := by
  rcases ad with ⟨⟨x, hx, ex⟩, rfl⟩ | ⟨hn, pm⟩
  · have ed := DF.eqv.mp ex
    refine ⟨m.rv, m.nd, fun d => ?_, by simp; have := m.len; omega⟩
    rw [List.mem_append, ← m.mem d, List.mem_singleton]
    exact ⟨.inl, fun z => z.elim id fun z => by rw [z, ← ed]; exact List.mem_map.mpr ⟨x, hx, rfl⟩⟩
  · have pm2 : (L'.map dat).Perm (dat e :: L.map dat) := pm.map dat
    have hne : dat e ∉ L.map dat := fun z => by
      obtain ⟨x, hx, ex⟩ := List.mem_map.mp z
      exact hn x hx (DF.eqv.mpr ex)
    refine ⟨fun x hx => ?_, pm2.nodup_iff.mpr (List.nodup_cons.mpr ⟨hne, m.nd⟩), fun d => ?_, by rw [pm.length_eq]; simp; exact m.len⟩
    · rcases List.mem_cons.mp (pm.mem_iff.mp hx) with rfl | h
      · exact r
      · exact m.rv x h
    · rw [pm2.mem_iff, List.mem_cons, m.mem d, List.mem_append, List.mem_singleton]
      exact Or.comm
variable {e : Expr} {t : DTZ} {p pos : Pos} {k : Nat} {wx : DW} {te : DTE}
def dLenZ (t : DTZ) : DTE := fun env O q => t env O fun ys O1 => ∀ zs : List D, zs.Nodup → (∀ d, d ∈ zs ↔ d ∈ ys) → q (.int (zs.length : Nat)) O1
def dSortZ (t : DTZ) : DTE := fun env O q => t env O fun ys O1 => ∀ zs : List D, zs.Nodup → (∀ d, d ∈ zs ↔ d ∈ ys) → pds zs = true ∧ PySem.W.AllAlike (zs.map py) ∧ PySem.W.Sortable (zs.map py) ∧ (∀ e ∈ zs, (py e).depth ≤ 64) ∧ q (.lst (srtD zs)) O1
def isKM : D → Prop
  | .int _ => True
  | .str _ => True
  | _ => False
/-- set(e), e a list of ints and texts -/
def dSetL (isK : D → Prop) (te : DTE) : DTZ := fun env O q => te env O fun d O1 => ∃ ds, asL O1 d = some ds ∧ (∀ x ∈ ds, isK x) ∧ ds.length < 511 ∧ q ds O1
def isKT : D → Prop
  | .tup ds => ∃ ns : List Int, ds = ns.map D.int
  | _ => False
/-- set(e), e a list of tuples of ints -/
def dSetLT (te : DTE) : DTZ := fun env O q => te env O fun d O1 => ∃ ds, asL O1 d = some ds ∧ (∀ x ∈ ds, isKT x) ∧ ds.length < 63 ∧ q ds O1
variable {env : Env} {O : Ow} {q : DQ}
theorem i_lenZ (h : t env O fun ys O1 => ∀ zs : List D, zs.Nodup → (∀ d, d ∈ zs ↔ d ∈ ys) → q (.int (zs.length : Nat)) O1) : dLenZ t env O q := h
theorem i_sortZ (h : t env O fun ys O1 => ∀ zs : List D, zs.Nodup → (∀ d, d ∈ zs ↔ d ∈ ys) → pds zs = true ∧ PySem.W.AllAlike (zs.map py) ∧ PySem.W.Sortable (zs.map py) ∧ (∀ e ∈ zs, (py e).depth ≤ 64) ∧ q (.lst (srtD zs)) O1) : dSortZ t env O q := h
theorem i_setL {isK : D → Prop} {qz : List D → Ow → Prop} (h : te env O fun d O1 => ∃ ds, asL O1 d = some ds ∧ (∀ x ∈ ds, isK x) ∧ ds.length < 511 ∧ qz ds O1) : dSetL isK te env O qz := h
theorem i_setLT {qz : List D → Ow → Prop} (h : te env O fun d O1 => ∃ ds, asL O1 d = some ds ∧ (∀ x ∈ ds, isKT x) ∧ ds.length < 63 ∧ qz ds O1) : dSetLT te env O qz := h
theorem i_sc {isK : D → Prop} {wi : DTI} {g : DTG} {tt : DTT} {vs : List Nat} {qz : List D → Ow → Prop} (h : wi env O fun xs Gd O1 => xs.length < 511 ∧ lcGo g tt (dKey isK te) Gd xs (wipeD env vs) O1 qz) : dSc isK wi g tt te vs env O qz := h
theorem i_key {isK : D → Prop} (h : te env O fun y O' => isK y ∧ q y O') : dKey isK te env O q := h
end
end DL
set_option Elab.async false
set_option linter.all false
set_option maxRecDepth 100000
set_option maxHeartbeats 4000000
namespace DL
open PySem PySem.Spec PyProof.Rows L2
section
variable {X : Cx} {B : Bd} {k : Nat} {wx : DW} {e : Expr} {te : DTE} {pos : Pos}
def dRevL (te : DTE) : DTE := fun env O q => te env O fun d O1 => ∃ ds, asL O1 d = some ds ∧ q (.lst ds.reverse) O1
theorem i_revL {env : Env} {O : Ow} {q : DQ} (h : te env O fun d O1 => ∃ ds, asL O1 d = some ds ∧ q (.lst ds.reverse) O1) : dRevL te env O q := h
end
end DL
set_option Elab.async false
set_option linter.all false
set_option maxRecDepth 100000
set_option maxHeartbeats 4000000
namespace DL
open PySem PySem.Spec PyProof.Rows L2 RZ
section
variable {X : Cx} {B : Bd} {k : Nat} {wx : DW} {e e2 : Expr} {ta tb : DTE} {tA : DTA} {pos p pos2 : Pos}
def zipD (as bs : List D) : List D := (as.zip bs).map fun p => .tup [p.1, p.2]
def diZip (tA : DTA) : DTI := fun env O q => tA env O fun ds O1 => match ds with
  | [x, y] => ∃ as bs, (x = .tup as ∧ y = .tup bs ∧ q (zipD as bs) (fun _ => True) O1) ∨ (asL O1 x = some as ∧ asL O1 y = some bs ∧ q (zipD as bs) (fun O' => gdL O1 x O' ∧ gdL O1 y O') O1)
  | _ => False
variable {env : Env} {O : Ow} {q : DQ}
theorem i_zip {qi : List D → (Ow → Prop) → Ow → Prop} (h : tA env O fun ds O1 => match ds with
  | [x, y] => ∃ as bs, (x = .tup as ∧ y = .tup bs ∧ qi (zipD as bs) (fun _ => True) O1) ∨ (asL O1 x = some as ∧ asL O1 y = some bs ∧ qi (zipD as bs) (fun O' => gdL O1 x O' ∧ gdL O1 y O') O1)
  | _ => False) : diZip tA env O qi := h
def dInRg1 (ta tb : DTE) : DTE := fun env O q => ta env O fun x O1 => tb env O1 fun y O2 => match x, y with
  | .int i, .int j => q (.bl (decide (0 ≤ i ∧ i < j))) O2
  | _, _ => False
def dInRg2 (ta : DTE) (tA : DTA) : DTE := fun env O q => ta env O fun x O1 => tA env O1 fun ds O2 => match x, ds with
  | .int i, [.int lo, .int hi] => q (.bl (decide (lo ≤ i ∧ i < hi))) O2
  | _, _ => False
theorem i_inRg1 (h : ta env O fun x O1 => tb env O1 fun y O2 => match x, y with
  | .int i, .int j => q (.bl (decide (0 ≤ i ∧ i < j))) O2
  | _, _ => False) : dInRg1 ta tb env O q := h
theorem i_inRg2 (h : ta env O fun x O1 => tA env O1 fun ds O2 => match x, ds with
  | .int i, [.int lo, .int hi] => q (.bl (decide (lo ≤ i ∧ i < hi))) O2
  | _, _ => False) : dInRg2 ta tA env O q := h
def dRevA (te : DTE) : DTE := fun env O q => te env O fun d O1 => match d with
  | .tup ds => q (.tup ds.reverse) O1
  | d => ∃ ds, asL O1 d = some ds ∧ q (.lst ds.reverse) O1
theorem i_revT (h : ta env O fun d O1 => match d with
  | .tup ds => q (.tup ds.reverse) O1
  | d => ∃ ds, asL O1 d = some ds ∧ q (.lst ds.reverse) O1) : dRevA ta env O q := h
def dListRg1O (ta : DTE) : DTE := fun env O q => ta env O fun d O1 => match d with | .int j => RgOk 0 j ∧ ∀ p, O1 p = none → q (.ref p) (setO O1 p (.lst (rgD 0 j))) | _ => False
theorem i_listRg1O (h : ta env O fun d O1 => match d with | .int j => RgOk 0 j ∧ ∀ p, O1 p = none → q (.ref p) (setO O1 p (.lst (rgD 0 j))) | _ => False) : dListRg1O ta env O q := h
def dLtA : DR2 := fun x y O q => match x, y with
  | .int i, .int j => q (.bl (decide (i < j))) O
  | .str i, .str j => q (.bl (decide (i.cps.toList < j.cps.toList))) O
  | _, _ => False
theorem i_ltAI {i j : Int} (h : q (.bl (decide (i < j))) O) : dLtA (.int i) (.int j) O q := h
theorem i_ltAS {i j : Str} (h : q (.bl (decide (i.cps.toList < j.cps.toList))) O) : dLtA (.str i) (.str j) O q := h
end
end DL
set_option Elab.async false
set_option linter.all false
set_option maxRecDepth 100000
set_option maxHeartbeats 4000000
namespace PySem.OEB
open PySem.W PySem.Calls PyProof.Rows PySem.HandSPX
/-- what is asked of a class behind its own entry in its mro -/
structure Tail (B : String) (bm : List Value) : Prop where
  b : bm.contains (.type B) = true
  a : bm.contains (.type "AttributeError") = false
  n : bm.contains (.type "NameError") = false
theorem Tail.cons {B : String} {bm : List Value} (h : Tail B bm) (C : Addr) : Tail B (.ref C :: bm) := by
  obtain ⟨b, a, n⟩ := h
  exact ⟨by rw [List.contains_cons, b, Bool.or_true], by rw [List.contains_cons, a]; rfl, by rw [List.contains_cons, n]; rfl⟩
end PySem.OEB
set_option Elab.async false
set_option linter.all false
set_option maxRecDepth 100000
set_option maxHeartbeats 4000000
namespace PySem
/-- what is known of a base -/
structure ExBase (Bn newId initId : String) (bmB : List Value) : Prop where
  F : ∃ b0, ExcBaseFacts Bn newId initId b0
  tl : OEB.Tail Bn bmB
  ps : ∀ self : Value, refuseLoop self "__setattr__" bmB = pure ()
  ob : bmB.contains (.type "object") = true
  ne : bmB.isEmpty = false
  nr : ∀ c r, bmB ≠ .ref c :: r
def exTails : List (String × List Value) := [
  ("RuntimeError.__new__", [.type "RuntimeError", .type "Exception", .type "BaseException", .type "object"]),
  ("LookupError.__new__", [.type "LookupError", .type "Exception", .type "BaseException", .type "object"]),
  ("ArithmeticError.__new__", [.type "ArithmeticError", .type "Exception", .type "BaseException", .type "object"]),
  ("IndexError.__new__", [.type "IndexError", .type "LookupError", .type "Exception", .type "BaseException", .type "object"]),
  ("OverflowError.__new__", [.type "OverflowError", .type "ArithmeticError", .type "Exception", .type "BaseException", .type "object"]),
  ("TypeError.__new__", [.type "TypeError", .type "Exception", .type "BaseException", .type "object"]),
  ("ValueError.__new__", [.type "ValueError", .type "Exception", .type "BaseException", .type "object"]),
  ("LookupError.__new__", [.type "KeyError", .type "LookupError", .type "Exception", .type "BaseException", .type "object"])]
theorem exTails_ok {n : String} {l : List Value} (h : (n, l) ∈ exTails) : ∃ Bn initId, ExBase Bn n initId l := by
  have nr : ∀ (s : String) (l : List Value), ∀ c r, (Value.type s :: l) ≠ .ref c :: r := fun s l c r e => by cases e
  simp only [exTails, List.mem_cons, List.mem_nil_iff, or_false, Prod.mk.injEq] at h
  rcases h with ⟨rfl, rfl⟩ | ⟨rfl, rfl⟩ | ⟨rfl, rfl⟩ | ⟨rfl, rfl⟩ | ⟨rfl, rfl⟩ | ⟨rfl, rfl⟩ | ⟨rfl, rfl⟩ | ⟨rfl, rfl⟩
  · exact ⟨_, _, ⟨_, F.excBase_RuntimeError⟩, ⟨by decide +kernel, by decide +kernel, by decide +kernel⟩, fun self => F.store_RuntimeError.passes self, by decide +kernel, by decide +kernel, nr _ _⟩
  · exact ⟨_, _, ⟨_, F.excBase_LookupError⟩, ⟨by decide +kernel, by decide +kernel, by decide +kernel⟩, fun self => F.store_LookupError.passes self, by decide +kernel, by decide +kernel, nr _ _⟩
  · exact ⟨_, _, ⟨_, F.excBase_ArithmeticError⟩, ⟨by decide +kernel, by decide +kernel, by decide +kernel⟩, fun self => F.store_ArithmeticError.passes self, by decide +kernel, by decide +kernel, nr _ _⟩
  · exact ⟨_, _, ⟨_, F.excBase_IndexError⟩, ⟨by decide +kernel, by decide +kernel, by decide +kernel⟩, fun self => F.store_IndexError.passes self, by decide +kernel, by decide +kernel, nr _ _⟩
  · exact ⟨_, _, ⟨_, F.excBase_OverflowError⟩, ⟨by decide +kernel, by decide +kernel, by decide +kernel⟩, fun self => F.store_OverflowError.passes self, by decide +kernel, by decide +kernel, nr _ _⟩
  · exact ⟨_, _, ⟨_, F.excBase_TypeError⟩, ⟨by decide +kernel, by decide +kernel, by decide +kernel⟩, fun self => F.store_TypeError.passes self, by decide +kernel, by decide +kernel, nr _ _⟩
  · exact ⟨_, _, ⟨_, F.excBase_ValueError⟩, ⟨by decide +kernel, by decide +kernel, by decide +kernel⟩, fun self => F.store_ValueError.passes self, by decide +kernel, by decide +kernel, nr _ _⟩
  · exact ⟨_, _, ⟨_, F.excBase_LookupError⟩, ⟨by decide +kernel, by decide +kernel, by decide +kernel⟩, fun self => by kernel_rfl, by decide +kernel, by decide +kernel, nr _ _⟩
/-- own classes, then a base's mro -/
def refsB (t : List Value) : List Value → Bool
  | .ref c :: r => refsB t r
  | l => l == t
theorem refsB_cases {t : List Value} : ∀ l : List Value, refsB t l = true → (∃ c r, l = .ref c :: r ∧ refsB t r = true) ∨ l = t
  | [], e => .inr (beq_iff_eq.mp e)
  | .ref c :: r, e => .inl ⟨c, r, rfl, e⟩
  | .none :: _, e => .inr (beq_iff_eq.mp e)
  | .ellipsis :: _, e => .inr (beq_iff_eq.mp e)
  | .notImplemented :: _, e => .inr (beq_iff_eq.mp e)
  | .bool _ :: _, e => .inr (beq_iff_eq.mp e)
  | .int _ _ :: _, e => .inr (beq_iff_eq.mp e)
  | .float _ _ :: _, e => .inr (beq_iff_eq.mp e)
  | .str _ _ :: _, e => .inr (beq_iff_eq.mp e)
  | .bytes _ _ :: _, e => .inr (beq_iff_eq.mp e)
  | .type _ :: _, e => .inr (beq_iff_eq.mp e)
  | .builtin _ :: _, e => .inr (beq_iff_eq.mp e)
section
variable {Bn newId initId : String} {t : List Value} (B : ExBase Bn newId initId t)
include B
theorem refsB_pass (self : Value) : ∀ l : List Value, refsB t l = true → refuseLoop self "__setattr__" l = pure ()
  | [], e => by rcases refsB_cases [] e with ⟨c, r', q, h⟩ | q; cases q; rw [q]; exact B.ps self
  | a :: r, e => by
    rcases refsB_cases (a :: r) e with ⟨c, r', q, h⟩ | q
    · obtain ⟨rfl, rfl⟩ := List.cons.inj q
      rw [refuseLoop_ref]; exact refsB_pass self r h
    · rw [q]; exact B.ps self
theorem refsB_contains (X : String) : ∀ l : List Value, refsB t l = true → l.contains (.type X) = t.contains (.type X)
  | [], e => by rcases refsB_cases [] e with ⟨c, r', q, h⟩ | q; cases q; rw [q]
  | a :: r, e => by
    rcases refsB_cases (a :: r) e with ⟨c, r', q, h⟩ | q
    · obtain ⟨rfl, rfl⟩ := List.cons.inj q
      rw [List.contains_cons, refsB_contains X r h]; rfl
    · rw [q]
theorem refsB_tail {l : List Value} (e : refsB t l = true) : OEB.Tail Bn l := ⟨(refsB_contains B _ l e).trans B.tl.b, (refsB_contains B _ l e).trans B.tl.a, (refsB_contains B _ l e).trans B.tl.n⟩
theorem refsB_ne {l : List Value} (e : refsB t l = true) : l.isEmpty = false := by
  cases l with
  | nil =>
    rcases refsB_cases [] e with ⟨c, r', q, h⟩ | q
    · cases q
    · rw [q]; exact B.ne
  | cons _ _ => rfl
end
namespace OEB
open PySem.W PySem.Calls PyProof.Rows PySem.HandSPX
section
open Builtin Builtin.ObjectAttr
variable {prog : Program} {w : World} {A : Around} {E : Value → Shared → Prop} {R : Result → Shared → Prop} {hp : Heap} {g : Array GenState} {d : Drawn} {t : Nat} {os : OsState} {Bn newId initId : String} {bt : List Value}
theorem exc_osa (B : ExBase Bn newId initId bt) {K : W.Frag} {name : Str} {tk : Tok} {v : Value} {x C : Addr} {fv : Array Value} {cd : ClassData}
    (X : K.In hp) (hx : hp.get? x = some { cls := .ref C, data := .fields fv }) (hcd : W.clsIn K C = some cd) (hm : refsB bt cd.mro = true) (hh : cd.hasDict = true) (ha : W.findIn K (.ref C) name = some none)
    (hq : ∀ h' tk' dx, (∀ b o, b ≠ x → hp.get? b = some o → h'.get? b = some o) → hp.objs.size ≤ dx → dx ≠ x → h'.get? x = some { cls := .ref C, dict := some dx, data := .fields fv } →
      h'.Ns1 dx (fun y => if y = name then some v else none) → R (.ok (.ret .none)) ⟨h', g, d, tk', os⟩) :
    codeAny (model prog w) A (.call (.builtin "object.__setattr__") ⟨[.ref x, .str name tk, v], []⟩) R ⟨hp, g, d, t, os⟩ := by
  have I : W.InstAt hp x { cls := .ref C, data := .fields fv } C none := ⟨hx, rfl, rfl, trivial⟩
  have SF := F.store_object
  have ne := refsB_ne B hm
  have hob : cd.mro.contains (.type "object") = true := (refsB_contains B "object" _ hm).trans B.ob
  have hxs : x ≠ hp.objs.size := Nat.ne_of_lt (Heap.lt_size hx)
  have sub : W.Looks (model prog w) hp (isInstance (.ref x) (.type "object")) true := I.type.andThen (W.looks_mroIn X (by unfold W.mroIn; rw [hcd, Option.bind_some, if_neg (by rw [ne]; decide), hob]))
  refine codeAny_call_builtin SF.slot.plain SF.entry (@W.check_slot (model prog w) _ _ ⟨hp, g, d, t, os⟩ "object.__setattr__" "object" "__setattr__" (.ref x) [.str name tk, v] [] _ SF.kind SF.split sub (SF.args (.ref x) (.str name tk) v) ?_)
  have hmr : W.Looks (model prog w) hp (mroOf (.ref C)) cd.mro := (W.looks_clsIn X hcd).andThen .now
  have L3 : W.Looks (model prog w) hp (storeTaker? none) none := .now
  have hcls : W.Looks (model prog w) hp (classData C) cd := W.looks_clsIn X hcd
  rw [W.osa_eq, refuse_eq]
  refine wpAny_bind (wpAny_bind (I.type.at (wpAny_bind (hmr.at ?_))))
  rw [refsB_pass B _ _ hm]
  refine wpAny_pure (wpAny_bind (I.type.at (wpAny_bind ((W.looks_findIn X ha).at (wpAny_bind (L3.at ?_))))))
  show wpAny _ _ (storeInOwnDict (.ref x) (.ref C) (.str name tk) name v false) _ _ _
  obtain ⟨nm, bs, mro, ns, qn, hd, sn, sb, ab, col, del⟩ := cd
  dsimp only at hh
  subst hh
  unfold storeInOwnDict ownDictForStores
  repeat (first | with_reducible refine store_in_new ?_ ?_ | with_reducible refine wpAny_loadPart_at hx ?_ | with_reducible refine hcls.at ?_ | wp_step)
  · exact ⟨_, #[], _, (Heap.get?_update_ne _ _ _ _ hxs.symm).trans (Heap.get?_push_at rfl rfl), rfl, fun e he => absurd he (by simp), fun _ => rfl⟩
  · intro h' tk' hn' hs
    have hx₁ : (hp.push { cls := .type "dict", data := .dict #[] }).get? x = some { cls := .ref C, data := .fields fv } := Heap.get?_push_of_some _ hx
    refine hq h' tk' hp.objs.size (fun b o hb ho => ?_) (Nat.le_refl _) hxs.symm ?_ hn'
    · exact (hs.2 b (Nat.ne_of_lt (Heap.lt_size ho))).trans ((Heap.get?_update_ne _ _ _ _ hb).trans (Heap.get?_push_of_some _ ho))
    · exact (hs.2 x hxs).trans (Heap.get?_update_self _ hx₁ rfl)
theorem osa_old (B : ExBase Bn newId initId bt) {K : W.Frag} {name : Str} {tk : Tok} {v : Value} {x C dx : Addr} {fv : Array Value} {cd : ClassData} {m0 : Str → Option Value} {nl : List Str}
    (X : K.In hp) (hx : hp.get? x = some { cls := .ref C, dict := some dx, data := .fields fv }) (hns : hp.Ns1 dx m0) (hw : Within m0 nl) (hz : nl.length ≤ 1000) (hcd : W.clsIn K C = some cd) (hm : refsB bt cd.mro = true) (hh : cd.hasDict = true)
    (ha : W.findIn K (.ref C) name = some none)
    (hq : ∀ h' tk', (∀ b o, b ≠ dx → hp.get? b = some o → h'.get? b = some o) → h'.Ns1 dx (fun y => if y = name then some v else m0 y) → R (.ok (.ret .none)) ⟨h', g, d, tk', os⟩) :
    codeAny (model prog w) A (.call (.builtin "object.__setattr__") ⟨[.ref x, .str name tk, v], []⟩) R ⟨hp, g, d, t, os⟩ := by
  obtain ⟨oD, esD, epD, hoD, hdD, _⟩ := hns.count hw
  have I : W.InstAt hp x { cls := .ref C, dict := some dx, data := .fields fv } C (some oD) := ⟨hx, rfl, rfl, hoD⟩
  have SF := F.store_object
  have ne := refsB_ne B hm
  have hob : cd.mro.contains (.type "object") = true := (refsB_contains B "object" _ hm).trans B.ob
  have sub : W.Looks (model prog w) hp (isInstance (.ref x) (.type "object")) true := I.type.andThen (W.looks_mroIn X (by unfold W.mroIn; rw [hcd, Option.bind_some, if_neg (by rw [ne]; decide), hob]))
  refine codeAny_call_builtin SF.slot.plain SF.entry (@W.check_slot (model prog w) _ _ ⟨hp, g, d, t, os⟩ "object.__setattr__" "object" "__setattr__" (.ref x) [.str name tk, v] [] _ SF.kind SF.split sub (SF.args (.ref x) (.str name tk) v) ?_)
  have hmr : W.Looks (model prog w) hp (mroOf (.ref C)) cd.mro := (W.looks_clsIn X hcd).andThen .now
  have L3 : W.Looks (model prog w) hp (storeTaker? none) none := .now
  have hcls : W.Looks (model prog w) hp (classData C) cd := W.looks_clsIn X hcd
  rw [W.osa_eq, refuse_eq]
  refine wpAny_bind (wpAny_bind (I.type.at (wpAny_bind (hmr.at ?_))))
  rw [refsB_pass B _ _ hm]
  refine wpAny_pure (wpAny_bind (I.type.at (wpAny_bind ((W.looks_findIn X ha).at (wpAny_bind (L3.at ?_))))))
  show wpAny _ _ (storeInOwnDict (.ref x) (.ref C) (.str name tk) name v false) _ _ _
  obtain ⟨nm, bs, mro, ns, qn, hd, sn, sb, ab, col, del⟩ := cd
  dsimp only at hh
  subst hh
  unfold storeInOwnDict ownDictForStores
  repeat (first | with_reducible refine PySem.OEX.store_in_old hns hw hz ?_ | with_reducible refine wpAny_loadPart_at hx ?_ | with_reducible refine hcls.at ?_ | wp_step)
  intro h' tk' hn' hs
  exact hq h' tk' (fun b o hb ho => (hs.2 b hb).trans ho) hn'
end
end OEB
end PySem
namespace L2
open PySem PySem.Spec PyProof.Rows
/-- what the written part says of the class -/
structure OexB (K : PySem.W.Frag) (C : Addr) : Prop where
  cls : ∃ Bn newId initId bt, ExBase Bn newId initId bt ∧ ∃ nm q N bs bm sn sub ab col dd k0 k1 k2 k3 k5, K.lookup C = some (excClassObj nm q C N bs bm true sn sub ab col dd k0 k1 k2 k3 k5 newId) ∧ refsB bt bm = true
  sa : PySem.W.findIn K (.ref C) "__setattr__" = some (some (.builtin "object.__setattr__"))
  exC : PySem.W.subIn K (.ref C) (.type "BaseException") = some true
  tyC : PySem.W.typeIn K (.ref C) = some (.type "type")
  kC : PySem.W.keepIn K (.ref C) = true
section
variable {X : Cx} {pins : List (Addr × Obj)} {σ : St} {H : Hp} {s : Shared} {a C dx : Addr} {f : Str} {y : V} {u : Value} {fs : List (Str × V)} {Q : Unit → Shared → Prop} {E : Value → Shared → Prop} {A : Around}
theorem ostB_new (T : OexB X.K C) (I : Inv X pins σ H s) (e : H a = some (exo a C none)) (hno : PySem.W.findIn X.K (.ref C) f = some none) (ry : RelV y u)
    (h : ∀ dx s', H dx = none → dx ≠ a → Inv X pins σ (upd (upd H dx (exd dx [(f, y)])) a (exo a C (some dx))) s' → Q () s') : wpAny (model X.prog X.w) A (setAttr (.ref a) f u) Q E s := by
  obtain ⟨Bn, nI, iI, bt, B, nm, q, N, bs, bm, sn, sub, ab, col, dd, k0, k1, k2, k3, k5, hC, hbm⟩ := T.cls
  have hcl : PySem.W.clsIn X.K C = some { name := nm, bases := bs, mro := .ref C :: bm, ns := N, qualname := q, hasDict := true, slotNames := sn, subclasses := sub, abstract := ab, collection := col, hasDel := false } := by unfold PySem.W.clsIn; rw [hC] <;> rfl
  obtain ⟨t1, ho⟩ := exo_at I.hok e
  obtain ⟨hp, g, d, t, os⟩ := s
  refine PySem.W.set_plain I.kIn (ox := { cls := .ref C, dict := none, data := .fields #[.ref t1, .none, .none, .none, .bool false, .none] }) (od := none) ⟨ho, rfl, rfl, trivial⟩ T.sa ?_
  refine PySem.OEB.exc_osa B I.kIn ho hcl (show refsB bt (.ref C :: bm) = true from hbm) rfl hno (fun h' tk' dx k dn dne hx hn => ?_)
  have hnd : H dx = none := I.hok.fresh dn
  have nd : ∀ {b : Addr} {o : Obj}, hp.get? b = some o → b ≠ dx := fun {b o} q => Nat.ne_of_lt (Nat.lt_of_lt_of_le (Heap.lt_size q) dn)
  have na : ∀ {b : Addr}, H b = none → b ≠ a := fun {b} n z => by
    rw [z, e] at n
    cases n
  have Un1 : Un X.fs [] H (upd (upd H dx (exd dx [(f, y)])) a (exo a C (some dx))) hp h' := {
    keep := fun b o q n _ _ => k b o (na n) q
    slot := fun b o q n _ _ => ⟨o.slots, k b o (na n) q⟩
    free := fun b o q n _ => by rw [upd_ne (na n), upd_ne (nd q)]; exact n
    there := fun b o q _ => by
      by_cases hb : b = a
      · exact ⟨_, by rw [hb]; exact hx⟩
      · exact ⟨o, k b o hb q⟩
    tups := fun b xs q => by rw [upd_ne (at_ne e q exo_tup), upd_ne (ne_of_none q hnd)]; exact q
    frzs := fun b o v q => by rw [upd_ne (at_ne e q exo_frz), upd_ne (ne_of_none q hnd)]; exact q
    tbls := fun b ps q => ⟨#[], by rw [upd_ne (at_ne e q exo_tbl), upd_ne (ne_of_none q hnd), q]; simp⟩ }
  refine h dx _ hnd dne (I.un (t' := tk') Un1 fun b o q => ?_)
  by_cases hb : b = a
  · subst hb
    rw [upd_same] at q
    cases q
    exact exo_ok hx
  · rw [upd_ne hb] at q
    by_cases hd : b = dx
    · subst hd
      rw [upd_same] at q
      cases q
      exact exd_ok hn (relO_put (fs := []) ry fun g => True.intro)
    · rw [upd_ne hd] at q
      exact (I.hok b o q).stay (fun c v hc z => k c v (by
          rcases hc with hc | hc
          · rw [hc]
            exact hb
          · exact at_ne e hc exo_own) z)
        (fun c hc => by rw [upd_ne (at_ne e hc exo_own), upd_ne (ne_of_none hc hnd)]; exact hc) (fun c xs hc => by rw [upd_ne (at_ne e hc exo_tup), upd_ne (ne_of_none hc hnd)]; exact hc)
theorem ostB_old (T : OexB X.K C) (I : Inv X pins σ H s) (e : H a = some (exo a C (some dx))) (ed : H dx = some (exd dx fs)) (hl : fs.length ≤ 900) (hno : PySem.W.findIn X.K (.ref C) f = some none) (ry : RelV y u)
    (h : ∀ s', Inv X pins σ (upd H dx (exd dx ((f, y) :: fs))) s' → Q () s') : wpAny (model X.prog X.w) A (setAttr (.ref a) f u) Q E s := by
  obtain ⟨Bn, nI, iI, bt, B, nm, q, N, bs, bm, sn, sub, ab, col, dd, k0, k1, k2, k3, k5, hC, hbm⟩ := T.cls
  have hcl : PySem.W.clsIn X.K C = some { name := nm, bases := bs, mro := .ref C :: bm, ns := N, qualname := q, hasDict := true, slotNames := sn, subclasses := sub, abstract := ab, collection := col, hasDel := false } := by unfold PySem.W.clsIn; rw [hC] <;> rfl
  obtain ⟨t1, ho⟩ := exo_at I.hok e
  obtain ⟨mA, hns, rel⟩ := exd_at I.hok ed
  have hw := within_of rel
  obtain ⟨hp, g, d, t, os⟩ := s
  obtain ⟨oD, _, _, hoD, _, _⟩ := hns.count hw
  refine PySem.W.set_plain I.kIn (ox := { cls := .ref C, dict := some dx, data := .fields #[.ref t1, .none, .none, .none, .bool false, .none] }) (od := some oD) ⟨ho, rfl, rfl, hoD⟩ T.sa ?_
  refine PySem.OEB.osa_old B I.kIn ho hns hw (by rw [List.length_map]; omega) hcl (show refsB bt (.ref C :: bm) = true from hbm) rfl hno (fun h' tk' k hn => ?_)
  have hd : ∃ o, h'.get? dx = some o := by
    obtain ⟨o, _, _, e', _⟩ := hn
    exact ⟨o, e'⟩
  exact h _ (I.write (t' := tk') (x := dx) (e := dx) (o := exd dx ((f, y) :: fs)) (by rw [ed]; exact True.intro) (.inl rfl) k hd (exd_ok hn (relO_put ry rel)))
end
/-- self.f = e -/
def tOsB (K : PySem.W.Frag) (f : Str) (to te : TE) : TS := fun D σ H => te σ H fun y H1 => to σ H1 fun x H2 => ∃ a C : Addr, x = .ref a ∧ OexB K C ∧ PySem.W.findIn K (.ref C) f = some none ∧
  ((H2 a = some (exo a C none) ∧ ∀ dx, H2 dx = none → dx ≠ a → D.nx σ (upd (upd H2 dx (exd dx [(f, y)])) a (exo a C (some dx)))) ∨
    ∃ (dx : Addr) (fs : List (Str × V)), H2 a = some (exo a C (some dx)) ∧ H2 dx = some (exd dx fs) ∧ fs.length ≤ 900 ∧ D.nx σ (upd H2 dx (exd dx ((f, y) :: fs))))
section
variable {X : Cx} {o e : Expr} {es : List Expr} {to te : TE} {ta : TA} {f : Str} {p p' p1 p2 pos : Pos}
theorem ps_osB (ho : PE X o to) (he : PE X e te) (hs : swapsWith e (some (.Attribute o f p')) pos.line X.env = pure false := by rfl) : PS X (.Assign [.Attribute o f p'] e pos) (tOsB X.K f to te) := by
  refine ⟨fun pins s σ H D I h => ?_⟩
  refine plainObj_wpAny_Assign_Attribute (thn (he.run pins s σ H _ I h) fun v s1 ⟨y, H1, I1, r1, q1⟩ => thn (ho.run pins s1 σ H1 _ I1 q1) fun u s2 ⟨x, H2, I2, r2, a, C, ex, T, hno, q⟩ => ?_) hs
  subst ex
  obtain rfl : u = Value.ref a := r2
  rcases q with ⟨ea, q⟩ | ⟨dx, fs, ea, ed, hl, q⟩
  · exact ostB_new T I2 ea hno r1 fun dx s' n ne J => ⟨σ, _, J, q dx n ne⟩
  · exact ostB_old T I2 ea ed hl hno r1 fun s' J => ⟨σ, _, J, q⟩
end
end L2
namespace DL
open PySem PySem.Spec PyProof.Rows L2
structure ExCB (K : Frag) (C fI : Addr) : Prop where
  T : OexB K C
  iC : PySem.W.findIn K (.ref C) "__init__" = some (some (.ref fI))
  tI : PySem.W.typeIn K (.ref fI) = some (.type "function")
def excOB (K : Frag) (C : Addr) : Bool := match K.lookup C with
  | some ⟨.type "type", _, .cls cd, sl⟩ => (match cd.mro, sl.toList with
    | .ref C' :: bm, [_, _, _, _, some (.builtin n), _] => C' == C && !cd.hasDel && cd.hasDict && exTails.any fun p => p.1 == n && refsB p.2 bm
    | _, _ => false)
  | _ => false
theorem excOB_ok {K : Frag} {C : Addr} (q : excOB K C = true) : ∃ Bn newId initId bt, ExBase Bn newId initId bt ∧ ∃ nm q N bs bm sn sub ab col dd k0 k1 k2 k3 k5, K.lookup C = some (excClassObj nm q C N bs bm true sn sub ab col dd k0 k1 k2 k3 k5 newId) ∧ refsB bt bm = true := by
  unfold excOB at q
  split at q
  · rename_i dd cd sl ho
    split at q
    · rename_i C' bm k0 k1 k2 k3 n k5 hm hs
      simp only [Bool.and_eq_true, beq_iff_eq, Bool.not_eq_true'] at q
      obtain ⟨⟨⟨rfl, hdel⟩, hdi⟩, ht⟩ := q
      obtain ⟨p, hp, ht2⟩ := List.any_eq_true.mp ht
      obtain ⟨n', bt⟩ := p
      simp only [Bool.and_eq_true, beq_iff_eq] at ht2
      obtain ⟨rfl, ht3⟩ := ht2
      obtain ⟨Bn, iI, B⟩ := exTails_ok hp
      obtain ⟨nm, bs, mro, ns, qn, hd, sn, sub, ab, col, del⟩ := cd
      dsimp only at hm hdel hdi
      subst hm hdel hdi
      have hsl : sl = #[k0, k1, k2, k3, some (.builtin n'), k5] := by
        obtain ⟨l⟩ := sl
        simp only at hs
        rw [hs]
      subst hsl
      exact ⟨Bn, n', iI, bt, B, nm, qn, ns, bs, bm, sn, sub, ab, col, dd, k0, k1, k2, k3, k5, ho, ht3⟩
    · cases q
  · cases q
def excBB (x : Str) : Fac := fun K => excOB K (He.ga K x) && (He.eqO (PySem.W.findIn K (.ref (He.ga K x)) "__setattr__") (some (some (.builtin "object.__setattr__"))) && (decide (PySem.W.subIn K (.ref (He.ga K x)) (.type "BaseException") = some true) &&
  (decide (PySem.W.typeIn K (.ref (He.ga K x)) = some (.type "type")) && (PySem.W.keepIn K (.ref (He.ga K x)) && (He.eqO (PySem.W.findIn K (.ref (He.ga K x)) "__init__") (some (some (.ref (He.ma K (He.ga K x) "__init__")))) &&
  (decide (PySem.W.typeIn K (.ref (He.ma K (He.ga K x) "__init__")) = some (.type "function")) && xfB K (He.ga K x)))))))
theorem excBB_ok {K : Frag} {x : Str} (h : excBB x K = true) : ExCB K (He.ga K x) (He.ma K (He.ga K x) "__init__") ∧ XfC K (He.ga K x) := by
  unfold excBB at h
  simp only [Bool.and_eq_true, decide_eq_true_eq] at h
  obtain ⟨h1, h2, h3, h4, h5, h6, h7, h8⟩ := h
  exact ⟨⟨⟨excOB_ok h1, He.eqO_ok h2, h3, h4, h5⟩, He.eqO_ok h6, h7⟩, xfB_ok h8⟩
end DL
set_option Elab.async false
set_option linter.all false
set_option maxRecDepth 100000
set_option maxHeartbeats 4000000
namespace DL
open PySem PySem.Spec PyProof.Rows L2
section
variable {X : Cx} {B : Bd} {pos p apos : Pos} {k : Nat} {wx : DW} {a e : Expr} {to : DTE} {tA : DTA} {env : Env} {O : Ow} {q : DQ}
def ixK2 (p : Addr) (q : DQ) : List D → Ow → Prop := fun ds O2 => match ds with
  | [y] => ∃ d zs, ∃ (j : Nat) (z : PyData), asP O2 (.ref p) = some (.list zs) ∧ asP O2 y = some d ∧ SeqAt.shaped (.list zs) = true ∧ SeqAt.shaped d = true ∧ zs[j]? = some z ∧ PyData.eqv z d = true ∧ (∀ (m : Nat) (z' : PyData), m < j → zs[m]? = some z' → PyData.eqv z' d = false) ∧ q (.int (j : Nat)) O2
  | _ => False
def ixK (tA : DTA) (env : Env) (q : DQ) : DQ := fun x O1 => match x with
  | .ref p => ∃ es, O1 p = some (.lst es) ∧ tA env O1 (ixK2 p q)
  | _ => False
def dIdxO (to : DTE) (tA : DTA) : DTE := fun env O q => to env O (ixK tA env q)
theorem so_idxO (S : Site X B k wx) (ho : PE X a (lift B to)) (ha : PA X [e] (liftA B tA)) (hbase : attributeBase a "index" X.env (eval a X.env) = eval a X.env := by rfl)
    (hfew : ((backTo pos (starEach [e] X.env)).all (fun x => !x.1) && (backToKw pos (keywordEach [] X.env)).all (fun x => x.1.isSome) && decide ([e].length + ([] : List Keyword).length + (if ([] : List Keyword).isEmpty then 0 else 1) < 30)) = true := by rfl)
    (hline : (apos.endLine == pos.line) = true := by rfl) (hs : starEach [e] X.env = (false, eval e X.env) :: starEach [] X.env := by rfl) (hplain : (backTo pos (starEach [] X.env)).any (·.1) = false := by rfl) : PE X (.Call (.Attribute a "index" apos) [e] [] pos) (lift B (dIdxO to tA)) :=
  PE.weak (pe_bm PySem.F.plainAttrs_list PySem.F.slot_list_index PySem.F.type_list_index (mt_indexD S.u65) ho ha hbase hfew hline hs hplain) fun σ H Q h => by
    obtain ⟨env, O, F, q, R, h, kk⟩ := h
    refine ⟨env, O, F, _, R, h, fun x v O1 H1 F1 a1 r1 h1 => ?_⟩
    cases x <;> try exact h1.elim
    rename_i p
    cases r1
    obtain ⟨es, e1, h1⟩ := h1
    obtain ⟨_, ho, e2, vs, rfl, rr⟩ := a1.ow p _ e1
    have R1 := R.call a1
    refine ⟨.inl ⟨rfl, vs, SqL.of e2⟩, env, O1, F1, _, R1, h1, fun ds us O2 H2 F2 a2 r2 h2 => ?_⟩
    match ds, r2, h2 with
    | [y], r2, ⟨d, zs, j, z, g1, g2, g3, g4, g5, g6, g7, g8⟩ =>
      obtain ⟨u, rfl, ru⟩ := r2.one
      exact ⟨p, u, d, zs, j, z, rfl, rfl, by rw [S.hK]; exact asP_dp a2.fh a2.ow (.ref p) g1, by rw [S.hK]; exact asP_dp a2.fh a2.ow ru g2, g3, g4, g5, g6, g7, kk _ _ _ _ F2 (a1.trans a2) (.int _) g8⟩
theorem i_idxO (h : to env O (ixK tA env q)) : dIdxO to tA env O q := h
theorem i_ixK {pp : Addr} {es : List D} (hp : O pp = some (.lst es)) (h : tA env O (ixK2 pp q)) : ixK tA env q (.ref pp) O := ⟨es, hp, h⟩
theorem asP_own {pp : Addr} {es : List D} (hp : O pp = some (.lst es)) (h : pds es = true) : asP O (.ref pp) = some (.list (pys es)) := by
  simp only [asP, hp, h, if_true]
end
end DL
set_option Elab.async false
set_option linter.all false
set_option maxRecDepth 100000
set_option maxHeartbeats 4000000
namespace DL
open PySem PySem.Spec PyProof.Rows L2
end DL
set_option Elab.async false
set_option linter.all false
set_option maxRecDepth 100000
set_option maxHeartbeats 4000000
namespace DL
open PySem PySem.Spec PyProof.Rows L2
end DL
namespace DL
open PySem PySem.Spec PyProof.Rows L2
section
variable {X : Cx} {B : Bd} {pos p : Pos} {k : Nat} {wx : DW} {e1 e2 : Expr} {ty tv : DTE}
def dDict1 (w : World) (ty tv : DTE) : DTE := fun env O q => ∀ p, O p = none → ty env (setO O p (.dN w [])) fun y O1 => tv env O1 fun v O2 => ∃ n ds, O2 p = some (.dN w []) ∧ y = .tup ds ∧ nkey y = some n ∧ n.depth ≤ 8 ∧ q (.ref p) (setO O2 p (.dN w [(y, v)]))
theorem i_dict1 {w : World} {env : Env} {O : Ow} {q : DQ} (h : ∀ p, O p = none → ty env (setO O p (.dN w [])) fun y O1 => tv env O1 fun v O2 => ∃ n ds, O2 p = some (.dN w []) ∧ y = .tup ds ∧ nkey y = some n ∧ n.depth ≤ 8 ∧ q (.ref p) (setO O2 p (.dN w [(y, v)]))) : dDict1 w ty tv env O q := h
end
end DL
set_option Elab.async false
set_option linter.all false
set_option maxRecDepth 100000
set_option maxHeartbeats 4000000
namespace DL
open PySem PySem.Spec PyProof.Rows L2
def bits (w : List Int) : Prop := ∀ b ∈ w, b = 0 ∨ b = 1
/-- the place of a word in the order: shorter ones first, then ascending -/
def code (w : List Int) : Int := w.foldl (fun c b => 2 * c + b) 1
theorem code_snoc (w : List Int) (b : Int) : code (w ++ [b]) = 2 * code w + b := by simp [code]
theorem bits_snoc {w : List Int} {b : Int} : bits (w ++ [b]) ↔ bits w ∧ (b = 0 ∨ b = 1) := by
  unfold bits
  constructor
  · intro h
    exact ⟨fun x hx => h x (by simp [hx]), h b (by simp)⟩
  · rintro ⟨h1, h2⟩ x hx
    rcases List.mem_append.mp hx with h | h
    · exact h1 x h
    · rw [List.mem_singleton.mp h]; exact h2
theorem bits_nil : bits [] := fun b h => by cases h
theorem rev_ind {P : List Int → Prop} (h0 : P []) (hs : ∀ w b, P w → P (w ++ [b])) : ∀ w, P w := by
  intro w
  have : ∀ n (w : List Int), w.length = n → P w := by
    intro n
    induction n with
    | zero => intro w hw; rw [List.length_eq_zero_iff.mp hw]; exact h0
    | succ n ih =>
      intro w hw
      have hne : w ≠ [] := fun z => by rw [z] at hw; cases hw
      rw [← List.dropLast_concat_getLast hne]
      exact hs _ _ (ih _ (by rw [List.length_dropLast]; omega))
  exact this _ w rfl
theorem code_pos {w : List Int} : bits w → 1 ≤ code w := by
  refine rev_ind (P := fun w => bits w → 1 ≤ code w) (fun _ => by simp [code]) (fun w b ih h => ?_) w
  obtain ⟨h1, h2⟩ := bits_snoc.mp h
  have := ih h1
  rw [code_snoc]
  omega
section
variable {σ κ : Type} (f : Nat → σ) (N : Nat) (W : σ → Prop) (st : σ → Int → σ) (obs : σ → List Int → κ)
def eqk (k : Nat) (x y : σ) : Prop := ∀ w, bits w → w.length ≤ k → obs x w = obs y w
variable {f N W st obs}
end
end DL
set_option Elab.async false
set_option linter.all false
set_option maxRecDepth 100000
set_option maxHeartbeats 4000000
namespace DL
open PySem PySem.Spec PyProof.Rows L2
def nxD (rs : List D) (pl : D) (b : Int) : D := match pl with
  | .int i => (match rs[i.toNat]? with
    | some (.tup [_, p, q]) => if b = 0 then p else q
    | _ => pl)
  | d => d
def runD (rs : List D) (pl : D) (w : List Int) : D := w.foldl (nxD rs) pl
def put0 (rs : List D) (i : Int) : D := match rs[i.toNat]? with
  | some (.tup (b :: _)) => b
  | _ => .non
/-- what is shown at a place: a bit or a word -/
def seeD (rs : List D) : D → D
  | .int i => put0 rs i
  | d => d
theorem runD_snoc (rs : List D) (pl : D) (w : List Int) (b : Int) : runD rs pl (w ++ [b]) = nxD rs (runD rs pl w) b := by simp [runD]
section
variable {ws : List Str} {rs : List D} {pl : D}
theorem row_at (hm : Mach ws rs) {i : Int} (h0 : 0 ≤ i) (h1 : i < rs.length) : ∃ b p q, rs[i.toNat]? = some (.tup [.int b, p, q]) ∧ (b = 0 ∨ b = 1) ∧ plB rs.length ws p = true ∧ plB rs.length ws q = true ∧ atI rs i = some (.tup [.int b, p, q]) := by
  obtain ⟨r, hr, e⟩ := atI_in (ds := rs) h0 h1
  obtain ⟨b, p, q, rfl, hb, h2, h3⟩ := rowB_cases (hm r (List.mem_of_getElem? hr))
  exact ⟨b, p, q, hr, hb, h2, h3, e⟩
theorem nx_pl (hm : Mach ws rs) (h : plB rs.length ws pl = true) (b : Int) : plB rs.length ws (nxD rs pl b) = true := by
  rcases plB_cases h with ⟨i, rfl, h0, h1⟩ | ⟨t, rfl, ht⟩
  · obtain ⟨c, p, q, e, _, h2, h3, _⟩ := row_at hm h0 h1
    simp only [nxD, e]
    split
    · exact h2
    · exact h3
  · exact h
theorem run_pl (hm : Mach ws rs) (h : plB rs.length ws pl = true) : ∀ w, plB rs.length ws (runD rs pl w) = true := by
  refine rev_ind h fun w b ih => ?_
  rw [runD_snoc]
  exact nx_pl hm ih b
theorem see_row (hm : Mach ws rs) {i : Int} (h0 : 0 ≤ i) (h1 : i < rs.length) : ∃ b, seeD rs (.int i) = .int b ∧ (b = 0 ∨ b = 1) := by
  obtain ⟨b, p, q, e, hb, _⟩ := row_at hm h0 h1
  exact ⟨b, by simp only [seeD, put0, e], hb⟩
theorem see_int (hm : Mach ws rs) (h : plB rs.length ws pl = true) (hr : isRw pl = true) : ∃ b, seeD rs pl = .int b := by
  rcases plB_cases h with ⟨i, rfl, h0, h1⟩ | ⟨t, rfl, ht⟩
  · obtain ⟨b, e, _⟩ := see_row hm h0 h1
    exact ⟨b, e⟩
  · cases hr
theorem not_row (h : plB rs.length ws pl = true) (hr : isRw pl = false) : ∃ s, pl = .str s := by
  rcases plB_cases h with ⟨i, rfl, _⟩ | ⟨t, rfl, _⟩
  · cases hr
  · exact ⟨t, rfl⟩
end
theorem nd_len {α : Type} : ∀ {l L : List α}, l.Nodup → (∀ x ∈ l, x ∈ L) → l.length ≤ L.length
  | [], _, _, _ => Nat.zero_le _
  | a :: l, L, hn, h => by
    obtain ⟨h1, h2⟩ := List.nodup_cons.mp hn
    obtain ⟨s, t, e⟩ := List.append_of_mem (h a List.mem_cons_self)
    have := nd_len (l := l) (L := s ++ t) h2 fun x hx => by
      have := h x (List.mem_cons_of_mem _ hx)
      rw [e] at this
      rcases List.mem_append.mp this with z | z
      · exact List.mem_append_left _ z
      · rcases List.mem_cons.mp z with rfl | z
        · exact absurd hx h1
        · exact List.mem_append_right _ z
    simp only [e, List.length_append, List.length_cons] at this ⊢
    omega
def plAll (n : Nat) (ws : List Str) : List D := (List.range n).map (fun i => D.int (i : Nat)) ++ ws.map D.str
theorem plAll_mem {n : Nat} {ws : List Str} {d : D} (h : plB n ws d = true) : d ∈ plAll n ws := by
  rcases plB_cases h with ⟨i, rfl, h0, h1⟩ | ⟨s, rfl, hs⟩
  · refine List.mem_append_left _ (List.mem_map.mpr ⟨i.toNat, List.mem_range.mpr (by omega), ?_⟩)
    rw [show ((i.toNat : Nat) : Int) = i by omega]
  · exact List.mem_append_right _ (List.mem_map_of_mem hs)
theorem plAll_len (n : Nat) (ws : List Str) : (plAll n ws).length = n + ws.length := by simp [plAll]
abbrev Ent := D × D × List Int
structure Bf (A B : List D) (f g : D) (es : List Ent) (n : Nat) (i : Int) : Prop where
  run : ∀ e ∈ es, e.1 = runD A f e.2.2 ∧ e.2.1 = runD B g e.2.2 ∧ bits e.2.2
  nd : (es.map fun e => (e.1, e.2.1)).Nodup
  ln : ∀ e ∈ es, e.2.2.length ≤ es.length
  root : es[0]? = some (f, g, [])
  srt : es.Pairwise fun a b => code a.2.2 < code b.2.2
  bnd : ∀ c, es[n]? = some c → ∀ e ∈ es, code e.2.2 < 2 * code c.2.2 + i
  old : ∀ (k : Nat) (e : Ent), k < n → es[k]? = some e → seeD A e.1 = seeD B e.2.1 ∧ (isRw e.1 = true → ∀ b, (b = 0 ∨ b = 1) → ∃ e' ∈ es, e'.1 = nxD A e.1 b ∧ e'.2.1 = nxD B e.2.1 b ∧ code e'.2.2 ≤ 2 * code e.2.2 + b)
  now : ∀ c, es[n]? = some c → isRw c.1 = true → ∀ b, (b = 0 ∨ b = 1) → b < i → ∃ e' ∈ es, e'.1 = nxD A c.1 b ∧ e'.2.1 = nxD B c.2.1 b ∧ code e'.2.2 ≤ 2 * code c.2.2 + b
section
variable {ws : List Str} {A B : List D} {f g : D} {es : List Ent} {n : Nat} {i : Int}
theorem Bf.start : Bf A B f g [(f, g, [])] 0 0 := by
  refine ⟨fun e he => ?_, (by simp), fun e he => (by rw [List.mem_singleton.mp he]; simp), rfl, List.pairwise_singleton _ _, fun c hc e he => ?_, fun k e h => absurd h (Nat.not_lt_zero _), fun c hc hr b hb hi => ?_⟩
  · rw [List.mem_singleton.mp he]; exact ⟨rfl, rfl, bits_nil⟩
  · cases hc
    rw [List.mem_singleton.mp he]
    simp [code]
  · omega
theorem Bf.fresh {c : Ent} (h : Bf A B f g es n i) (hi : i = 0 ∨ i = 1) (hc : es[n]? = some c) (hno : ∀ e ∈ es, ¬ (e.1 = nxD A c.1 i ∧ e.2.1 = nxD B c.2.1 i)) : Bf A B f g (es ++ [(nxD A c.1 i, nxD B c.2.1 i, c.2.2 ++ [i])]) n (i + 1) := by
  have hn : n < es.length := (List.getElem?_eq_some_iff.mp hc).1
  obtain ⟨c1, c2, c3⟩ := h.run c (List.mem_of_getElem? hc)
  have ec : code (c.2.2 ++ [i]) = 2 * code c.2.2 + i := code_snoc _ _
  have at_ : ∀ {k : Nat} {e : Ent}, k ≤ n → (es ++ [(nxD A c.1 i, nxD B c.2.1 i, c.2.2 ++ [i])])[k]? = some e → es[k]? = some e := fun {k e} hk he => by
    rwa [List.getElem?_append_left (by omega)] at he
  refine ⟨fun e he => ?_, ?_, fun e he => ?_, ?_, ?_, fun c' hc' e he => ?_, fun k e hk he => ?_, fun c' hc' hr b hb hlt => ?_⟩
  · rcases List.mem_append.mp he with he | he
    · exact h.run e he
    · rw [List.mem_singleton.mp he]
      exact ⟨by rw [runD_snoc, ← c1], by rw [runD_snoc, ← c2], bits_snoc.mpr ⟨c3, hi⟩⟩
  · rw [List.map_append, List.nodup_append]
    refine ⟨h.nd, (by simp), fun x hx y hy => ?_⟩
    obtain ⟨e, he, rfl⟩ := List.mem_map.mp hx
    simp only [List.map_cons, List.map_nil, List.mem_singleton] at hy
    subst hy
    intro z
    injection z with z1 z2
    exact hno e he ⟨z1, z2⟩
  · rw [List.length_append, List.length_singleton]
    rcases List.mem_append.mp he with he | he
    · have := h.ln e he
      omega
    · have := h.ln c (List.mem_of_getElem? hc)
      rw [List.mem_singleton.mp he]
      simp only [List.length_append, List.length_singleton]
      omega
  · rw [List.getElem?_append_left (by omega)]; exact h.root
  · rw [List.pairwise_append]
    refine ⟨h.srt, List.pairwise_singleton _ _, fun x hx y hy => ?_⟩
    rw [List.mem_singleton.mp hy]
    show code x.2.2 < code (c.2.2 ++ [i])
    rw [ec]
    exact h.bnd c hc x hx
  · have hc2 := at_ (Nat.le_refl _) hc'
    rw [hc] at hc2
    cases hc2
    rcases List.mem_append.mp he with he | he
    · have := h.bnd c hc e he
      omega
    · rw [List.mem_singleton.mp he]
      show code (c.2.2 ++ [i]) < _
      omega
  · have he2 := at_ (by omega) he
    obtain ⟨o1, o2⟩ := h.old k e hk he2
    refine ⟨o1, fun hr b hb => ?_⟩
    obtain ⟨e', he', r⟩ := o2 hr b hb
    exact ⟨e', List.mem_append_left _ he', r⟩
  · have hc2 := at_ (Nat.le_refl _) hc'
    rw [hc] at hc2
    cases hc2
    by_cases hbi : b = i
    · subst hbi
      exact ⟨_, List.mem_append_right _ (List.mem_singleton_self _), rfl, rfl, Int.le_of_eq ec⟩
    · obtain ⟨e', he', r⟩ := h.now c hc hr b hb (by omega)
      exact ⟨e', List.mem_append_left _ he', r⟩
theorem Bf.step {c : Ent} (h : Bf A B f g es n 2) (hc : es[n]? = some c) (he : seeD A c.1 = seeD B c.2.1) : Bf A B f g es (n + 1) 0 := by
  refine ⟨h.run, h.nd, h.ln, h.root, h.srt, fun c' hc' e hm => ?_, fun k e hk hek => ?_, fun c' hc' hr b hb hlt => by omega⟩
  · have h1 := h.bnd c hc e hm
    obtain ⟨hn, e1⟩ := List.getElem?_eq_some_iff.mp hc
    obtain ⟨hn', e2⟩ := List.getElem?_eq_some_iff.mp hc'
    have := (List.pairwise_iff_getElem.mp h.srt) n (n + 1) hn hn' (by omega)
    rw [e1, e2] at this
    omega
  · rcases Nat.lt_succ_iff_lt_or_eq.mp hk with z | rfl
    · exact h.old k e z hek
    · rw [hc] at hek
      cases hek
      exact ⟨he, fun hr b hb => h.now c hc hr b hb (by omega)⟩
theorem Bf.front (hA : Mach ws A) (hB : Mach ws B) (hf : plB A.length ws f = true) (hg : plB B.length ws g = true) (h : Bf A B f g es n i) : ∀ w, bits w → ∃ (k : Nat) (e : Ent), es[k]? = some e ∧ code e.2.2 ≤ code w ∧ (n ≤ k ∨ (e.1 = runD A f w ∧ e.2.1 = runD B g w)) := by
  refine rev_ind (P := fun w => bits w → _) (fun _ => ⟨0, _, h.root, Int.le_refl _, .inr ⟨rfl, rfl⟩⟩) fun w b ih hb => ?_
  obtain ⟨hw, hb1⟩ := bits_snoc.mp hb
  obtain ⟨k, e, hk, hc, hor⟩ := ih hw
  have hp := code_pos hw
  have up : code w ≤ code (w ++ [b]) := by rw [code_snoc]; omega
  by_cases hnk : n ≤ k
  · exact ⟨k, e, hk, by omega, .inl hnk⟩
  · obtain ⟨e1, e2⟩ := hor.resolve_left hnk
    obtain ⟨o1, o2⟩ := h.old k e (by omega) hk
    cases hr : isRw e.1 with
    | true =>
      obtain ⟨e', he', n1, n2, n3⟩ := o2 hr b hb1
      obtain ⟨k', hk'⟩ := List.mem_iff_getElem?.mp he'
      refine ⟨k', e', hk', by rw [code_snoc]; omega, .inr ⟨?_, ?_⟩⟩
      · rw [runD_snoc, ← e1]; exact n1
      · rw [runD_snoc, ← e2]; exact n2
    | false =>
      have p1 : plB A.length ws e.1 = true := by rw [e1]; exact run_pl hA hf w
      have p2 : plB B.length ws e.2.1 = true := by rw [e2]; exact run_pl hB hg w
      obtain ⟨s, es1⟩ := not_row p1 hr
      have r2 : isRw e.2.1 = false := by
        rw [Bool.eq_false_iff]
        intro z
        obtain ⟨c, ec⟩ := see_int hB p2 z
        rw [es1, ec] at o1
        cases o1
      obtain ⟨t, et⟩ := not_row p2 r2
      refine ⟨k, e, hk, by omega, .inr ⟨?_, ?_⟩⟩
      · rw [runD_snoc, ← e1, es1]; rfl
      · rw [runD_snoc, ← e2, et]; rfl
theorem Bf.hit (hA : Mach ws A) (hB : Mach ws B) (hf : plB A.length ws f = true) (hg : plB B.length ws g = true) (h : Bf A B f g es n i) {c : Ent} (hc : es[n]? = some c) : ∀ w, bits w → seeD A (runD A f w) ≠ seeD B (runD B g w) → code c.2.2 ≤ code w := by
  intro w hw hd
  obtain ⟨k, e, hk, h1, hor⟩ := h.front hA hB hf hg w hw
  by_cases hnk : n ≤ k
  · obtain ⟨hn, e1⟩ := List.getElem?_eq_some_iff.mp hc
    obtain ⟨hn', e2⟩ := List.getElem?_eq_some_iff.mp hk
    rcases Nat.lt_or_eq_of_le hnk with z | rfl
    · have := (List.pairwise_iff_getElem.mp h.srt) n k hn hn' z
      rw [e1, e2] at this
      omega
    · rw [hc] at hk
      cases hk
      exact h1
  · obtain ⟨r1, r2⟩ := hor.resolve_left hnk
    have := (h.old k e (by omega) hk).1
    rw [r1, r2] at this
    exact absurd this hd
theorem Bf.few (hA : Mach ws A) (hB : Mach ws B) (hf : plB A.length ws f = true) (hg : plB B.length ws g = true) (h : Bf A B f g es n i) : es.length ≤ (A.length + ws.length) * (B.length + ws.length) := by
  have e : ∀ (l m : List D), (l.flatMap fun x => m.map fun y => (x, y)).length = l.length * m.length := by
    intro l m
    induction l with
    | nil => simp
    | cons a l ih => rw [List.flatMap_cons, List.length_append, ih, List.length_map, List.length_cons, Nat.add_mul]; omega
  have := nd_len (L := (plAll A.length ws).flatMap fun x => (plAll B.length ws).map fun y => (x, y)) h.nd fun x hx => by
    obtain ⟨c, hc, rfl⟩ := List.mem_map.mp hx
    obtain ⟨c1, c2, _⟩ := h.run c hc
    refine List.mem_flatMap.mpr ⟨c.1, plAll_mem (by rw [c1]; exact run_pl hA hf _), List.mem_map.mpr ⟨c.2.1, plAll_mem (by rw [c2]; exact run_pl hB hg _), rfl⟩⟩
  rw [List.length_map, e, plAll_len, plAll_len] at this
  exact this
end
end DL
set_option Elab.async false
set_option linter.all false
set_option maxRecDepth 100000
set_option maxHeartbeats 4000000
namespace DL
open PySem PySem.Spec PyProof.Rows L2
section
variable {X : Cx} {B : Bd} {pos : Pos} {k : Nat} {wx : DW} {a b c d : Expr} {ta tb tc td : DTE}
def disK (p : Addr) (x y x2 : D) (q : DQ) : DQ := fun y2 O4 => ∃ k1 k2, O4 p = some (.dK []) ∧ keyD x = some k1 ∧ keyD x2 = some k2 ∧ q (.ref p) (setO O4 p (.dK (putKD (putKD [] k1 y) k2 y2)))
def dDisp2 (ta tb tc td : DTE) : DTE := fun env O q => ∀ p, O p = none → ta env (setO O p (.dK [])) fun x O1 => tb env O1 fun y O2 => tc env O2 fun x2 O3 => td env O3 (disK p x y x2 q)
theorem i_disp2 {env : Env} {O : Ow} {q : DQ} (h : ∀ p, O p = none → ta env (setO O p (.dK [])) fun x O1 => tb env O1 fun y O2 => tc env O2 fun x2 O3 => td env O3 (disK p x y x2 q)) : dDisp2 ta tb tc td env O q := h
end
end DL
set_option Elab.async false
set_option linter.all false
set_option maxRecDepth 100000
set_option maxHeartbeats 4000000
namespace DL
open PySem PySem.Spec PyProof.Rows L2
end DL
set_option Elab.async false
set_option linter.all false
set_option maxRecDepth 100000
set_option maxHeartbeats 4000000
namespace DL
open PySem PySem.Spec PyProof.Rows L2
section
variable {X : Cx} {B : Bd} {pos p apos cpos : Pos} {k : Nat} {wx : DW} {o e f : Expr} {td ty tx : DTE} {tA : DTA}
def sdK2 (w : World) (p : Addr) (y : D) (q : DQ) : DQ := fun z O3 => ∃ r, Look w O3 p y r ∧ (∀ v, r = some v → (∃ o, Stor w O3 p y z o) ∧ q v O3) ∧ (r = none → ∃ o, Stor w O3 p y z o ∧ q z (setO O3 p o))
def sdK (w : World) (ty tx : DTE) (env : Env) (q : DQ) : DQ := fun x O1 => ∃ p, x = .ref p ∧ IsDct w O1 p ∧ ty env O1 fun y O2 => tx env O2 (sdK2 w p y q)
def dSetd (w : World) (td ty tx : DTE) : DTE := fun env O q => td env O (sdK w ty tx env q)
end
section
variable {w : World} {O : Ow} {q : DQ} {p : Addr} {y v : D} {kvs : List (Key × D)} {kvn : List (D × D)} {k : Key} {n : NestedKey} {env : Env} {td ty tx : DTE} {ds : List D}
theorem i_setd (h : td env O (sdK w ty tx env q)) : dSetd w td ty tx env O q := h
end
end DL
set_option Elab.async false
set_option linter.all false
set_option maxRecDepth 100000
set_option maxHeartbeats 4000000
namespace DL
open PySem PySem.Spec PyProof.Rows L2
section
variable {ws : List Str} {A : List D}
abbrev fR (i : Nat) : D := .int (i : Nat)
abbrev oR (A : List D) (x : D) (u : List Int) : D := seeD A (runD A x u)
theorem oR_cons (A : List D) (x : D) (b : Int) (u : List Int) : oR A x (b :: u) = oR A (nxD A x b) u := rfl
/-- whether two rows show the same behind all bits -/
def Same (A : List D) (i j : Nat) : Prop := ∀ u, bits u → oR A (fR i) u = oR A (fR j) u
structure KInv (A : List D) (t : Nat) (ks : List Int) : Prop where
  len : ks.length = A.length
  eq : ∀ i j, i < A.length → j < A.length → (ks[i]? = ks[j]? ↔ eqk (oR A) t (fR i) (fR j))
theorem KInv.start (hm : Mach ws A) {ks : List Int} (hl : ks.length = A.length) (h : ∀ i, i < A.length → ∃ b, ks[i]? = some b ∧ seeD A (fR i) = .int b) : KInv A 0 ks := by
  refine ⟨hl, fun i j hi hj => ?_⟩
  obtain ⟨b, e, es⟩ := h i hi
  obtain ⟨c, e', es'⟩ := h j hj
  rw [e, e']
  constructor
  · intro z
    cases z
    intro u hu hl
    rw [List.length_eq_zero_iff.mp (Nat.le_zero.mp hl)]
    show seeD A (fR i) = seeD A (fR j)
    rw [es, es']
  · intro z
    have : seeD A (fR i) = seeD A (fR j) := z [] bits_nil (Nat.le_refl _)
    rw [es, es'] at this
    cases this; rfl
end
end DL
set_option Elab.async false
set_option linter.all false
set_option maxRecDepth 100000
set_option maxHeartbeats 4000000
namespace DL
open PySem PySem.Spec PyProof.Rows L2
def addP (sm : Nat → Nat → Bool) (kept : List Nat) : D → List Nat
  | .int c => if kept.any (fun k => sm k c.toNat) = true then kept else kept ++ [c.toNat]
  | _ => kept
def rowP (A : List D) (sm : Nat → Nat → Bool) (kept : List Nat) (k : Nat) : List Nat := match A[k]? with
  | some (.tup [_, p, q]) => addP sm (addP sm kept p) q
  | _ => kept
/-- the rows that are kept, from the first ones on -/
def lkP (A : List D) (sm : Nat → Nat → Bool) : Nat → List Nat → Nat → List Nat
  | 0, kept, _ => kept
  | f + 1, kept, a => match kept[a]? with
    | some k => lkP A sm f (rowP A sm kept k) (a + 1)
    | none => kept
def keptP (A : List D) (sm : Nat → Nat → Bool) (n : Nat) : List Nat := lkP A sm (A.length + 1) (List.range n) 0
def SmOk' (A : List D) (sm : Nat → Nat → Bool) : Prop := ∀ i j, i < A.length → j < A.length → (sm i j = true ↔ Same A i j)
/-- a place that is covered -/
def Cov (sm : Nat → Nat → Bool) (kept : List Nat) (d : D) : Prop := ∀ c, d = .int c → kept.any (fun k => sm k c.toNat) = true
structure Kp (A : List D) (sm : Nat → Nat → Bool) (kept : List Nat) (a : Nat) : Prop where
  nd : kept.Nodup
  lt : ∀ k ∈ kept, k < A.length
  at_ : a ≤ kept.length
  cl : ∀ (i k : Nat), i < a → kept[i]? = some k → ∀ b p q, A[k]? = some (.tup [b, p, q]) → Cov sm kept p ∧ Cov sm kept q
section
variable {ws : List Str} {A : List D} {sm : Nat → Nat → Bool} {kept : List Nat}
theorem addP_pre (d : D) : ∃ t, addP sm kept d = kept ++ t := by
  unfold addP
  split
  · split
    · exact ⟨[], by simp⟩
    · exact ⟨_, rfl⟩
  · exact ⟨[], by simp⟩
theorem any_pre {t : List Nat} {f : Nat → Bool} (h : kept.any f = true) : (kept ++ t).any f = true := by rw [List.any_append, h]; rfl
theorem Cov.pre {t : List Nat} {d : D} (h : Cov sm kept d) : Cov sm (kept ++ t) d := fun c e => any_pre (h c e)
theorem same_refl (i : Nat) : Same A i i := fun _ _ => rfl
theorem addP_cov (hs : SmOk' A sm) {d : D} (hd : plB A.length ws d = true) : Cov sm (addP sm kept d) d := by
  rintro c rfl
  unfold addP
  dsimp only
  split
  · assumption
  · rw [List.any_append, List.any_cons]
    rcases plB_cases hd with ⟨i, e, h0, h1⟩ | ⟨s, e, _⟩
    · cases e
      rw [(hs c.toNat c.toNat (by omega) (by omega)).mpr (same_refl _)]
      simp
    · cases e
theorem addP_ok (hs : SmOk' A sm) {d : D} (hd : plB A.length ws d = true) (hn : kept.Nodup) (hl : ∀ k ∈ kept, k < A.length) : (addP sm kept d).Nodup ∧ ∀ k ∈ addP sm kept d, k < A.length := by
  rcases plB_cases hd with ⟨i, rfl, h0, h1⟩ | ⟨s, rfl, _⟩
  · unfold addP
    dsimp only
    split
    · exact ⟨hn, hl⟩
    · rename_i hno
      refine ⟨?_, fun k hk => ?_⟩
      · rw [List.nodup_append]
        refine ⟨hn, by simp, fun x hx y hy => ?_⟩
        rw [List.mem_singleton.mp hy]
        rintro rfl
        refine hno (List.any_eq_true.mpr ⟨_, hx, (hs _ _ (by omega) (by omega)).mpr (same_refl _)⟩)
      · rcases List.mem_append.mp hk with hk | hk
        · exact hl k hk
        · rw [List.mem_singleton.mp hk]; omega
  · exact ⟨hn, hl⟩
theorem Kp.few {a : Nat} (h : Kp A sm kept a) : kept.length ≤ A.length := by
  have := nd_len (L := List.range A.length) h.nd fun k hk => List.mem_range.mpr (h.lt k hk)
  rwa [List.length_range] at this
theorem rowP_eq (k : Nat) {b p q : D} (e : A[k]? = some (.tup [b, p, q])) : rowP A sm kept k = addP sm (addP sm kept p) q := by simp only [rowP, e]
theorem Kp.step (hm : Mach ws A) (hs : SmOk' A sm) {a k : Nat} (h : Kp A sm kept a) (hk : kept[a]? = some k) : Kp A sm (rowP A sm kept k) (a + 1) := by
  have hkl := h.lt k (List.mem_of_getElem? hk)
  obtain ⟨b, p, q, e, _, hp, hq, _⟩ := row_at hm (i := (k : Int)) (by omega) (by omega)
  rw [Int.toNat_natCast] at e
  rw [rowP_eq k e]
  obtain ⟨n1, l1⟩ := addP_ok hs hp h.nd h.lt
  obtain ⟨n2, l2⟩ := addP_ok hs hq n1 l1
  obtain ⟨t1, e1⟩ := addP_pre (sm := sm) (kept := kept) p
  obtain ⟨t2, e2⟩ := addP_pre (sm := sm) (kept := addP sm kept p) q
  have alen := (List.getElem?_eq_some_iff.mp hk).1
  have epre : addP sm (addP sm kept p) q = kept ++ (t1 ++ t2) := by rw [e2, e1, List.append_assoc]
  refine ⟨n2, l2, by rw [epre, List.length_append]; omega, fun i k' hi hk' b' p' q' e' => ?_⟩
  rw [epre, List.getElem?_append_left (by omega)] at hk'
  rcases Nat.lt_succ_iff_lt_or_eq.mp hi with z | rfl
  · obtain ⟨c1, c2⟩ := h.cl i k' z hk' b' p' q' e'
    rw [epre]
    exact ⟨c1.pre, c2.pre⟩
  · rw [hk] at hk'
    cases hk'
    rw [e] at e'
    cases e'
    refine ⟨?_, addP_cov hs hq⟩
    rw [e2]
    exact (addP_cov hs hp).pre
theorem lk_step {f a k : Nat} (hk : kept[a]? = some k) : lkP A sm (f + 1) kept a = lkP A sm f (rowP A sm kept k) (a + 1) := by simp only [lkP, hk]
theorem lk_end {f a : Nat} (h : kept.length ≤ a) : lkP A sm f kept a = kept := by
  cases f with
  | zero => rfl
  | succ f => simp only [lkP, List.getElem?_eq_none h]
theorem Kp.run (hm : Mach ws A) (hs : SmOk' A sm) : ∀ (f : Nat) {kept : List Nat} {a : Nat}, Kp A sm kept a → A.length + 1 ≤ f + a → Kp A sm (lkP A sm f kept a) (lkP A sm f kept a).length ∧ ∃ t, lkP A sm f kept a = kept ++ t
  | 0, kept, a, h, hf => by
    have h1 := h.few
    have h2 := h.at_
    exact absurd hf (by omega)
  | f + 1, kept, a, h, hf => by
    by_cases hlt : a < kept.length
    · have hk : kept[a]? = some kept[a] := List.getElem?_eq_getElem hlt
      rw [lk_step hk]
      obtain ⟨r1, t, r2⟩ := Kp.run hm hs f (h.step hm hs hk) (by omega)
      refine ⟨r1, ?_⟩
      have hkl := h.lt _ (List.mem_of_getElem? hk)
      obtain ⟨b, p, q, e, _, hp, hq, _⟩ := row_at hm (i := ((kept[a] : Nat) : Int)) (by omega) (by omega)
      rw [Int.toNat_natCast] at e
      rw [rowP_eq _ e] at r2 ⊢
      obtain ⟨t1, e1⟩ := addP_pre (sm := sm) (kept := kept) p
      obtain ⟨t2, e2⟩ := addP_pre (sm := sm) (kept := addP sm kept p) q
      exact ⟨t1 ++ t2 ++ t, by rw [r2, e2, e1]; simp⟩
    · have ea : a = kept.length := by have := h.at_; omega
      rw [lk_end (by omega)]
      subst ea
      exact ⟨h, [], by simp⟩
theorem Kp.start {n : Nat} (hn : n ≤ A.length) : Kp A sm (List.range n) 0 :=
  ⟨List.nodup_range, fun k hk => by have := List.mem_range.mp hk; omega, Nat.zero_le _, fun i k h => absurd h (Nat.not_lt_zero _)⟩
end
end DL
set_option Elab.async false
set_option linter.all false
set_option maxRecDepth 100000
set_option maxHeartbeats 4000000
namespace DL
open PySem PySem.Spec PyProof.Rows L2
section
variable {X : Cx} {B : Bd} {pos apos : Pos} {k : Nat} {wx : DW} {a e : Expr} {to : DTE} {tA : DTA} {env : Env} {O : Ow} {q : DQ}
def ixL2 (es : List D) (q : DQ) : List D → Ow → Prop := fun ds O2 => match ds with
  | [y] => ∃ d zs, ∃ (j : Nat) (z : PyData), asP O2 (.lst es) = some (.list zs) ∧ asP O2 y = some d ∧ SeqAt.shaped (.list zs) = true ∧ SeqAt.shaped d = true ∧ zs[j]? = some z ∧ PyData.eqv z d = true ∧ (∀ (m : Nat) (z' : PyData), m < j → zs[m]? = some z' → PyData.eqv z' d = false) ∧ q (.int (j : Nat)) O2
  | _ => False
def ixL (tA : DTA) (env : Env) (q : DQ) : DQ := fun x O1 => match x with
  | .lst es => tA env O1 (ixL2 es q)
  | _ => False
def dIdxL (to : DTE) (tA : DTA) : DTE := fun env O q => to env O (ixL tA env q)
theorem i_idxL (h : to env O (ixL tA env q)) : dIdxL to tA env O q := h
theorem i_ixLK {es : List D} (h : tA env O (ixL2 es q)) : ixL tA env q (.lst es) O := h
end
end DL
set_option Elab.async false
set_option linter.all false
set_option maxRecDepth 100000
set_option maxHeartbeats 4000000
namespace DL
open PySem PySem.Spec PyProof.Rows L2
/-- places of two machines that show the same -/
def PlX (A B : List D) (x y : D) : Prop := ∀ u, bits u → oR A x u = oR B y u
abbrev SameX (A B : List D) (i j : Nat) : Prop := PlX A B (fR i) (fR j)
theorem PlX.symm {A B : List D} {x y : D} (h : PlX A B x y) : PlX B A y x := fun u hu => (h u hu).symm
theorem PlX.trans {A B C : List D} {x y z : D} (h : PlX A B x y) (h' : PlX B C y z) : PlX A C x z := fun u hu => (h u hu).trans (h' u hu)
theorem PlX.next {A B : List D} {x y : D} (h : PlX A B x y) {b : Int} (hb : b = 0 ∨ b = 1) : PlX A B (nxD A x b) (nxD B y b) := fun u hu => by
  rw [← oR_cons, ← oR_cons]
  exact h (b :: u) fun d hd => by
    rcases List.mem_cons.mp hd with rfl | hd
    · exact hb
    · exact hu d hd
section
variable {ws : List Str} {A B : List D}
/-- two such places are rows, or one word -/
theorem PlX.cases (hA : Mach ws A) (hB : Mach ws B) {x y : D} (hx : plB A.length ws x = true) (hy : plB B.length ws y = true) (h : PlX A B x y) :
    (∃ c d : Nat, x = fR c ∧ y = fR d ∧ c < A.length ∧ d < B.length) ∨ ∃ s, x = .str s ∧ y = .str s := by
  have h0 := h [] bits_nil
  rcases plB_cases hx with ⟨c, rfl, c0, c1⟩ | ⟨s, rfl, _⟩ <;> rcases plB_cases hy with ⟨d, rfl, d0, d1⟩ | ⟨t, rfl, _⟩
  · refine .inl ⟨c.toNat, d.toNat, ?_, ?_, by omega, by omega⟩
    · show D.int c = .int (c.toNat : Nat); congr 1; omega
    · show D.int d = .int (d.toNat : Nat); congr 1; omega
  · obtain ⟨b, e, _⟩ := see_row hA c0 c1
    have z : seeD A (.int c) = .str t := h0
    rw [e] at z
    cases z
  · obtain ⟨b, e, _⟩ := see_row hB d0 d1
    have z : D.str s = seeD B (.int d) := h0
    rw [e] at z
    cases z
  · have z : D.str s = .str t := h0
    cases z
    exact .inr ⟨s, rfl, rfl⟩
/-- lists of rows that show the same one by one -/
def KX (A B : List D) : List Nat → List Nat → Prop
  | [], [] => True
  | a :: l, b :: m => SameX A B a b ∧ KX A B l m
  | _, _ => False
theorem KX.len : ∀ {l m : List Nat}, KX A B l m → l.length = m.length
  | [], [], _ => rfl
  | _ :: _, _ :: _, h => by rw [List.length_cons, List.length_cons, KX.len h.2]
  | [], _ :: _, h => h.elim
  | _ :: _, [], h => h.elim
theorem KX.snoc : ∀ {l m : List Nat} {a b : Nat}, KX A B l m → SameX A B a b → KX A B (l ++ [a]) (m ++ [b])
  | [], [], a, b, _, h => ⟨h, trivial⟩
  | _ :: _, _ :: _, a, b, h, h' => ⟨h.1, KX.snoc h.2 h'⟩
  | [], _ :: _, a, b, h, _ => h.elim
  | _ :: _, [], a, b, h, _ => h.elim
theorem KX.get : ∀ {l m : List Nat} {j a : Nat}, KX A B l m → l[j]? = some a → ∃ b, m[j]? = some b ∧ SameX A B a b
  | x :: l, y :: m, 0, a, h, e => by
    cases e
    exact ⟨y, rfl, h.1⟩
  | x :: l, y :: m, j + 1, a, h, e => KX.get (l := l) (m := m) (j := j) h.2 e
  | [], [], j, a, h, e => by cases e
  | [], _ :: _, j, a, h, _ => h.elim
  | _ :: _, [], j, a, h, _ => h.elim
theorem KX.rng : ∀ {n : Nat}, (∀ i, i < n → SameX A B i i) → KX A B (List.range n) (List.range n)
  | 0, _ => trivial
  | n + 1, h => by
    rw [List.range_succ]
    exact KX.snoc (KX.rng fun i hi => h i (by omega)) (h n (by omega))
variable {smA smB : Nat → Nat → Bool}
theorem sm_x (sA : SmOk' A smA) (sB : SmOk' B smB) {a b c d : Nat} (ha : a < A.length) (hb : b < B.length) (hc : c < A.length) (hd : d < B.length) (h1 : SameX A B a b) (h2 : SameX A B c d) : smA a c = smB b d := by
  rw [Bool.eq_iff_iff, sA a c ha hc, sB b d hb hd]
  exact ⟨fun h u hu => by rw [← h1 u hu, ← h2 u hu]; exact h u hu, fun h u hu => by rw [h1 u hu, h2 u hu]; exact h u hu⟩
theorem KX.any (sA : SmOk' A smA) (sB : SmOk' B smB) {c d : Nat} (hc : c < A.length) (hd : d < B.length) (h2 : SameX A B c d) : ∀ {l m : List Nat}, KX A B l m → (∀ k ∈ l, k < A.length) → (∀ k ∈ m, k < B.length) → l.any (fun k => smA k c) = m.any fun k => smB k d
  | [], [], _, _, _ => rfl
  | a :: l, b :: m, h, hl, hm => by
    rw [List.any_cons, List.any_cons, sm_x sA sB (hl a List.mem_cons_self) (hm b List.mem_cons_self) hc hd h.1 h2, KX.any sA sB hc hd h2 h.2 (fun k hk => hl k (List.mem_cons_of_mem _ hk)) fun k hk => hm k (List.mem_cons_of_mem _ hk)]
  | [], _ :: _, h, _, _ => h.elim
  | _ :: _, [], h, _, _ => h.elim
theorem KX.add (hA : Mach ws A) (hB : Mach ws B) (sA : SmOk' A smA) (sB : SmOk' B smB) {l m : List Nat} (h : KX A B l m) (hl : ∀ k ∈ l, k < A.length) (hm : ∀ k ∈ m, k < B.length) {x y : D} (hx : plB A.length ws x = true) (hy : plB B.length ws y = true) (hxy : PlX A B x y) : KX A B (addP smA l x) (addP smB m y) := by
  rcases hxy.cases hA hB hx hy with ⟨c, d, rfl, rfl, hc, hd⟩ | ⟨s, rfl, rfl⟩
  · have := KX.any sA sB hc hd hxy h hl hm
    show KX A B (if l.any (fun k => smA k ((c : Nat) : Int).toNat) = true then l else l ++ [((c : Nat) : Int).toNat]) (if m.any (fun k => smB k ((d : Nat) : Int).toNat) = true then m else m ++ [((d : Nat) : Int).toNat])
    rw [Int.toNat_natCast, Int.toNat_natCast, this]
    split
    · exact h
    · exact h.snoc hxy
  · exact h
/-- the parts of rows that show the same -/
theorem rows_x (hA : Mach ws A) (hB : Mach ws B) {a b : Nat} (ha : a < A.length) (hb : b < B.length) (h : SameX A B a b) : ∃ t p q p' q', A[a]? = some (.tup [.int t, p, q]) ∧ B[b]? = some (.tup [.int t, p', q']) ∧ plB A.length ws p = true ∧ plB A.length ws q = true ∧ plB B.length ws p' = true ∧ plB B.length ws q' = true ∧ PlX A B p p' ∧ PlX A B q q' := by
  obtain ⟨t, p, q, e, _, hp, hq, _⟩ := row_at hA (i := (a : Int)) (by omega) (by omega)
  obtain ⟨t', p', q', e', _, hp', hq', _⟩ := row_at hB (i := (b : Int)) (by omega) (by omega)
  rw [Int.toNat_natCast] at e e'
  have z : seeD A (fR a) = seeD B (fR b) := h [] bits_nil
  simp only [seeD, put0, fR, Int.toNat_natCast, e, e'] at z
  cases z
  have n0 := h.next (.inl rfl)
  have n1 := h.next (.inr rfl)
  simp only [nxD, fR, Int.toNat_natCast, e, e', if_true] at n0
  simp only [nxD, fR, Int.toNat_natCast, e, e', show ¬ ((1 : Int) = 0) by decide, if_false] at n1
  exact ⟨_, p, q, p', q', e, e', hp, hq, hp', hq', n0, n1⟩
theorem lk_more (hA : Mach ws A) (sA : SmOk' A smA) (g : Nat) : ∀ (f : Nat) {kept : List Nat} {a : Nat}, Kp A smA kept a → A.length + 1 ≤ f + a → lkP A smA (f + g) kept a = lkP A smA f kept a
  | 0, kept, a, h, hf => by
    have h1 := h.few
    have h2 := h.at_
    exact absurd hf (by omega)
  | f + 1, kept, a, h, hf => by
    by_cases hlt : a < kept.length
    · have hk : kept[a]? = some kept[a] := List.getElem?_eq_getElem hlt
      rw [show f + 1 + g = (f + g) + 1 by omega, lk_step hk, lk_step hk]
      exact lk_more hA sA g f (h.step hA sA hk) (by omega)
    · rw [lk_end (by omega), lk_end (by omega)]
theorem KX.lk (hA : Mach ws A) (hB : Mach ws B) (sA : SmOk' A smA) (sB : SmOk' B smB) : ∀ (f : Nat) {l m : List Nat} {a : Nat}, KX A B l m → Kp A smA l a → Kp B smB m a → KX A B (lkP A smA f l a) (lkP B smB f m a)
  | 0, l, m, a, h, _, _ => h
  | f + 1, l, m, a, h, hl, hm => by
    by_cases hlt : a < l.length
    · have hk : l[a]? = some l[a] := List.getElem?_eq_getElem hlt
      obtain ⟨b, hb, hab⟩ := h.get hk
      rw [lk_step hk, lk_step hb]
      have la := hl.lt _ (List.mem_of_getElem? hk)
      have lb := hm.lt _ (List.mem_of_getElem? hb)
      obtain ⟨t, p, q, p', q', e, e', hp, hq, hp', hq', n0, n1⟩ := rows_x hA hB la lb hab
      refine KX.lk hA hB sA sB f ?_ (hl.step hA sA hk) (hm.step hB sB hb)
      rw [rowP_eq _ e, rowP_eq _ e']
      have h1 := h.add hA hB sA sB hl.lt hm.lt hp hp' n0
      exact h1.add hA hB sA sB (addP_ok sA hp hl.nd hl.lt).2 (addP_ok sB hp' hm.nd hm.lt).2 hq hq' n1
    · have := h.len
      rw [lk_end (by omega), lk_end (by omega)]
      exact h
theorem KX.kept (hA : Mach ws A) (hB : Mach ws B) (sA : SmOk' A smA) (sB : SmOk' B smB) {n : Nat} (hnA : n ≤ A.length) (hnB : n ≤ B.length) (h : ∀ i, i < n → SameX A B i i) : KX A B (keptP A smA n) (keptP B smB n) := by
  have h1 := KX.lk hA hB sA sB (A.length + 1 + (B.length + 1)) (KX.rng h) (Kp.start hnA) (Kp.start hnB)
  rw [lk_more hA sA (B.length + 1) (A.length + 1) (Kp.start hnA) (by omega)] at h1
  rw [show A.length + 1 + (B.length + 1) = B.length + 1 + (A.length + 1) by omega, lk_more hB sB (A.length + 1) (B.length + 1) (Kp.start hnB) (by omega)] at h1
  exact h1
end
end DL
set_option Elab.async false
set_option linter.all false
set_option maxRecDepth 100000
set_option maxHeartbeats 4000000
namespace DL
open PySem PySem.Spec PyProof.Rows L2
/-- a place and its twin by the names -/
def Tw (names : List Nat) (x x' : D) : Prop := (∃ s, x = .str s ∧ x' = .str s) ∨ ∃ c t : Nat, x = fR c ∧ x' = fR t ∧ names[t]? = some c
section
variable {ws : List Str} {A G : List D} {names : List Nat}
theorem Tw.pl {n : Nat} {x x' : D} (h : Tw names x x') (hx : plB A.length ws x = true) (hn : names.length ≤ n) : plB n ws x' = true := by
  rcases h with ⟨s, rfl, rfl⟩ | ⟨c, t, rfl, rfl, ht⟩
  · exact hx
  · have := (List.getElem?_eq_some_iff.mp ht).1
    simp [plB, fR]
    omega
end
end DL
set_option Elab.async false
set_option linter.all false
set_option maxRecDepth 100000
set_option maxHeartbeats 4000000
namespace DL
open PySem PySem.Spec PyProof.Rows L2
section
variable {X : Cx} {B : Bd} {pos : Pos} {k : Nat} {wx : DW} {a b c d e f : Expr} {ta tb tc td te tf : DTE}
def disK3 (p : Addr) (x y x2 y2 x3 : D) (q : DQ) : DQ := fun y3 O4 => ∃ k1 k2 k3, O4 p = some (.dK []) ∧ keyD x = some k1 ∧ keyD x2 = some k2 ∧ keyD x3 = some k3 ∧ q (.ref p) (setO O4 p (.dK (putKD (putKD (putKD [] k1 y) k2 y2) k3 y3)))
def dDisp3 (ta tb tc td te tf : DTE) : DTE := fun env O q => ∀ p, O p = none → ta env (setO O p (.dK [])) fun x O1 => tb env O1 fun y O2 => tc env O2 fun x2 O3 => td env O3 fun y2 O4 => te env O4 fun x3 O5 => tf env O5 (disK3 p x y x2 y2 x3 q)
theorem i_disp3 {env : Env} {O : Ow} {q : DQ} (h : ∀ p, O p = none → ta env (setO O p (.dK [])) fun x O1 => tb env O1 fun y O2 => tc env O2 fun x2 O3 => td env O3 fun y2 O4 => te env O4 fun x3 O5 => tf env O5 (disK3 p x y x2 y2 x3 q)) : dDisp3 ta tb tc td te tf env O q := h
end
end DL
set_option Elab.async false
set_option linter.all false
set_option maxRecDepth 100000
set_option maxHeartbeats 4000000
namespace DL
open PySem PySem.Spec PyProof.Rows L2
def kS (s : Str) : Key := Sum.inr s
def namesV (kv : List (Key × D)) (fi : List Str) : List Str := fi ++ (kv.filterMap fun x => match x.1 with | .inr s => if fi.contains s then none else some s | _ => none)
def atV (ns : List Str) : List (Key × D) := (List.range ns.length).foldl (fun kv i => putKD kv (kS (ns.getD i "")) (.int (i : Nat))) []
def getV (kv : List (Key × D)) (d : D) : D := match d with
  | .str s => (valD kv (kS s)).getD d
  | _ => d
def numV (kv : List (Key × D)) (fi : List Str) : List D := (namesV kv fi).map fun s => match valD kv (kS s) with
  | some (.tup [p, a, b]) => .tup [p, getV (atV (namesV kv fi)) a, getV (atV (namesV kv fi)) b]
  | _ => .non
end DL
set_option Elab.async false
set_option linter.all false
set_option maxRecDepth 100000
set_option maxHeartbeats 4000000
namespace DL
open PySem PySem.Spec PyProof.Rows L2
abbrev DHF := DF → Ow → DQ → DX → Prop
section
variable {X : Cx} {pins : List (Addr × Obj)} {σ : L2.St} {H F : Hp} {s : Shared} {env : Env} {scope : Scope} {f c' : Addr} {params : Arguments} {body : Expr} {pm ctv : Value} {j : Nat} {tb : DW → DTE}
/-- what the lambda does where its maker's names hold env -/
abbrev lamOf (tb : DW → DTE) (env : Env) : DF := fun ds O q x => ds = [] ∧ tb (fun c fs _ O => x c fs O) env O q
end
/-- the table at P is right, and nobody holds it for frozen -/
def TabOk (K : Frag) (H F : Hp) (P : Addr) (q : Str) : Prop := TabQ K H P q ∧ F P = none
theorem TabOk.later {K : Frag} {O : Ow} {H F : Hp} {O' : Ow} {H' F' : Hp} {P : Addr} {q : Str} (t : TabOk K H F P q) (ow : OwOk K O H F) (a : After K O H F O' H' F') : TabOk K H' F' P q := by
  obtain ⟨t, n⟩ := t
  obtain ⟨ps, e, _⟩ := id t.2
  refine ⟨a.tb _ _ t, a.fr P (by rw [e]; simp) ?_ n⟩
  cases z : O P with
  | none => rfl
  | some u =>
    obtain ⟨_, ho, e2, r⟩ := ow P u z
    rw [e] at e2
    cases e2
    exact absurd rfl (r.nt.1 ps)
/-- how the heap changes as a lambda named q is made by the maker whose table is P -/
def Mk1 (H H1 : Hp) (P c' : Addr) (q : Str) : Prop := H1 = H ∨ ∃ ps more : Array Value, H P = some (.tbl ps) ∧ H c' = none ∧ H1 = upd (upd H P (.tbl (ps ++ more))) c' (LamX.CodeO c' q) ∧ LamX.TabS H1 P q
theorem Mk1.after {K : Frag} {O : Ow} {H F H1 : Hp} {P c' : Addr} {q : Str} (m : Mk1 H H1 P c' q) (fh : L2.Same F H) (ow : OwOk K O H F) (hq : q = qT K P) (hF : F P = none) : After K O H F O H1 F := by
  rcases m with rfl | ⟨ps, more, hP, hc, rfl, hT⟩
  · exact .rfl' fh ow
  have kept : ∀ b o, H b = some o → b ≠ P → upd (upd H P (.tbl (ps ++ more))) c' (LamX.CodeO c' q) b = some o := fun b o e n => by
    rw [upd_ne (ne_of_none e hc), upd_ne n]; exact e
  have nP : ∀ b o, H b = some o → (∀ ps, o ≠ HO.tbl ps) → b ≠ P := fun b o e n z => n ps (Option.some.inj (e.symm.trans (by rw [z]; exact hP)))
  refine ⟨L2.Same.refl _, fun b o e => kept b o (fh b o e) fun z => ?_, fun b o e _ => ?_, fun _ _ _ e => e, fun p o e => ?_, fun p o e => .inl (by rw [e]; simp), fun P' q' t => ?_⟩
  · rw [z, hF] at e; cases e
  · by_cases hb : b = P
    · subst hb
      rw [hP] at e; cases e
      exact .inr ⟨ps, ps ++ more, rfl, by rw [upd_ne (ne_of_none hP hc), upd_same]⟩
    · exact .inl (kept b o e hb)
  · obtain ⟨h1, ho, h2, h3⟩ := ow p o e
    exact ⟨h1, ho, kept p ho h2 (nP p ho h2 h3.nt.1), h3⟩
  · obtain ⟨t1, t2⟩ := t
    by_cases hb : P' = P
    · subst hb
      rw [t1, ← hq]
      exact ⟨hq, hT⟩
    · obtain ⟨ps', e1, e2, e3⟩ := t2
      refine ⟨t1, ps', kept _ _ e1 hb, e2, fun pos cv h => ?_⟩
      obtain ⟨c, ec, hcc⟩ := e3 pos cv h
      exact ⟨c, ec, kept _ _ hcc (nP _ _ hcc LamX.codeO_ne)⟩
def dLam (hd : DHF) (tb : DW → DTE) (wx : DW) : DTE := fun env O q => hd (lamOf tb env) O q fun c fs O' => wx c fs env O'
section
variable {X : Cx} {B : Bd} {k j m jl : Nat} {wx : DW} {x qn a : Str} {st : Stmt} {g c P : Addr} {hd : DHF} {tb : DW → DTE} {params : Arguments} {body : Expr} {scope : Scope} {p lpos pos : Pos}
theorem i_lam {env : Env} {O : Ow} {q : DQ} (h : hd (lamOf tb env) O q fun c fs O' => wx c fs env O') : dLam hd tb wx env O q := h
end
end DL
set_option Elab.async false
set_option linter.all false
set_option maxRecDepth 100000
set_option maxHeartbeats 4000000
namespace DL
open PySem PySem.Spec PyProof.Rows L2
def TabsOk (K : Frag) (T : List (Addr × Str)) (O : Ow) (H F : Hp) : Prop := OwOk K O H F ∧ ∀ p ∈ T, TabOk K H F p.1 p.2
theorem TabsOk.later {K : Frag} {T : List (Addr × Str)} {O : Ow} {H F : Hp} {O' : Ow} {H' F' : Hp} (t : TabsOk K T O H F) (a : After K O H F O' H' F') : TabsOk K T O' H' F' := ⟨a.ow, fun p hp => (t.2 p hp).later t.1 a⟩
theorem TabsOk.sub {K : Frag} {T T' : List (Addr × Str)} {O : Ow} {H F : Hp} (t : TabsOk K T O H F) (h : ∀ p ∈ T', p ∈ T) : TabsOk K T' O H F := ⟨t.1, fun p hp => t.2 p (h p hp)⟩
def isTab : Obj → Bool
  | ⟨.none, _, .fields _, _⟩ => true
  | _ => false
def frN (g : Addr → Option Obj) (as : List Addr) : Frag := He.frG (fun a => match g a with | some o => if isTab o then none else some o | none => none) as
theorem frN_at {g : Addr → Option Obj} {a : Addr} {o : Obj} {as : List Addr} (h : (frN g as).lookup a = some o) : g a = some o := by
  have z := He.frG_at as h
  revert z
  cases e : g a with
  | none => exact fun z => by cases z
  | some u =>
    show (if isTab u then none else some u) = some o → _
    split
    · exact fun z => by cases z
    · exact id
end DL
set_option Elab.async false
set_option linter.all false
set_option maxRecDepth 100000
set_option maxHeartbeats 4000000
namespace DL
open PySem PySem.Spec PyProof.Rows L2
end DL
set_option Elab.async false
set_option linter.all false
set_option maxRecDepth 100000
set_option maxHeartbeats 4000000
namespace DL
open PySem PySem.Spec PyProof.Rows L2
section
variable {X : Cx} {B : Bd} {pos apos : Pos} {k : Nat} {wx : DW} {e o : Expr} {to te : DTE} {env : Env} {O : Ow} {q : DQ}
def cntK (a : Str) (q : DQ) : DQ := fun y O2 => match y with
  | .str b => q (.int (Txt.count a b)) O2
  | _ => False
def dCount (to te : DTE) : DTE := fun env O q => to env O fun x O1 => match x with
  | .str a => te env O1 (cntK a q)
  | _ => False
theorem i_count (h : to env O fun x O1 => match x with | .str a => te env O1 (cntK a q) | _ => False) : dCount to te env O q := h
end
end DL
set_option Elab.async false
set_option linter.all false
set_option maxRecDepth 100000
set_option maxHeartbeats 4000000
namespace DL
open PySem PySem.Spec PyProof.Rows L2
def goN : List (DTE × DTE) → List (Key × D) → Env → Ow → (List (Key × D) → Ow → Prop) → Prop
  | [], acc, _, O, q => q acc O
  | (tk, tv) :: r, acc, env, O, q => tk env O fun x O1 => tv env O1 fun y O2 => ∃ k, keyD x = some k ∧ goN r (putKD acc k y) env O2 q
def dDispN (ts : List (DTE × DTE)) : DTE := fun env O q => ∀ p, O p = none → goN ts [] env (setO O p (.dK [])) fun kvs O' => O' p = some (.dK []) ∧ q (.ref p) (setO O' p (.dK kvs))
section
variable {B : Bd}
variable {X : Cx} {pos : Pos} {keys : List (Option Expr)} {values : List Expr}
theorem i_dispN {ts : List (DTE × DTE)} {env : Env} {O : Ow} {q : DQ} (h : ∀ p, O p = none → goN ts [] env (setO O p (.dK [])) fun kvs O' => O' p = some (.dK []) ∧ q (.ref p) (setO O' p (.dK kvs))) : dDispN ts env O q := h
theorem i_goC {tk tv : DTE} {r : List (DTE × DTE)} {acc : List (Key × D)} {env : Env} {O : Ow} {q : List (Key × D) → Ow → Prop} (h : tk env O fun x O1 => tv env O1 fun y O2 => ∃ k, keyD x = some k ∧ goN r (putKD acc k y) env O2 q) : goN ((tk, tv) :: r) acc env O q := h
theorem i_goK {r : List (DTE × DTE)} {acc : List (Key × D)} {env : Env} {O : Ow} {q : List (Key × D) → Ow → Prop} {x y : D} {k : Key} (e : keyD x = some k) (h : goN r (putKD acc k y) env O q) : ∃ k, keyD x = some k ∧ goN r (putKD acc k y) env O q := ⟨k, e, h⟩
theorem i_goN {acc : List (Key × D)} {env : Env} {O : Ow} {q : List (Key × D) → Ow → Prop} (h : q acc O) : goN [] acc env O q := h
end
end DL
set_option Elab.async false
set_option linter.all false
set_option maxRecDepth 100000
set_option maxHeartbeats 4000000
namespace DL
open PySem PySem.Spec PyProof.Rows L2
end DL
set_option Elab.async false
set_option linter.all false
set_option maxRecDepth 100000
set_option maxHeartbeats 4000000
namespace DL
open PySem PySem.Spec PyProof.Rows L2
/-- a comprehension that makes one thing of each -/
theorem lcGo_mpA {α : Type} {g : DTG} {tt : DTT} {te : DTE} {Gd : Ow → Prop} {env : Env} {O : Ow} (c : α → D) (f : α → D) (hG : Gd O) : ∀ {L : List α} {q : List D → Ow → Prop},
    (∀ l ∈ L, ∀ (k : DQ) (z : Ow → Prop), (∀ o, SubO O o → k (f l) o) → g (c l) env O fun env2 _ => tt env2 O fun b O3 => if b = true then te env2 O3 k else z O3) → q (L.map f) O → lcGo g tt te Gd (L.map c) env O q
  | [], _, _, hq => ⟨hG, hq⟩
  | l :: L, q, hx, hq => ⟨hG, hx l List.mem_cons_self _ _ fun o sb => ⟨O, sb, lcGo_mpA c f hG (fun x' h' => hx x' (List.mem_cons_of_mem _ h')) hq⟩⟩
end DL
set_option Elab.async false
set_option linter.all false
set_option maxRecDepth 100000
set_option maxHeartbeats 4000000
namespace DL
open PySem PySem.Spec PyProof.Rows L2
theorem rch_lowE : ∀ (c : Fin 128), ∀ x ∈ Builtin.Str.reprChar 39 c.val ++ Builtin.Str.reprChar 34 c.val, x < 128 := by decide +kernel
theorem fold_lowE (q : Nat) (hq : q = 39 ∨ q = 34) : ∀ (l : List Nat) (acc : Array Nat), (∀ c ∈ l, c < 128) → (∀ x ∈ acc.toList, x < 128) → ∀ x ∈ (l.foldl (fun out c => out ++ (Builtin.Str.reprChar q c).toArray) acc).toList, x < 128
  | [], acc, _, ha => ha
  | c :: r, acc, h, ha => by
    refine fold_lowE q hq r _ (fun d hd => h d (List.mem_cons_of_mem _ hd)) fun x hx => ?_
    rw [Array.toList_append] at hx
    rcases List.mem_append.mp hx with hx | hx
    · exact ha x hx
    · have := rch_lowE ⟨c, h c List.mem_cons_self⟩ x
      rcases hq with rfl | rfl
      · exact this (List.mem_append_left _ (by simpa using hx))
      · exact this (List.mem_append_right _ (by simpa using hx))
theorem repr_lowE {x : Str} (h : ∀ c ∈ TL.tl x, c < 128) : ∀ c ∈ TL.tl (reprText x), c < 128 := by
  have hq : reprQuote x = 39 ∨ reprQuote x = 34 := by unfold reprQuote; split <;> simp
  have hq2 : reprQuote x < 128 := by omega
  have e : TL.tl (reprText x) = (x.cps.toList.foldl (fun out c => out ++ (Builtin.Str.reprChar (reprQuote x) c).toArray) #[reprQuote x]).toList ++ [reprQuote x] := by
    unfold reprText TL.tl
    rw [Array.toList_push, ← Array.foldl_toList]
  intro c hc
  rw [e] at hc
  rcases List.mem_append.mp hc with hc | hc
  · exact fold_lowE _ hq _ _ h (fun x hx => by simp at hx; omega) c hc
  · rw [List.mem_singleton.mp hc]; exact hq2
theorem str_shpE {x : Str} (h : ∀ c ∈ TL.tl x, c < 128) : ShP (py (.str x)) (10 * x.length + 2) 0 := by
  have e : (py (.str x)).shown = reprText x := by simp only [py, PyData.shown]
  refine ⟨by simp [py, PyData.showable], by simp [py, PyData.depth], ?_, ?_⟩
  · rw [e, ← TL.len_tl]
    exact StrLaws.reprText_len x fun c hc => by have := h c hc; omega
  · rw [e]; exact repr_lowE h
/-- what is shown of data -/
noncomputable def rpE (O : Ow) (d : D) : Str := ((asE O d).map PyData.shown).getD ""
theorem OkE.shown {O O' : Ow} {d : D} {m k : Nat} (h : OkE O d m k) : OkE O' (.str (rpE O d)) (10 * m + 2) 0 := by
  obtain ⟨a, ea, r⟩ := h
  have e : rpE O d = a.shown := by unfold rpE; rw [ea]; rfl
  rw [e]
  have z := str_shpE r.sg
  have hl : a.shown.length ≤ m := by rw [TL.len_tl]; exact r.ln
  exact OkE.mono ⟨_, asE_pd rfl, z⟩ (by omega) (Nat.le_refl _)
end DL
set_option Elab.async false
set_option linter.all false
set_option maxRecDepth 100000
set_option maxHeartbeats 4000000
namespace DL
open PySem PySem.Spec PyProof.Rows L2
def exBases : List (String × List Value) := [
  ("RuntimeError.__new__", [.type "RuntimeError", .type "Exception", .type "BaseException", .type "object"]),
  ("LookupError.__new__", [.type "LookupError", .type "Exception", .type "BaseException", .type "object"]),
  ("ArithmeticError.__new__", [.type "ArithmeticError", .type "Exception", .type "BaseException", .type "object"])]
theorem exBases_ok {n : String} {l : List Value} (h : (n, l) ∈ exBases) : ∃ Bn initId, ExcBaseFacts Bn n initId l := by
  simp only [exBases, List.mem_cons, List.mem_nil_iff, or_false, Prod.mk.injEq] at h
  rcases h with ⟨rfl, rfl⟩ | ⟨rfl, rfl⟩ | ⟨rfl, rfl⟩
  · exact ⟨_, _, F.excBase_RuntimeError⟩
  · exact ⟨_, _, F.excBase_LookupError⟩
  · exact ⟨_, _, F.excBase_ArithmeticError⟩
structure Ex0 (K : Frag) (C : Addr) : Prop where
  q : ∃ Bn newId initId bmB, ExcBaseFacts Bn newId initId bmB ∧ PySem.W.excIn K C bmB newId = true
  kC : PySem.W.keepIn K (.ref C) = true
  exC : PySem.W.subIn K (.ref C) (.type "BaseException") = some true
  tyC : PySem.W.typeIn K (.ref C) = some (.type "type")
def ex0B (x : Str) : Fac := fun K => (exBases.any fun p => PySem.W.excIn K (He.ga K x) p.2 p.1) && (PySem.W.keepIn K (.ref (He.ga K x)) && (decide (PySem.W.subIn K (.ref (He.ga K x)) (.type "BaseException") = some true) && decide (PySem.W.typeIn K (.ref (He.ga K x)) = some (.type "type"))))
theorem ex0B_ok {K : Frag} {x : Str} (h : ex0B x K = true) : Ex0 K (He.ga K x) := by
  unfold ex0B at h
  simp only [Bool.and_eq_true, decide_eq_true_eq] at h
  obtain ⟨h1, h2, h3, h4⟩ := h
  obtain ⟨⟨n, l⟩, hp, hq⟩ := List.any_eq_true.mp h1
  obtain ⟨Bn, iI, F⟩ := exBases_ok hp
  exact ⟨⟨Bn, n, iI, l, F, hq⟩, h2, h3, h4⟩
end DL
set_option Elab.async false
set_option linter.all false
set_option maxRecDepth 100000
set_option maxHeartbeats 4000000
namespace DL
open PySem PySem.Spec PyProof.Rows L2
section
variable {X : Cx} {B : Bd} {k : Nat} {wx : DW} {o e : Expr} {apos cpos : Pos} {td ty : DTE}
def get1K2 (p : Addr) (y : D) (q : DQ) (O2 : Ow) : Prop := ∃ kvs key, O2 p = some (.dK kvs) ∧ keyD y = some key ∧ q ((valD kvs key).getD .non) O2
def get1K (ty : DTE) (env : Env) (q : DQ) : DQ := fun x O1 => ∃ p kvs, x = .ref p ∧ O1 p = some (.dK kvs) ∧ ty env O1 fun y O2 => get1K2 p y q O2
def dGet1 (td ty : DTE) : DTE := fun env O q => td env O (get1K ty env q)
theorem i_get1 {env : Env} {O : Ow} {q : DQ} (h : td env O (get1K ty env q)) : dGet1 td ty env O q := h
end
end DL
set_option Elab.async false
set_option linter.all false
set_option maxRecDepth 100000
set_option maxHeartbeats 4000000
namespace DL
open PySem PySem.Spec PyProof.Rows L2
def isFn : Obj → Bool
  | ⟨_, _, .func _, _⟩ => true
  | _ => false
def isSq : Obj → Bool
  | ⟨_, _, .seq _ _, _⟩ => true
  | ⟨_, _, .dict _ _, _⟩ => true
  | _ => false
/-- what a function keeps: its defaults, and what stands in them -/
def fnRefs (g : Addr → Option Obj) (o : Obj) : List Addr := He.refsD o ++ (He.refsD o).flatMap fun b => match g b with
  | some ob => if isSq ob then He.refsD ob else []
  | none => []
def asF (st ex : List Addr) (g : Addr → Option Obj) (n : Nat) : List Addr :=
  let as := asX st g n
  ex ++ (as ++ as.flatMap fun a => match g a with
    | some o => if isFn o then fnRefs g o else []
    | none => [])
def obsFG (st ex : List Addr) (n : Nat) (fa : List Fac) (fn : List DefX) (g : Addr → Option Obj) : He.AlD := obsX fa fn (frN g (asF st ex g n))
def hookF (st ex : List Addr) (n : Nat) (fa : List Fac) (fn : List DefX) : PySem.W.Hook where
  α := He.AlD
  obs := fun s => obsFG st ex n fa fn s.heap.get?
  val := fun _ => valX fn
  says := fun _ h => ∃ K : Frag, K.In h ∧ SaysX fa fn K
  of := fun _ _ e => ⟨_, fun _ _ z => frN_at z, e⟩
  keeps := fun _ _ _ ⟨K, hK, c⟩ k => ⟨K, PySem.W.Frag.In.keeps hK k, c⟩
theorem obsFG_eq {st ex : List Addr} {n : Nat} {fa : List Fac} {fn : List DefX} {g : Addr → Option Obj} {s : Shared} (h : ∀ a, g a = s.heap.get? a) : obsFG st ex n fa fn g = (hookF st ex n fa fn).obs s := by
  obtain rfl : g = s.heap.get? := funext h
  rfl
end DL
set_option Elab.async false
set_option linter.all false
set_option maxRecDepth 100000
set_option maxHeartbeats 4000000
namespace DL
open PySem PySem.Spec PyProof.Rows L2
section
variable {X : Cx} {B : Bd} {pos p apos : Pos} {k j n : Nat} {wx : DW} {o : Expr} {x qn m : Str} {st : Stmt} {kws ms : List (Str × V)} {dms : List D} {ps : List Str} {fn : DF} {f C : Addr} {ta : DTE} {tB : DTA} {pl : Sem Bool}
def methKw (C : Addr) (m : Str) (fn : DF) (n l : Nat) (w : DW) (gD : List D → List D) (tB : DTA) (env : Env) (q : DQ) : DQ := fun d O1 => ∃ fs, InsAt C O1 d fs ∧ fs.lookup m = none ∧ tB env O1 fun es O2 => es.length = l ∧ (gD (d :: es)).length = n ∧ fn (gD (d :: es)) O2 q fun c fs O' => w c fs env O'
def dMethKw (C : Addr) (m : Str) (fn : DF) (n l : Nat) (w : DW) (gD : List D → List D) (ta : DTE) (tB : DTA) : DTE := fun env O q => ta env O (methKw C m fn n l w gD tB env q)
theorem i_methM {l : Nat} {gD : List D → List D} {env : Env} {O : Ow} {q : DQ} {w : DW} {te : DTE} (h : te env O (methKw C m fn n l w gD tB env q)) : dMethKw C m fn n l w gD te tB env O q := h
theorem i_methKw {l : Nat} {gD : List D → List D} {env : Env} {O : Ow} {q : DQ} {w : DW} {d : D} {fs : List (Str × D)} (h1 : InsAt C O d fs) (h2 : fs.lookup m = none) (h : tB env O fun es O2 => es.length = l ∧ (gD (d :: es)).length = n ∧ fn (gD (d :: es)) O2 q fun c fs O' => w c fs env O') : methKw C m fn n l w gD tB env q d O := ⟨fs, h1, h2, h⟩
theorem i_methKwO {l : Nat} {gD : List D → List D} {env : Env} {O : Ow} {q : DQ} {w : DW} {a dx : Addr} {fs : List (Str × D)} (e : O a = some (.ins C dx fs)) (h2 : fs.lookup m = none) (h : tB env O fun es O2 => es.length = l ∧ (gD (.ref a :: es)).length = n ∧ fn (gD (.ref a :: es)) O2 q fun c fs O' => w c fs env O') : methKw C m fn n l w gD tB env q (.ref a) O := i_methKw ⟨dx, e⟩ h2 h
end
section
variable {X : Cx} {B : Bd} {pos apos : Pos} {k : Nat} {wx : DW} {a e : Expr} {to : DTE} {tA : DTA}
def extK2 (p : Addr) (q : DQ) : List D → Ow → Prop := fun ds O2 => match ds with
  | [.ref b] => ∃ es zs, O2 p = some (.lst es) ∧ O2 b = some (.lst zs) ∧ es.length + zs.length ≤ sizeLine ∧ q .non (setO O2 p (.lst (es ++ zs)))
  | _ => False
def extK (tA : DTA) (env : Env) (q : DQ) : DQ := fun x O1 => match x with
  | .ref p => ∃ es, O1 p = some (.lst es) ∧ tA env O1 (extK2 p q)
  | _ => False
def dExt (to : DTE) (tA : DTA) : DTE := fun env O q => to env O (extK tA env q)
theorem i_extend {env : Env} {O : Ow} {q : DQ} (h : to env O (extK tA env q)) : dExt to tA env O q := h
end
end DL
set_option Elab.async false
set_option linter.all false
set_option maxRecDepth 100000
set_option maxHeartbeats 4000000
namespace DL
open PySem PySem.Spec PyProof.Rows L2
end DL
set_option Elab.async false
set_option linter.all false
set_option maxRecDepth 100000
set_option maxHeartbeats 4000000
namespace DL
open PySem PySem.Spec PyProof.Rows L2
open TL (tl tl_append tl_join joinL tl_mk)
end DL
set_option Elab.async false
set_option linter.all false
set_option maxRecDepth 100000
set_option maxHeartbeats 4000000
namespace DL
open PySem PySem.Spec PyProof.Rows L2
section
variable {X : Cx} {B : Bd} {pos apos : Pos} {k : Nat} {wx : DW} {a o e : Expr} {es : List Expr} {to te : DTE} {tA : DTA} {env : Env} {O : Ow} {q : DQ} {name : Str} {id : String}
def tmK (f : List Int → Int → D) (c : List Int → Int → Prop) (te : DTE) (env : Env) (q : DQ) : DQ := fun x O1 => ∃ ns : List Int, x = .tup (ns.map D.int) ∧ te env O1 fun y O2 => ∃ i : Int, y = .int i ∧ c ns i ∧ q (f ns i) O2
def dTM (f : List Int → Int → D) (c : List Int → Int → Prop) (to te : DTE) : DTE := fun env O q => to env O (tmK f c te env q)
variable {f : List Int → Int → D} {c : List Int → Int → Prop}
theorem i_tm (h : to env O (tmK f c te env q)) : dTM f c to te env O q := h
def lcK (te : DTE) (env : Env) (q : DQ) : DQ := fun x O1 => ∃ ns : List Int, x = .lst (ns.map D.int) ∧ te env O1 fun y O2 => ∃ i : Int, y = .int i ∧ q (.int (ns.count i : Nat)) O2
def dLCnt (to te : DTE) : DTE := fun env O q => to env O (lcK te env q)
theorem i_lcnt (h : to env O (lcK te env q)) : dLCnt to te env O q := h
def dAugL (i : Nat) (te : DTE) : DTS := fun E env O => ∃ p, env[i]? = some (some (.ref p)) ∧ te env O fun y O1 => ∃ b xs zs, y = .ref b ∧ O1 p = some (.lst xs) ∧ O1 b = some (.lst zs) ∧ xs.length + zs.length ≤ sizeLine ∧ E.nx (env.set i (some (.ref p))) (setO O1 p (.lst (xs ++ zs)))
theorem i_augL {E : DEnds} {i : Nat} {p : Addr} (e : env[i]? = some (some (.ref p))) (h : te env O fun y O1 => ∃ b xs zs, y = .ref b ∧ O1 p = some (.lst xs) ∧ O1 b = some (.lst zs) ∧ xs.length + zs.length ≤ sizeLine ∧ E.nx (env.set i (some (.ref p))) (setO O1 p (.lst (xs ++ zs)))) : dAugL i te E env O := ⟨p, e, h⟩
/-- how many different truths -/
def nB (bs : List Bool) : Nat := (if true ∈ bs then 1 else 0) + (if false ∈ bs then 1 else 0)
def dBl (te : DTE) : DTE := fun env O q => te env O fun y O' => (∃ b, y = .bl b) ∧ q y O'
def truths (ds : List D) : List Bool := ds.filterMap fun d => match d with | .bl b => some b | _ => none
def dLenB (wi : DTI) (g : DTG) (tt : DTT) (te : DTE) (vs : List Nat) : DTE := fun env O q => wi env O fun xs Gd O1 => lcGo g tt (dBl te) Gd xs (wipeD env vs) O1 fun ys O2 => q (.int (nB (truths ys) : Nat)) O2
theorem i_lenB {wi : DTI} {g : DTG} {tt : DTT} {vs : List Nat} (h : wi env O fun xs Gd O1 => lcGo g tt (dBl te) Gd xs (wipeD env vs) O1 fun ys O2 => q (.int (nB (truths ys) : Nat)) O2) : dLenB wi g tt te vs env O q := h
theorem i_bl (h : te env O fun y O' => (∃ b, y = .bl b) ∧ q y O') : dBl te env O q := h
end
end DL
set_option Elab.async false
set_option linter.all false
set_option maxRecDepth 100000
set_option maxHeartbeats 4000000
namespace DL
open PySem PySem.Spec PyProof.Rows L2
section
variable {X : Cx} {B : Bd} {pos p : Pos} {k : Nat} {wx : DW} {e : Expr} {te : DTE} {tA : DTA} {env : Env} {O : Ow} {q : DQ}
def dSetTI (te : DTE) : DTZ := fun env O q => te env O fun d O1 => ∃ ns : List Int, d = .tup (ns.map D.int) ∧ ns.length < 511 ∧ q (ns.map D.int) O1
theorem i_setTI {qs : List D → Ow → Prop} (h : te env O fun d O1 => ∃ ns : List Int, d = .tup (ns.map D.int) ∧ ns.length < 511 ∧ qs (ns.map D.int) O1) : dSetTI te env O qs := h
end
theorem pds_bls : ∀ bs : List Bool, pds (bs.map D.bl) = true ∧ PyData.canLayAll0 (pys (bs.map D.bl)) = true ∧ PyData.depthAll (pys (bs.map D.bl)) = 0
  | [] => ⟨rfl, rfl, rfl⟩
  | w :: ws => by
    obtain ⟨h1, h2, h3⟩ := pds_bls ws
    simp only [List.map_cons, pys, py, pds, pd, PyData.canLayAll0, PyData.canLay0, PyData.depthAll, PyData.depth, h1, h2, h3]
    exact ⟨rfl, rfl, rfl⟩
end DL
set_option Elab.async false
set_option linter.all false
set_option maxRecDepth 100000
set_option maxHeartbeats 4000000
namespace DL
open PySem PySem.Spec PyProof.Rows L2 PpSet
def scGo2 (g : DTG) (tt : DTT) (wi2 : DTI) (g2 : DTG) (tt2 : DTT) (te : DTE) (vs2 : List Nat) (Gd : Ow → Prop) : Nat → List D → Env → Ow → (List D → Ow → Prop) → Prop
  | _, [], _, O, q => Gd O ∧ q [] O
  | c, x :: xs, env, O, q => Gd O ∧ g x env O fun env2 _ => tt env2 O fun b O3 => if b = true then wi2 env2 O3 fun ys Gd2 O4 => c + ys.length ≤ 510 ∧ lcGo g2 tt2 te Gd2 ys (wipeD env2 vs2) O4 fun zs O5 => ∃ o2, SubO o2 O5 ∧ scGo2 g tt wi2 g2 tt2 te vs2 Gd (c + ys.length) xs env o2 fun ws O6 => q (zs ++ ws) O6
    else ∃ o2, SubO o2 O3 ∧ scGo2 g tt wi2 g2 tt2 te vs2 Gd c xs env o2 q
def dSc2 (isK : D → Prop) (wi : DTI) (g : DTG) (tt : DTT) (wi2 : DTI) (g2 : DTG) (tt2 : DTT) (te : DTE) (vs vs2 : List Nat) : DTZ := fun env O q => wi env O fun xs Gd O1 => scGo2 g tt wi2 g2 tt2 (dKey isK te) vs2 Gd 0 xs (wipeD env vs) O1 q
theorem i_sc2 {isK : D → Prop} {wi wi2 : DTI} {g g2 : DTG} {tt tt2 : DTT} {te : DTE} {vs vs2 : List Nat} {env : Env} {O : Ow} {qz : List D → Ow → Prop} (h : wi env O fun xs Gd O1 => scGo2 g tt wi2 g2 tt2 (dKey isK te) vs2 Gd 0 xs (wipeD env vs) O1 qz) : dSc2 isK wi g tt wi2 g2 tt2 te vs vs2 env O qz := h
end DL
set_option Elab.async false
set_option linter.all false
set_option maxRecDepth 100000
set_option maxHeartbeats 4000000
namespace DL
open PySem PySem.Spec PyProof.Rows L2 PySem.W
/-- flat data of a value -/
def fV : V → Option PyData
  | .non => some .none
  | .bl b => some (.bool b)
  | .int i => some (.int i)
  | .str t => some (.str t)
  | _ => none
theorem fV_flat {v : V} {d : PyData} {u : Value} (e : fV v = some d) (r : RelV v u) : PyProof.V.Flat u d := by
  cases v with
  | non => cases (show u = Value.none from r); cases e; exact .none
  | bl b => cases (show u = Value.bool b from r); cases e; exact .bool b
  | int i =>
    obtain ⟨t, rfl⟩ := (show ∃ t, u = Value.int i t from r)
    cases e; exact .int i t
  | str x =>
    obtain ⟨t, rfl⟩ := (show ∃ t, u = Value.str x t from r)
    cases e; exact .str x t
  | _ => cases e
/-- flat data -/
def fD : D → Option PyData
  | .non => some .none
  | .bl b => some (.bool b)
  | .int i => some (.int i)
  | .str t => some (.str t)
  | _ => none
theorem fD_V {K : Frag} {F : Hp} {d : D} {v : V} {p : PyData} (r : RV K F d v) (e : fD d = some p) : fV v = some p := by
  cases r <;> first | exact e | cases e
inductive HitV (ls : List (Key × V)) : List (Key × V) → Bool → Prop
  | nil : HitV ls [] true
  | miss {k : Key} {v : V} {r : List (Key × V)} : valV ls k = none → HitV ls ((k, v) :: r) false
  | hit {k : Key} {v y : V} {d e : PyData} {r : List (Key × V)} {b : Bool} : valV ls k = some y → fV v = some d → fV y = some e → HitV ls r b → HitV ls ((k, v) :: r) (PyData.eqv d e && b)
inductive HitD (ls : List (Key × D)) : List (Key × D) → Bool → Prop
  | nil : HitD ls [] true
  | miss {k : Key} {v : D} {r : List (Key × D)} : DL.valD ls k = none → HitD ls ((k, v) :: r) false
  | hit {k : Key} {v y : D} {d e : PyData} {r : List (Key × D)} {b : Bool} : DL.valD ls k = some y → fD v = some d → fD y = some e → HitD ls r b → HitD ls ((k, v) :: r) (PyData.eqv d e && b)
theorem valV_R {K : Frag} {F : Hp} {kvs : List (Key × D)} {ks : List (Key × V)} (r : RKV K F kvs ks) (k : Key) : (DL.valD kvs k = none ∧ valV ks k = none) ∨ ∃ d v, DL.valD kvs k = some d ∧ valV ks k = some v ∧ RV K F d v := by
  unfold RKV at r
  induction r with
  | nil => exact .inl ⟨rfl, rfl⟩
  | @cons p q ps qs h t ih =>
    obtain ⟨h1, h2⟩ := h
    by_cases e : p.1 = k
    · refine .inr ⟨p.2, q.2, ?_, ?_, h2⟩
      · unfold DL.valD; rw [List.find?_cons_of_pos (by simpa using e)]; rfl
      · unfold valV; rw [List.find?_cons_of_pos (by simpa using h1 ▸ e)]; rfl
    · have e1 : DL.valD (p :: ps) k = DL.valD ps k := by unfold DL.valD; rw [List.find?_cons_of_neg (by simpa using e)]
      have e2 : valV (q :: qs) k = valV qs k := by unfold valV; rw [List.find?_cons_of_neg (by simpa using h1 ▸ e)]
      rw [e1, e2]
      exact ih
theorem HitD.V {K : Frag} {F : Hp} {lvs kvs : List (Key × D)} {ls : List (Key × V)} {b : Bool} (h : HitD lvs kvs b) (rl : RKV K F lvs ls) : ∀ {ks : List (Key × V)}, RKV K F kvs ks → HitV ls ks b := by
  induction h with
  | nil => intro ks r; cases r; exact .nil
  | @miss k v r e =>
    intro ks rk
    cases rk with
    | @cons p q ps qs h t =>
      obtain ⟨k', v'⟩ := q
      obtain ⟨h1, h2⟩ := h
      cases (show k = k' from h1)
      rcases valV_R rl k with ⟨_, e2⟩ | ⟨d, v, e1, _, _⟩
      · exact .miss e2
      · rw [e] at e1; cases e1
  | @hit k v y d e r b h1 h2 h3 _ ih =>
    intro ks rk
    cases rk with
    | @cons p q ps qs h t =>
      obtain ⟨k', v'⟩ := q
      obtain ⟨g1, g2⟩ := h
      cases (show k = k' from g1)
      rcases valV_R rl k with ⟨e2, _⟩ | ⟨d', y', e1, e2, e3⟩
      · rw [h1] at e2; cases e2
      · rw [h1] at e1; cases e1
        exact .hit e2 (fD_V g2 h2) (fD_V e3 h3) (ih t)
end DL
set_option Elab.async false
set_option linter.all false
set_option maxRecDepth 100000
set_option maxHeartbeats 4000000
namespace DL
open PySem PySem.Spec PyProof.Rows L2
/-- what the cases behind a match come to -/
abbrev DTC := List D → DEnds → Env → Ow → Prop
def bindN : List Nat → List D → Env → Env
  | i :: is, d :: ds, env => bindN is ds (env.set i (some d))
  | _, _, env => env
def bindV : List Nat → List V → St → St
  | i :: is, v :: vs, σ => bindV is vs (σ.set i (some v))
  | _, _, σ => σ
def dcNil : DTC := fun _ E env O => E.nx env O
def dcCons (is : List Nat) (tg : DTT) (tb : DTS) (r : DTC) : DTC := fun ds E env O =>
  if ds.length = is.length then tg (bindN is ds env) O fun b O1 => if b = true then tb E (bindN is ds env) O1 else r ds E (bindN is ds env) O1 else r ds E env O
def matK (tc : DTC) (E : DEnds) (env : Env) : DQ := fun d O1 => match d with | .tup ds => tc ds E env O1 | _ => False
def dMat (te : DTE) (tc : DTC) : DTS := fun E env O => te env O (matK tc E env)
section
variable {X : Cx} {B : Bd} {pos : Pos} {k : Nat} {wx : DW}
inductive Caps (X : Cx) : List Pattern → List Str → List Nat → Prop
  | nil : Caps X [] [] []
  | cons {x : Str} {i : Nat} {p : Pos} {ps : List Pattern} {xs : List Str} {is : List Nat} (hi : X.N[i]? = some x) (hl : X.env.kindOf x = some .local) (r : Caps X ps xs is) : Caps X (.MatchAs none (some x) p :: ps) (x :: xs) (i :: is)
theorem Caps.len {ps : List Pattern} {xs : List Str} {is : List Nat} (h : Caps X ps xs is) : ps.length = is.length ∧ xs.length = is.length := by
  induction h with
  | nil => exact ⟨rfl, rfl⟩
  | cons _ _ _ ih => exact ⟨congrArg (· + 1) ih.1, congrArg (· + 1) ih.2⟩
theorem Caps.bind {ps : List Pattern} {xs : List Str} {is : List Nat} (h : Caps X ps xs is) (hN : X.N.Nodup) : ∀ {M : Model} {A : Around} {E : Value → Shared → Prop} {s : Shared} {pins : List (Addr × Obj)} {σ : St} {H : Hp} {vs : List V} {us : List Value} {Q : Unit → Shared → Prop},
    Vals vs us → us.length = xs.length → Inv X pins σ H s → (∀ s', Inv X pins (bindV is vs σ) H s' → Q () s') →
    wpAny M A (assignInOrder ((xs.zip us).map fun x => match (motive := Str × Value → Value → Sem Unit) x with | (n, _) => bindName X.env n) ((xs.zip us).map fun x => x.2)) Q E s := by
  induction h with
  | nil =>
    intro M A E s pins σ H vs us Q r hl I q
    cases us with
    | nil =>
      cases r
      exact wpAny_assignInOrder_none (q s I)
    | cons _ _ => cases hl
  | cons hi hl' _ ih =>
    intro M A E s pins σ H vs us Q r hl I q
    cases r with
    | nil => cases hl
    | cons r1 rs =>
      refine wpAny_assignInOrder_more (wpAny_bindName ?_)
      refine store_ok I hN hi (.inl hl') r1 (fun s2 I2 => ?_) (.inr hl')
      exact ih rs (by simpa using hl) I2 q
theorem i_mat {te : DTE} {tc : DTC} {E : DEnds} {env : Env} {O : Ow} (h : te env O (matK tc E env)) : dMat te tc E env O := h
theorem i_matK {tc : DTC} {E : DEnds} {env : Env} {O : Ow} {ds : List D} (h : tc ds E env O) : matK tc E env (.tup ds) O := h
theorem i_mcY {is : List Nat} {tg : DTT} {tb : DTS} {r : DTC} {ds : List D} {E : DEnds} {env : Env} {O : Ow} (e : ds.length = is.length) (h : tg (bindN is ds env) O fun b O1 => if b = true then tb E (bindN is ds env) O1 else r ds E (bindN is ds env) O1) : dcCons is tg tb r ds E env O := by
  unfold dcCons; rw [if_pos e]; exact h
theorem i_mcN {is : List Nat} {tg : DTT} {tb : DTS} {r : DTC} {ds : List D} {E : DEnds} {env : Env} {O : Ow} (e : ds.length ≠ is.length) (h : r ds E env O) : dcCons is tg tb r ds E env O := by
  unfold dcCons; rw [if_neg e]; exact h
theorem i_mc0 {ds : List D} {E : DEnds} {env : Env} {O : Ow} (h : E.nx env O) : dcNil ds E env O := h
end
end DL
namespace L2
open PySem PySem.Spec PyProof.Rows
end L2
namespace DL
open PySem PySem.Spec PyProof.Rows L2
section
variable {X : Cx} {B : Bd} {k : Nat} {wx : DW} {body : List Stmt} {h₀ : ExceptHandler} {hds : List ExceptHandler} {pos : Pos} {tb : DW → DTS}
def dTryN (tb : DW → DTS) : DTS := fun E env O => tb w0 E env O
theorem i_tryN {tb : DW → DTS} {E : DEnds} {env : Env} {O : Ow} (h : tb w0 E env O) : dTryN tb E env O := h
end
end DL
set_option Elab.async false
set_option linter.all false
set_option maxRecDepth 100000
set_option maxHeartbeats 4000000
namespace DL
open PySem PySem.Spec PyProof.Rows L2 PySem.W
def dLtT : DR2 := fun x y O q => ∃ ns ms : List Int, x = .tup (ns.map D.int) ∧ y = .tup (ms.map D.int) ∧ q (.bl (HT.lexLt ns ms)) O
section
variable {X : Cx} {B : Bd} {k : Nat} {wx : DW} {a b : Expr} {pos : Pos} {ta tb : DTE}
theorem i_ltT {O : Ow} {q : DQ} {ns ms : List Int} (h : q (.bl (HT.lexLt ns ms)) O) : dLtT (.tup (ns.map D.int)) (.tup (ms.map D.int)) O q := ⟨ns, ms, rfl, rfl, h⟩
end
end DL
set_option Elab.async false
set_option linter.all false
set_option maxRecDepth 100000
set_option maxHeartbeats 4000000
namespace DL
open PySem PySem.Spec PyProof.Rows L2
section
variable {X : Cx} {B : Bd} {k : Nat} {wx : DW} {o e : Expr} {apos cpos : Pos} {td ty : DTE}
/-- dicts over data put together -/
def mergeKD (kvs more : List (Key × D)) : List (Key × D) := more.foldl (fun acc kv => putKD acc kv.1 kv.2) kvs
def updK2 (p : Addr) (q : DQ) : DQ := fun y O2 => ∃ b kvs more, y = .ref b ∧ p ≠ b ∧ O2 p = some (.dK kvs) ∧ O2 b = some (.dK more) ∧ kvs.length + more.length ≤ sizeLine ∧ q .non (setO O2 p (.dK (mergeKD kvs more)))
def updK (ty : DTE) (env : Env) (q : DQ) : DQ := fun x O1 => ∃ p kvs, x = .ref p ∧ O1 p = some (.dK kvs) ∧ ty env O1 (updK2 p q)
def dUpd (td ty : DTE) : DTE := fun env O q => td env O (updK ty env q)
theorem i_upd {env : Env} {O : Ow} {q : DQ} (h : td env O (updK ty env q)) : dUpd td ty env O q := h
end
end DL
set_option Elab.async false
set_option linter.all false
set_option maxRecDepth 100000
set_option maxHeartbeats 4000000
namespace DL
open PySem PySem.Spec PyProof.Rows L2
def fN (w : Str) (i : Nat) : Str := ((Str.empty ++ w) ++ (" flag " : Str)) ++ (toString (i : Int) : Str)
def f1N (w : Str) : Str := (Str.empty ++ w) ++ (" flag 1" : Str)
def gN (w : Str) (i : Nat) : Str := ((Str.empty ++ w) ++ (" gap " : Str)) ++ (toString (i : Int) : Str)
def g1N (w : Str) : Str := (Str.empty ++ w) ++ (" gap 1" : Str)
def eN (i : Nat) : Str := (Str.empty ++ ("end " : Str)) ++ (toString (i : Int) : Str)
section
variable (w : Str) (F G : Nat)
def flag1 (kv : List (Key × D)) (i : Nat) : List (Key × D) := putKD kv (kS (fN w (i + 1))) (.tup [.int 0, .str (if i + 1 < F then fN w (i + 2) else g1N w), .str (if i + 1 < F then fN w (i + 2) else g1N w)])
def gap1 (kv : List (Key × D)) (i : Nat) : List (Key × D) := putKD kv (kS (gN w (i + 1))) (.tup [.int 1, .str (if i = 0 then g1N w else f1N w), .str (if i + 1 < G then gN w (i + 2) else w)])
def flagV : List (Key × D) := (List.range G).foldl (gap1 w G) ((List.range F).foldl (flag1 w F) [])
end
section
variable (B L : Nat) (early late : Str)
def end1 (kv : List (Key × D)) (i : Nat) : List (Key × D) := putKD kv (kS (eN (i + 1))) (.tup [.int 1, .str (f1N (if i + 1 ≤ L then early else late)), .str (if i + 1 < B then eN (i + 2) else late)])
def endV : List (Key × D) := (List.range B).foldl (end1 B L early late) []
end
def earsV (B H F G : Nat) : List (Key × D) := mergeKD (mergeKD (endV B H "lost" "taken") (flagV "lost" F G)) (flagV "taken" F G)
def mouthV (B S F G : Nat) : List (Key × D) := mergeKD (mergeKD (endV B S "again" "done") (flagV "again" F G)) (flagV "done" F G)
def hearC (B H F G : Nat) : List D := numV (earsV B H F G) ["end 1", "lost flag 1"]
def sendC (B S F G : Nat) : List D := numV (mouthV B S F G) ["end 1"]
end DL
set_option Elab.async false
set_option linter.all false
set_option maxRecDepth 100000
set_option maxHeartbeats 4000000
namespace DL
open PySem PySem.Spec PyProof.Rows L2
/-- each of n stations stands as one of n' -/
structure Fold (n n' : Nat) (r : Nat → Nat) : Prop where
  zero : r 0 = 0
  pos : ∀ k, k ≠ 0 → r k ≠ 0
  lt : ∀ k, k < n → r k < n'
  on : ∀ j, j < n' → ∃ k, k < n ∧ r k = j
theorem Fold.m {n n' : Nat} {r : Nat → Nat} (f : Fold n n' r) {M : Mc} (k : Nat) : M.m k = M.m (r k) := by
  by_cases h : k = 0
  · subst h; rw [f.zero]
  · simp only [Mc.m, h, f.pos k h, if_false]
theorem puts_memF {M : Mc} {ps : List D} {b : Int} : b ∈ puts M ps ↔ ∃ k d, ps[k]? = some d ∧ isRw d = true ∧ putOf (rowAt (M.m k) d) = b := by
  simp only [puts, List.mem_map, List.mem_filter, Prod.exists]
  constructor
  · rintro ⟨d, k, ⟨hm, hr⟩, e⟩
    exact ⟨k, d, List.mem_zipIdx_iff_getElem?.mp hm, hr, e⟩
  · rintro ⟨k, d, hm, hr, e⟩
    exact ⟨d, k, ⟨List.mem_zipIdx_iff_getElem?.mpr hm, hr⟩, e⟩
section
variable {M : Mc} {n n' : Nat} {r : Nat → Nat} {ps ps' : List D} {W W' S S' : Nat → Bool}
/-- the places of n stations are those of n' -/
structure FoldP (n n' : Nat) (r : Nat → Nat) (ps ps' : List D) : Prop where
  l : ps.length = n
  l' : ps'.length = n'
  e : ∀ k, k < n → ps[k]? = ps'[r k]?
theorem FoldP.bit (f : Fold n n' r) (h : FoldP n n' r ps ps') : bitL M ps = bitL M ps' := by
  have : (0 : Int) ∈ puts M ps ↔ (0 : Int) ∈ puts M ps' := by
    rw [puts_memF, puts_memF]
    constructor
    · rintro ⟨k, d, e, hr, hz⟩
      have hk : k < n := by rw [← h.l]; exact (List.getElem?_eq_some_iff.mp e).1
      exact ⟨r k, d, by rw [← h.e k hk]; exact e, hr, by rw [← f.m k]; exact hz⟩
    · rintro ⟨j, d, e, hr, hz⟩
      have hj : j < n' := by rw [← h.l']; exact (List.getElem?_eq_some_iff.mp e).1
      obtain ⟨k, hk, rfl⟩ := f.on j hj
      exact ⟨k, d, by rw [h.e k hk]; exact e, hr, by rw [f.m k]; exact hz⟩
  unfold bitL
  by_cases z : (0 : Int) ∈ puts M ps
  · rw [if_pos z, if_pos (this.mp z)]
  · rw [if_neg z, if_neg fun y => z (this.mpr y)]
theorem FoldP.sil (h : FoldP n n' r ps ps') (hS : ∀ k, k < n → S k = S' (r k)) : FoldP n n' r (silL S ps) (silL S' ps') := by
  refine ⟨by simp [silL, h.l], by simp [silL, h.l'], fun k hk => ?_⟩
  unfold silL
  rw [List.getElem?_mapIdx, List.getElem?_mapIdx, h.e k hk, hS k hk]
theorem FoldP.nxt (f : Fold n n' r) (h : FoldP n n' r ps ps') (hW : ∀ k, k < n → W k = W' (r k)) (b : Int) : FoldP n n' r (nxtL M W b ps) (nxtL M W' b ps') := by
  refine ⟨by simp [nxtL, h.l], by simp [nxtL, h.l'], fun k hk => ?_⟩
  unfold nxtL
  rw [List.getElem?_mapIdx, List.getElem?_mapIdx, h.e k hk]
  unfold earK
  rw [hW k hk, f.m k]
theorem FoldP.step (f : Fold n n' r) (h : FoldP n n' r ps ps') (hW : ∀ k, k < n → W k = W' (r k)) (hS : ∀ k, k < n → S k = S' (r k)) : FoldP n n' r (stepL M W S ps) (stepL M W' S' ps') := by
  unfold stepL
  rw [(h.sil hS).bit f]
  exact (h.sil hS).nxt f hW _
theorem FoldP.rest (f : Fold n n' r) (h : FoldP n n' r ps ps') : atRest ps = atRest ps' := by
  unfold atRest
  rw [Bool.eq_iff_iff, List.all_eq_true, List.all_eq_true]
  constructor
  · intro hh d hd
    obtain ⟨j, hj⟩ := List.mem_iff_getElem?.mp hd
    obtain ⟨k, hk, rfl⟩ := f.on j (by rw [← h.l']; exact (List.getElem?_eq_some_iff.mp hj).1)
    exact hh d (List.mem_of_getElem? (by rw [h.e k hk]; exact hj))
  · intro hh d hd
    obtain ⟨k, hk⟩ := List.mem_iff_getElem?.mp hd
    have hkn : k < n := by rw [← h.l]; exact (List.getElem?_eq_some_iff.mp hk).1
    exact hh d (List.mem_of_getElem? (by rw [← h.e k hkn]; exact hk))
end
end DL
set_option Elab.async false
set_option linter.all false
set_option maxRecDepth 100000
set_option maxHeartbeats 4000000
namespace PySem.W
open PySem PySem.Calls PyProof.Rows
open PySem.SeqAt
end PySem.W
namespace DL
open PySem PySem.Spec PyProof.Rows L2
section
variable {X : Cx} {B : Bd} {pos p : Pos} {k : Nat} {wx : DW} {e : Expr} {te : DTE} {tA : DTA} {env : Env} {O : Ow} {q : DQ}
/-- tuples of whole numbers -/
def tI (l : List Int) : D := .tup (l.map D.int)
end
end DL
set_option Elab.async false
set_option linter.all false
set_option maxRecDepth 100000
set_option maxHeartbeats 4000000
namespace PySem.W
open PySem PySem.Calls PyProof.Rows
open PySem.SeqAt
end PySem.W
namespace DL
open PySem PySem.Spec PyProof.Rows L2
end DL
set_option Elab.async false
set_option linter.all false
set_option maxRecDepth 100000
set_option maxHeartbeats 4000000
namespace DL
open PySem PySem.Spec PyProof.Rows L2
section
variable {κ : Type} [DecidableEq κ]
theorem fold_succW {α : Type} (f : α → Nat → α) (a : α) (n : Nat) : (List.range (n + 1)).foldl f a = f ((List.range n).foldl f a) n := by
  rw [List.range_succ, List.foldl_append]
  rfl
theorem valD_foldO {key : Nat → κ} {val : Nat → D} {kv0 : List (κ × D)} {k : κ} : ∀ {n : Nat}, (∀ i, i < n → key i ≠ k) → valD ((List.range n).foldl (fun kv i => putKD kv (key i) (val i)) kv0) k = valD kv0 k
  | 0, _ => rfl
  | n + 1, h => by
    rw [fold_succW, valD_put, if_neg (fun z => h n (Nat.lt_succ_self n) z.symm)]
    exact valD_foldO fun i hi => h i (Nat.lt_succ_of_lt hi)
theorem valD_foldI {key : Nat → κ} {val : Nat → D} {kv0 : List (κ × D)} : ∀ {n i : Nat}, (∀ a b, a < n → b < n → key a = key b → a = b) → i < n → valD ((List.range n).foldl (fun kv i => putKD kv (key i) (val i)) kv0) (key i) = some (val i)
  | 0, i, _, hi => absurd hi (Nat.not_lt_zero _)
  | n + 1, i, inj, hi => by
    rw [fold_succW, valD_put]
    by_cases e : key i = key n
    · rw [if_pos e, inj i n hi (Nat.lt_succ_self n) e]
    · rw [if_neg e]
      have hin : i < n := by
        rcases Nat.lt_or_ge i n with h | h
        · exact h
        · exact absurd (by rw [show i = n by omega]) e
      exact valD_foldI (fun a b ha hb => inj a b (Nat.lt_succ_of_lt ha) (Nat.lt_succ_of_lt hb)) hin
theorem valD_key {kvs : List (κ × D)} {k : κ} : (valD kvs k).isSome = true ↔ k ∈ kvs.map (·.1) := by
  rw [← valD_any, List.any_eq_true]
  constructor
  · rintro ⟨x, hx, e⟩
    exact List.mem_map.mpr ⟨x, hx, of_decide_eq_true e⟩
  · intro h
    obtain ⟨x, hx, e⟩ := List.mem_map.mp h
    exact ⟨x, hx, decide_eq_true e⟩
theorem putKD_ndK {kvs : List (κ × D)} {k : κ} {v : D} (h : (kvs.map (·.1)).Nodup) : ((putKD kvs k v).map (·.1)).Nodup := by
  cases e : valD kvs k with
  | none =>
    rw [putKD_new v e, List.map_append]
    refine List.nodup_append.mpr ⟨h, by simp, fun a ha b hb z => ?_⟩
    have hb : b = k := by simpa using hb
    subst hb
    subst z
    have := valD_key.mpr ha
    rw [e] at this
    cases this
  | some d =>
    rw [putKD_keys (by rw [e]; rfl)]
    exact h
theorem fold_ndK {key : Nat → κ} {val : Nat → D} {kv0 : List (κ × D)} (h : (kv0.map (·.1)).Nodup) : ∀ n : Nat, (((List.range n).foldl (fun kv i => putKD kv (key i) (val i)) kv0).map (·.1)).Nodup
  | 0 => h
  | n + 1 => by
    rw [fold_succW]
    exact putKD_ndK (fold_ndK h n)
end
theorem merge_ndK {kvs more : List (Key × D)} (h : (kvs.map (·.1)).Nodup) : ((mergeKD kvs more).map (·.1)).Nodup := by
  unfold mergeKD
  induction more generalizing kvs with
  | nil => exact h
  | cons a l ih => exact ih (putKD_ndK h)
theorem valD_merge {kvs more : List (Key × D)} {k : Key} (nd : (more.map (·.1)).Nodup) : valD (mergeKD kvs more) k = (valD more k).or (valD kvs k) := by
  unfold mergeKD
  induction more generalizing kvs with
  | nil => rfl
  | cons a l ih =>
    rw [List.map_cons, List.nodup_cons] at nd
    rw [List.foldl_cons, ih nd.2, valD_cons, valD_put]
    by_cases e : a.1 = k
    · subst e
      rw [if_pos rfl, if_pos rfl]
      cases e2 : valD l a.1 with
      | none => rfl
      | some d => exact absurd (valD_key.mp (by rw [e2]; rfl)) nd.1
    · rw [if_neg e, if_neg (fun z => e z.symm)]
inductive Nm
  | e (i : Nat)
  | f (b : Bool) (i : Nat)
  | g (b : Bool) (i : Nat)
  deriving DecidableEq
def Nm.ok : Nm → Bool
  | .e i => decide (i < 10)
  | .f _ i => decide (i < 8)
  | .g _ i => decide (i < 8)
def Nm.inn (B F G : Nat) : Nm → Bool
  | .e i => decide (i < B)
  | .f _ i => decide (i < F)
  | .g _ i => decide (i < G)
def nmP : Nm → Nat
  | .e i => i
  | .f false i => 10 + i
  | .g false i => 18 + i
  | .f true i => 26 + i
  | .g true i => 34 + i
def allNm : List Nm := (List.range 10).map Nm.e ++ ((List.range 8).map (Nm.f false) ++ ((List.range 8).map (Nm.g false) ++ ((List.range 8).map (Nm.f true) ++ (List.range 8).map (Nm.g true))))
theorem allNm_at {x : Nm} (h : x.ok = true) : allNm[nmP x]? = some x := by
  have h1 : ∀ i : Fin 10, allNm[nmP (.e i.val)]? = some (.e i.val) := by decide +kernel
  have h2 : ∀ (b : Bool) (i : Fin 8), allNm[nmP (.f b i.val)]? = some (.f b i.val) := by decide +kernel
  have h3 : ∀ (b : Bool) (i : Fin 8), allNm[nmP (.g b i.val)]? = some (.g b i.val) := by decide +kernel
  cases x with
  | e i => exact h1 ⟨i, of_decide_eq_true h⟩
  | f b i => exact h2 b ⟨i, of_decide_eq_true h⟩
  | g b i => exact h3 b ⟨i, of_decide_eq_true h⟩
def wdB (early late : Str) (b : Bool) : Str := if b then late else early
def nmS (early late : Str) : Nm → Str
  | .e i => eN (i + 1)
  | .f b i => fN (wdB early late b) (i + 1)
  | .g b i => gN (wdB early late b) (i + 1)
def wokB (early late : Str) : Bool :=
  decide ((allNm.map (nmS early late)).Nodup) && !(allNm.map (nmS early late)).contains early && !(allNm.map (nmS early late)).contains late && decide (f1N early = fN early 1) && decide (f1N late = fN late 1) && decide (g1N early = gN early 1) && decide (g1N late = gN late 1) &&
  (allNm.map (nmS early late)).all strGood && strGood early && strGood late
theorem wok_h : wokB "lost" "taken" = true := by decide +kernel
theorem wok_s : wokB "again" "done" = true := by decide +kernel
structure Wok (early late : Str) : Prop where
  nd : (allNm.map (nmS early late)).Nodup
  ne : early ∉ allNm.map (nmS early late)
  nl : late ∉ allNm.map (nmS early late)
  f1 : ∀ b, f1N (wdB early late b) = fN (wdB early late b) 1
  g1 : ∀ b, g1N (wdB early late b) = gN (wdB early late b) 1
  gd : ∀ s ∈ allNm.map (nmS early late), strGood s = true
  gw : ∀ b, strGood (wdB early late b) = true
theorem wok_of {early late : Str} (h : wokB early late = true) : Wok early late := by
  unfold wokB at h
  simp only [Bool.and_eq_true, decide_eq_true_eq, Bool.not_eq_true', List.all_eq_true] at h
  obtain ⟨⟨⟨⟨⟨⟨⟨⟨⟨h1, h2⟩, h3⟩, h4⟩, h5⟩, h6⟩, h7⟩, h8⟩, h9⟩, h10⟩ := h
  refine ⟨h1, fun z => ?_, fun z => ?_, fun b => ?_, fun b => ?_, h8, fun b => ?_⟩
  · rw [List.contains_iff_mem.mpr z] at h2; cases h2
  · rw [List.contains_iff_mem.mpr z] at h3; cases h3
  · cases b <;> assumption
  · cases b <;> assumption
  · cases b <;> assumption
section
variable {early late : Str} (W : Wok early late)
include W
theorem nmS_in {x : Nm} (h : x.ok = true) : nmS early late x ∈ allNm.map (nmS early late) := List.mem_map.mpr ⟨x, List.mem_of_getElem? (allNm_at h), rfl⟩
theorem nmS_inj {x y : Nm} (hx : x.ok = true) (hy : y.ok = true) (e : nmS early late x = nmS early late y) : x = y := by
  have h1 : (allNm.map (nmS early late))[nmP x]? = some (nmS early late x) := by rw [List.getElem?_map, allNm_at hx]; rfl
  have h2 : (allNm.map (nmS early late))[nmP y]? = some (nmS early late y) := by rw [List.getElem?_map, allNm_at hy]; rfl
  rw [← e] at h2
  obtain ⟨l1, w1⟩ := List.getElem?_eq_some_iff.mp h1
  obtain ⟨l2, w2⟩ := List.getElem?_eq_some_iff.mp h2
  have := (List.getElem_inj W.nd).mp (w1.trans w2.symm)
  have a := allNm_at hx
  rw [this, allNm_at hy] at a
  exact (Option.some.inj a).symm
theorem nmS_word {x : Nm} (h : x.ok = true) (b : Bool) : nmS early late x ≠ wdB early late b := fun z => by
  have := nmS_in W h
  rw [z] at this
  cases b
  · exact W.ne this
  · exact W.nl this
end
theorem Nm.inn_ok {B F G : Nat} (hB : B ≤ 10) (hF : F ≤ 8) (hG : G ≤ 8) {x : Nm} (h : x.inn B F G = true) : x.ok = true := by
  cases x with
  | e i => have := of_decide_eq_true h; exact decide_eq_true (by omega)
  | f b i => have := of_decide_eq_true h; exact decide_eq_true (by omega)
  | g b i => have := of_decide_eq_true h; exact decide_eq_true (by omega)
def kvsV (B L F G : Nat) (early late : Str) : List (Key × D) := mergeKD (mergeKD (endV B L early late) (flagV early F G)) (flagV late F G)
theorem kvs_ears (B H F G : Nat) : earsV B H F G = kvsV B H F G "lost" "taken" := rfl
theorem kvs_mouth (B S F G : Nat) : mouthV B S F G = kvsV B S F G "again" "done" := rfl
def rowNm (B L F G : Nat) (early late : Str) : Nm → D
  | .e i => .tup [.int 1, .str (nmS early late (.f (!decide (i + 1 ≤ L)) 0)), .str (if i + 1 < B then nmS early late (.e (i + 1)) else late)]
  | .f b i => .tup [.int 0, .str (if i + 1 < F then nmS early late (.f b (i + 1)) else nmS early late (.g b 0)), .str (if i + 1 < F then nmS early late (.f b (i + 1)) else nmS early late (.g b 0))]
  | .g b i => .tup [.int 1, .str (if i = 0 then nmS early late (.g b 0) else nmS early late (.f b 0)), .str (if i + 1 < G then nmS early late (.g b (i + 1)) else wdB early late b)]
section
variable {B L F G : Nat} {early late : Str}
theorem kS_inj {a b : Str} (h : kS a = kS b) : a = b := by
  unfold kS at h
  injection h
theorem end_out {k : Str} (h : ∀ i, i < B → eN (i + 1) ≠ k) : valD (endV B L early late) (kS k) = none := by
  unfold endV
  exact valD_foldO (key := fun i => kS (eN (i + 1))) (val := fun i => .tup [.int 1, .str (f1N (if i + 1 ≤ L then early else late)), .str (if i + 1 < B then eN (i + 2) else late)]) (kv0 := []) fun i hi z => h i hi (kS_inj z)
theorem end_ndK : ((endV B L early late).map (·.1)).Nodup := fold_ndK (key := fun i => kS (eN (i + 1))) (val := fun i => .tup [.int 1, .str (f1N (if i + 1 ≤ L then early else late)), .str (if i + 1 < B then eN (i + 2) else late)]) (kv0 := []) (by simp) B
theorem flag_ndK {u : Str} : ((flagV u F G).map (·.1)).Nodup := fold_ndK (key := fun i => kS (gN u (i + 1))) (val := fun i => .tup [.int 1, .str (if i = 0 then g1N u else f1N u), .str (if i + 1 < G then gN u (i + 2) else u)]) (fold_ndK (key := fun i => kS (fN u (i + 1))) (val := fun i => .tup [.int 0, .str (if i + 1 < F then fN u (i + 2) else g1N u), .str (if i + 1 < F then fN u (i + 2) else g1N u)]) (kv0 := []) (by simp) F) G
theorem flag_out {u k : Str} (h1 : ∀ i, i < F → fN u (i + 1) ≠ k) (h2 : ∀ i, i < G → gN u (i + 1) ≠ k) : valD (flagV u F G) (kS k) = none := by
  unfold flagV
  have a := valD_foldO (key := fun i => kS (gN u (i + 1))) (val := fun i => .tup [.int 1, .str (if i = 0 then g1N u else f1N u), .str (if i + 1 < G then gN u (i + 2) else u)]) (kv0 := (List.range F).foldl (flag1 u F) []) (k := kS k) (n := G) fun i hi z => h2 i hi (kS_inj z)
  have b := valD_foldO (key := fun i => kS (fN u (i + 1))) (val := fun i => .tup [.int 0, .str (if i + 1 < F then fN u (i + 2) else g1N u), .str (if i + 1 < F then fN u (i + 2) else g1N u)]) (kv0 := []) (k := kS k) (n := F) fun i hi z => h1 i hi (kS_inj z)
  exact a.trans b
section
variable (W : Wok early late) (hB : B ≤ 10) (hF : F ≤ 8) (hG : G ≤ 8)
include W hB hF hG
theorem ok_e {i : Nat} (h : i < B) : (Nm.e i).ok = true := decide_eq_true (by omega)
theorem ok_f {b : Bool} {i : Nat} (h : i < F) : (Nm.f b i).ok = true := decide_eq_true (by omega)
theorem ok_g {b : Bool} {i : Nat} (h : i < G) : (Nm.g b i).ok = true := decide_eq_true (by omega)
theorem end_in {i : Nat} (h : i < B) : valD (endV B L early late) (kS (eN (i + 1))) = some (.tup [.int 1, .str (f1N (if i + 1 ≤ L then early else late)), .str (if i + 1 < B then eN (i + 2) else late)]) := by
  unfold endV
  refine valD_foldI (key := fun i => kS (eN (i + 1))) (val := fun i => .tup [.int 1, .str (f1N (if i + 1 ≤ L then early else late)), .str (if i + 1 < B then eN (i + 2) else late)]) (kv0 := []) (fun a b ha hb e => ?_) h
  have := nmS_inj W (x := .e a) (y := .e b) (ok_e W hB hF hG ha) (ok_e W hB hF hG hb) (kS_inj e)
  injection this
theorem flag_f {b : Bool} {i : Nat} (h : i < F) : valD (flagV (wdB early late b) F G) (kS (fN (wdB early late b) (i + 1))) = some (.tup [.int 0, .str (if i + 1 < F then fN (wdB early late b) (i + 2) else g1N (wdB early late b)), .str (if i + 1 < F then fN (wdB early late b) (i + 2) else g1N (wdB early late b))]) := by
  unfold flagV
  have a := valD_foldO (key := fun i => kS (gN (wdB early late b) (i + 1))) (val := fun i => .tup [.int 1, .str (if i = 0 then g1N (wdB early late b) else f1N (wdB early late b)), .str (if i + 1 < G then gN (wdB early late b) (i + 2) else (wdB early late b))]) (kv0 := (List.range F).foldl (flag1 (wdB early late b) F) []) (k := kS (fN (wdB early late b) (i + 1))) (n := G) fun j hj z => by
    have := nmS_inj W (x := .g b j) (y := .f b i) (ok_g W hB hF hG hj) (ok_f W hB hF hG h) (kS_inj z)
    cases this
  refine a.trans (valD_foldI (key := fun i => kS (fN (wdB early late b) (i + 1))) (val := fun i => .tup [.int 0, .str (if i + 1 < F then fN (wdB early late b) (i + 2) else g1N (wdB early late b)), .str (if i + 1 < F then fN (wdB early late b) (i + 2) else g1N (wdB early late b))]) (kv0 := []) (fun x y hx hy e => ?_) h)
  have := nmS_inj W (x := .f b x) (y := .f b y) (ok_f W hB hF hG hx) (ok_f W hB hF hG hy) (kS_inj e)
  injection this
theorem flag_g {b : Bool} {i : Nat} (h : i < G) : valD (flagV (wdB early late b) F G) (kS (gN (wdB early late b) (i + 1))) = some (.tup [.int 1, .str (if i = 0 then g1N (wdB early late b) else f1N (wdB early late b)), .str (if i + 1 < G then gN (wdB early late b) (i + 2) else (wdB early late b))]) := by
  unfold flagV
  refine valD_foldI (key := fun i => kS (gN (wdB early late b) (i + 1))) (val := fun i => .tup [.int 1, .str (if i = 0 then g1N (wdB early late b) else f1N (wdB early late b)), .str (if i + 1 < G then gN (wdB early late b) (i + 2) else (wdB early late b))]) (kv0 := (List.range F).foldl (flag1 (wdB early late b) F) []) (fun x y hx hy e => ?_) h
  have := nmS_inj W (x := .g b x) (y := .g b y) (ok_g W hB hF hG hx) (ok_g W hB hF hG hy) (kS_inj e)
  injection this
theorem kvs_at (k : Key) : valD (kvsV B L F G early late) k = (valD (flagV (wdB early late true) F G) k).or ((valD (flagV (wdB early late false) F G) k).or (valD (endV B L early late) k)) := by
  unfold kvsV
  rw [valD_merge flag_ndK, valD_merge flag_ndK]
  rfl
theorem flag_no {b : Bool} {x : Nm} (hx : x.inn B F G = true) (h : ∀ i, x ≠ .f b i ∧ x ≠ .g b i) : valD (flagV (wdB early late b) F G) (kS (nmS early late x)) = none := by
  have ox := Nm.inn_ok hB hF hG hx
  refine flag_out (fun i hi z => ?_) (fun i hi z => ?_)
  · exact (h i).1 (nmS_inj W (x := .f b i) (ok_f W hB hF hG hi) ox z).symm
  · exact (h i).2 (nmS_inj W (x := .g b i) (ok_g W hB hF hG hi) ox z).symm
/-- each name has its row -/
theorem kvs_row {x : Nm} (hx : x.inn B F G = true) : valD (kvsV B L F G early late) (kS (nmS early late x)) = some (rowNm B L F G early late x) := by
  rw [kvs_at W hB hF hG]
  cases x with
  | e i =>
    have hi : i < B := of_decide_eq_true hx
    rw [flag_no W hB hF hG hx (fun _ => ⟨by simp, by simp⟩), flag_no W hB hF hG hx (fun _ => ⟨by simp, by simp⟩)]
    show (none : Option D).or ((none : Option D).or (valD (endV B L early late) (kS (eN (i + 1))))) = _
    rw [end_in W hB hF hG hi]
    have e1 : f1N (if i + 1 ≤ L then early else late) = fN (wdB early late (!decide (i + 1 ≤ L))) 1 := by
      by_cases c : i + 1 ≤ L
      · rw [if_pos c, decide_eq_true c]; exact W.f1 false
      · rw [if_neg c, decide_eq_false c]; exact W.f1 true
    rw [e1]
    rfl
  | f b i =>
    have hi : i < F := of_decide_eq_true hx
    have e := flag_f W hB hF hG (b := b) hi
    rw [W.g1 b] at e
    cases b with
    | true =>
      show (valD (flagV (wdB early late true) F G) (kS (fN (wdB early late true) (i + 1)))).or _ = _
      rw [e]
      rfl
    | false =>
      rw [flag_no W hB hF hG hx (fun _ => ⟨by simp, by simp⟩)]
      show (none : Option D).or ((valD (flagV (wdB early late false) F G) (kS (fN (wdB early late false) (i + 1)))).or _) = _
      rw [e]
      rfl
  | g b i =>
    have hi : i < G := of_decide_eq_true hx
    have e := flag_g W hB hF hG (b := b) hi
    rw [W.g1 b, W.f1 b] at e
    cases b with
    | true =>
      show (valD (flagV (wdB early late true) F G) (kS (gN (wdB early late true) (i + 1)))).or _ = _
      rw [e]
      rfl
    | false =>
      rw [flag_no W hB hF hG hx (fun _ => ⟨by simp, by simp⟩)]
      show (none : Option D).or ((valD (flagV (wdB early late false) F G) (kS (gN (wdB early late false) (i + 1)))).or _) = _
      rw [e]
      rfl
end
end
section
variable {B L F G : Nat} {early late : Str} (W : Wok early late) (hB : B ≤ 10) (hF : F ≤ 8) (hG : G ≤ 8)
include W hB hF hG
theorem kvs_nd : ((kvsV B L F G early late).map (·.1)).Nodup := merge_ndK (merge_ndK end_ndK)
/-- each key is a name's -/
theorem kvs_keys {k : Str} (h : (valD (kvsV B L F G early late) (kS k)).isSome = true) : ∃ x : Nm, x.inn B F G = true ∧ k = nmS early late x := by
  by_cases z : ∃ x : Nm, x.inn B F G = true ∧ k = nmS early late x
  · exact z
  · exfalso
    have no : ∀ x : Nm, x.inn B F G = true → nmS early late x ≠ k := fun x hx e => z ⟨x, hx, e.symm⟩
    rw [kvs_at W hB hF hG, flag_out (fun i hi => no (.f true i) (decide_eq_true hi)) (fun i hi => no (.g true i) (decide_eq_true hi)), flag_out (fun i hi => no (.f false i) (decide_eq_true hi)) (fun i hi => no (.g false i) (decide_eq_true hi)), end_out (fun i hi => no (.e i) (decide_eq_true hi))] at h
    cases h
end
def plN (ns : List Str) (a : Str) : D := if a ∈ ns then .int (ns.idxOf a : Nat) else .str a
theorem atV_in {ns : List Str} (nd : ns.Nodup) {a : Str} (h : a ∈ ns) : valD (atV ns) (kS a) = some (.int (ns.idxOf a : Nat)) := by
  have hl := List.idxOf_lt_length_iff.mpr h
  have e : ns.getD (ns.idxOf a) "" = a := by
    rw [List.getD_eq_getElem?_getD, List.getElem?_eq_getElem hl, Option.getD_some]
    exact List.getElem_idxOf hl
  have := valD_foldI (key := fun i => kS (ns.getD i "")) (val := fun i => D.int (i : Nat)) (kv0 := []) (n := ns.length) (i := ns.idxOf a) (fun x y hx hy z => by
    have z := kS_inj z
    rw [List.getD_eq_getElem?_getD, List.getD_eq_getElem?_getD, List.getElem?_eq_getElem hx, List.getElem?_eq_getElem hy] at z
    exact (List.getElem_inj nd).mp z) hl
  rw [e] at this
  exact this
theorem atV_out {ns : List Str} {a : Str} (h : a ∉ ns) : valD (atV ns) (kS a) = none := by
  unfold atV
  refine valD_foldO (key := fun i => kS (ns.getD i "")) (val := fun i => D.int (i : Nat)) (kv0 := []) fun i hi z => h ?_
  have z := kS_inj z
  rw [List.getD_eq_getElem?_getD, List.getElem?_eq_getElem hi] at z
  rw [← z]
  exact List.getElem_mem hi
theorem getV_at {ns : List Str} (nd : ns.Nodup) (a : Str) : getV (atV ns) (.str a) = plN ns a := by
  show (valD (atV ns) (kS a)).getD (.str a) = plN ns a
  unfold plN
  by_cases h : a ∈ ns
  · rw [atV_in nd h, if_pos h]; rfl
  · rw [atV_out h, if_neg h]; rfl
theorem numV_at {kvs : List (Key × D)} {fi : List Str} (nd : (namesV kvs fi).Nodup) {s : Str} (hs : s ∈ namesV kvs fi) {p : D} {a b : Str} (e : valD kvs (kS s) = some (.tup [p, .str a, .str b])) : (numV kvs fi)[(namesV kvs fi).idxOf s]? = some (.tup [p, plN (namesV kvs fi) a, plN (namesV kvs fi) b]) := by
  have hl := List.idxOf_lt_length_iff.mpr hs
  have es : (namesV kvs fi)[(namesV kvs fi).idxOf s]? = some s := by
    rw [List.getElem?_eq_getElem hl]
    exact congrArg some (List.getElem_idxOf hl)
  unfold numV
  rw [List.getElem?_map, es, Option.map_some, e]
  simp only [getV_at nd]
theorem names_mem {kvs : List (Key × D)} {fi : List Str} (h : ∀ s ∈ fi, (valD kvs (kS s)).isSome = true) {s : Str} : s ∈ namesV kvs fi ↔ (valD kvs (kS s)).isSome = true := by
  unfold namesV
  rw [List.mem_append, List.mem_filterMap]
  constructor
  · rintro (z | ⟨kv, hkv, e⟩)
    · exact h s z
    · obtain ⟨a, b⟩ := kv
      cases a with
      | inl i => cases e
      | inr t =>
        simp only at e
        split at e
        · cases e
        · cases e
          exact valD_key.mpr (List.mem_map.mpr ⟨_, hkv, rfl⟩)
  · intro z
    by_cases c : s ∈ fi
    · exact .inl c
    · obtain ⟨kv, hkv, e⟩ := List.mem_map.mp (valD_key.mp z)
      refine .inr ⟨kv, hkv, ?_⟩
      rw [e]
      show (if fi.contains s then none else some s) = some s
      rw [if_neg (by simpa using c)]
theorem names_nd {kvs : List (Key × D)} {fi : List Str} (nd : (kvs.map (·.1)).Nodup) (hf : fi.Nodup) : (namesV kvs fi).Nodup := by
  unfold namesV
  refine List.nodup_append.mpr ⟨hf, ?_, fun a ha b hb e => ?_⟩
  · have key : ∀ l : List (Key × D), (l.map (·.1)).Nodup → (l.filterMap fun x => match x.1 with | .inr s => if fi.contains s then none else some s | _ => none).Nodup := fun l => by
      induction l with
      | nil => intro _; simp
      | cons x l ih =>
        intro h
        rw [List.map_cons, List.nodup_cons] at h
        rw [List.filterMap_cons]
        obtain ⟨k, d⟩ := x
        cases k with
        | inl i => exact ih h.2
        | inr s =>
          by_cases c : fi.contains s = true
          · simp only [c, if_true]; exact ih h.2
          · simp only [c, if_false]
            refine List.nodup_cons.mpr ⟨fun z => h.1 ?_, ih h.2⟩
            obtain ⟨kv, hkv, e⟩ := List.mem_filterMap.mp z
            obtain ⟨k2, d2⟩ := kv
            cases k2 with
            | inl i => cases e
            | inr t =>
              simp only at e
              split at e
              · cases e
              · cases e
                exact List.mem_map.mpr ⟨_, hkv, rfl⟩
    exact key kvs nd
  · obtain ⟨kv, _, e2⟩ := List.mem_filterMap.mp hb
    obtain ⟨k2, d2⟩ := kv
    cases k2 with
    | inl i => cases e2
    | inr t =>
      simp only at e2
      split at e2
      · cases e2
      · rename_i c
        cases e2
        subst e
        exact c (List.contains_iff_mem.mpr ha)
end DL
set_option Elab.async false
set_option linter.all false
set_option maxRecDepth 100000
set_option maxHeartbeats 4000000
namespace DL
open PySem PySem.Spec PyProof.Rows L2
inductive Cs
  | go (x : Nm)
  | wd (b : Bool)
  | no
  deriving DecidableEq
def nextC (B L F G : Nat) : Nm → Int → Cs
  | .e i, ear => if ear = 0 then .go (.f (!decide (i + 1 ≤ L)) 0) else if i + 1 < B then .go (.e (i + 1)) else .wd true
  | .f b i, _ => if i + 1 < F then .go (.f b (i + 1)) else .go (.g b 0)
  | .g b i, ear => if ear = 0 then (if i = 0 then .go (.g b 0) else .go (.f b 0)) else if i + 1 < G then .go (.g b (i + 1)) else .wd b
def putC : Nm → Int
  | .f _ _ => 0
  | _ => 1
def csP (ns : List Str) (early late : Str) : Cs → D
  | .go x => .int (ns.idxOf (nmS early late x) : Nat)
  | .wd b => .str (wdB early late b)
  | .no => .non
theorem nextC_inn {B L F G : Nat} (hF : 1 ≤ F) (hG : 1 ≤ G) {x y : Nm} {ear : Int} (hx : x.inn B F G = true) (h : nextC B L F G x ear = .go y) : y.inn B F G = true := by
  cases x with
  | e i =>
    simp only [nextC] at h
    split at h
    · cases h; exact decide_eq_true hF
    · split at h
      · rename_i c; cases h; exact decide_eq_true c
      · cases h
  | f b i =>
    simp only [nextC] at h
    split at h
    · rename_i c; cases h; exact decide_eq_true c
    · cases h; exact decide_eq_true hG
  | g b i =>
    simp only [nextC] at h
    split at h
    · split at h
      · cases h; exact decide_eq_true hG
      · cases h; exact decide_eq_true hF
    · split at h
      · rename_i c; cases h; exact decide_eq_true c
      · cases h
/-- the machine of a station of a counted end -/
def cntA (B L F G : Nat) (early late : Str) (fi : List Nm) : List D := numV (kvsV B L F G early late) (fi.map (nmS early late))
def cntN (B L F G : Nat) (early late : Str) (fi : List Nm) : List Str := namesV (kvsV B L F G early late) (fi.map (nmS early late))
section
variable {B L F G : Nat} {early late : Str} {fi : List Nm} (W : Wok early late) (hB : B ≤ 10) (hF : F ≤ 8) (hG : G ≤ 8) (f1 : 1 ≤ F) (g1 : 1 ≤ G) (hfi : ∀ x ∈ fi, x.inn B F G = true) (nfi : fi.Nodup)
include W hB hF hG f1 g1 hfi nfi
theorem cntN_nd : (cntN B L F G early late fi).Nodup := by
  refine names_nd (kvs_nd W hB hF hG) ?_
  unfold List.Nodup
  rw [List.pairwise_map]
  refine nfi.imp_of_mem fun {a b} ha hb hab e => hab (nmS_inj W (Nm.inn_ok hB hF hG (hfi a ha)) (Nm.inn_ok hB hF hG (hfi b hb)) e)
theorem cntN_mem {s : Str} : s ∈ cntN B L F G early late fi ↔ ∃ x : Nm, x.inn B F G = true ∧ s = nmS early late x := by
  unfold cntN
  rw [names_mem (fun s hs => by
    obtain ⟨x, hx, rfl⟩ := List.mem_map.mp hs
    rw [kvs_row W hB hF hG (hfi x hx)]; rfl)]
  constructor
  · exact fun h => kvs_keys W hB hF hG h
  · rintro ⟨x, hx, rfl⟩
    rw [kvs_row W hB hF hG hx]; rfl
theorem plN_nm {x : Nm} (hx : x.inn B F G = true) : plN (cntN B L F G early late fi) (nmS early late x) = csP (cntN B L F G early late fi) early late (.go x) := if_pos ((cntN_mem W hB hF hG f1 g1 hfi nfi).mpr ⟨x, hx, rfl⟩)
theorem plN_wd (b : Bool) : plN (cntN B L F G early late fi) (wdB early late b) = .str (wdB early late b) := by
  refine if_neg fun z => ?_
  obtain ⟨x, hx, e⟩ := (cntN_mem W hB hF hG f1 g1 hfi nfi).mp z
  exact nmS_word W (Nm.inn_ok hB hF hG hx) b e.symm
theorem cntA_at {x : Nm} (hx : x.inn B F G = true) : (cntA B L F G early late fi)[(cntN B L F G early late fi).idxOf (nmS early late x)]? = some (.tup [.int (putC x), csP (cntN B L F G early late fi) early late (nextC B L F G x 0), csP (cntN B L F G early late fi) early late (nextC B L F G x 1)]) := by
  have nd := cntN_nd W hB hF hG f1 g1 hfi nfi (L := L)
  have hm : nmS early late x ∈ namesV (kvsV B L F G early late) (fi.map (nmS early late)) := (cntN_mem W hB hF hG f1 g1 hfi nfi).mpr ⟨x, hx, rfl⟩
  have row := kvs_row W hB hF hG (L := L) hx
  have nm := fun {y : Nm} (hy : y.inn B F G = true) => plN_nm W hB hF hG f1 g1 hfi nfi (L := L) hy
  have wd := plN_wd W hB hF hG f1 g1 hfi nfi (L := L)
  cases x with
  | e i =>
    have := numV_at nd hm row
    refine this.trans ?_
    show some (D.tup [.int 1, plN (cntN B L F G early late fi) (nmS early late (.f (!decide (i + 1 ≤ L)) 0)), plN (cntN B L F G early late fi) (if i + 1 < B then nmS early late (.e (i + 1)) else late)]) = _
    rw [nm (y := .f _ 0) (decide_eq_true f1)]
    by_cases c : i + 1 < B
    · rw [if_pos c, nm (y := .e (i + 1)) (decide_eq_true c)]
      simp [nextC, putC, c]
    · rw [if_neg c, show plN (cntN B L F G early late fi) late = .str late from wd true]
      simp only [nextC, putC, c, if_true, if_false, show ¬ (1 : Int) = 0 by decide]
      rfl
  | f b i =>
    have := numV_at nd hm row
    refine this.trans ?_
    show some (D.tup [.int 0, plN (cntN B L F G early late fi) (if i + 1 < F then nmS early late (.f b (i + 1)) else nmS early late (.g b 0)), plN (cntN B L F G early late fi) (if i + 1 < F then nmS early late (.f b (i + 1)) else nmS early late (.g b 0))]) = _
    by_cases c : i + 1 < F
    · rw [if_pos c, nm (y := .f b (i + 1)) (decide_eq_true c)]
      simp [nextC, putC, c]
    · rw [if_neg c, nm (y := .g b 0) (decide_eq_true g1)]
      simp [nextC, putC, c]
  | g b i =>
    have := numV_at nd hm row
    refine this.trans ?_
    show some (D.tup [.int 1, plN (cntN B L F G early late fi) (if i = 0 then nmS early late (.g b 0) else nmS early late (.f b 0)), plN (cntN B L F G early late fi) (if i + 1 < G then nmS early late (.g b (i + 1)) else wdB early late b)]) = _
    have e1 : plN (cntN B L F G early late fi) (if i = 0 then nmS early late (.g b 0) else nmS early late (.f b 0)) = csP (cntN B L F G early late fi) early late (if i = 0 then .go (.g b 0) else .go (.f b 0)) := by
      by_cases c : i = 0
      · rw [if_pos c, if_pos c, nm (y := .g b 0) (decide_eq_true g1)]
      · rw [if_neg c, if_neg c, nm (y := .f b 0) (decide_eq_true f1)]
    rw [e1]
    by_cases c : i + 1 < G
    · rw [if_pos c, nm (y := .g b (i + 1)) (decide_eq_true c)]
      simp [nextC, putC, c]
    · rw [if_neg c, wd b]
      simp only [nextC, putC, c, if_true, if_false, show ¬ (1 : Int) = 0 by decide]
      rfl
theorem cntA_rowAt {x : Nm} (hx : x.inn B F G = true) : rowAt (cntA B L F G early late fi) (csP (cntN B L F G early late fi) early late (.go x)) = .tup [.int (putC x), csP (cntN B L F G early late fi) early late (nextC B L F G x 0), csP (cntN B L F G early late fi) early late (nextC B L F G x 1)] := by
  show ((cntA B L F G early late fi)[((_ : Nat) : Int).toNat]?).getD .non = _
  rw [Int.toNat_natCast, cntA_at W hB hF hG f1 g1 hfi nfi hx]
  rfl
end
end DL
set_option Elab.async false
set_option linter.all false
set_option maxRecDepth 100000
set_option maxHeartbeats 4000000
namespace DL
open PySem PySem.Spec PyProof.Rows L2
abbrev wkH : Wok "lost" "taken" := wok_of wok_h
abbrev wkS : Wok "again" "done" := wok_of wok_s
theorem firstH : (["end 1", "lost flag 1"] : List Str) = [Nm.e 0, Nm.f false 0].map (nmS "lost" "taken") := by decide +kernel
theorem firstS : (["end 1"] : List Str) = [Nm.e 0].map (nmS "again" "done") := by decide +kernel
theorem hearC_eq (B H F G : Nat) : hearC B H F G = cntA B H F G "lost" "taken" [.e 0, .f false 0] := by
  unfold hearC cntA
  rw [kvs_ears, firstH]
theorem sendC_eq (B S F G : Nat) : sendC B S F G = cntA B S F G "again" "done" [.e 0] := by
  unfold sendC cntA
  rw [kvs_mouth, firstS]
structure CntP (B H S F G : Nat) : Prop where
  B1 : 1 ≤ B
  B10 : B ≤ 10
  F1 : 1 ≤ F
  F8 : F ≤ 8
  G1 : 1 ≤ G
  G8 : G ≤ 8
def lmK (H S k : Nat) : Nat := if k = 0 then S else H
def csK (B H S F G k : Nat) (c : Cs) : D := if k = 0 then csP (cntN B S F G "again" "done" [.e 0]) "again" "done" c else csP (cntN B H F G "lost" "taken" [.e 0, .f false 0]) "lost" "taken" c
abbrev rawM (B H S F G : Nat) : Mc := ⟨hearC B H F G, sendC B S F G⟩
def Cs.isGo : Cs → Bool
  | .go _ => true
  | _ => false
section
variable {B H S F G : Nat} (C : CntP B H S F G)
include C
theorem fiH : ∀ x ∈ [Nm.e 0, Nm.f false 0], x.inn B F G = true := fun x hx => by
  simp only [List.mem_cons, List.mem_nil_iff, or_false] at hx
  rcases hx with rfl | rfl
  · exact decide_eq_true C.B1
  · exact decide_eq_true C.F1
theorem fiS : ∀ x ∈ [Nm.e 0], x.inn B F G = true := fun x hx => by
  rw [List.mem_singleton.mp hx]
  exact decide_eq_true C.B1
theorem raw_row (k : Nat) {x : Nm} (hx : x.inn B F G = true) : rowAt ((rawM B H S F G).m k) (csK B H S F G k (.go x)) = .tup [.int (putC x), csK B H S F G k (nextC B (lmK H S k) F G x 0), csK B H S F G k (nextC B (lmK H S k) F G x 1)] := by
  unfold Mc.m csK lmK
  by_cases h : k = 0
  · simp only [h, if_true]
    rw [sendC_eq]
    exact cntA_rowAt wkS C.B10 C.F8 C.G8 C.F1 C.G1 (fiS C) (by decide) hx
  · simp only [h, if_false]
    rw [hearC_eq]
    exact cntA_rowAt wkH C.B10 C.F8 C.G8 C.F1 C.G1 (fiH C) (by decide) hx
end
theorem csK_rw (B H S F G k : Nat) (c : Cs) : isRw (csK B H S F G k c) = c.isGo := by
  unfold csK
  split <;> cases c <;> rfl
theorem csK_no (B H S F G k : Nat) : csK B H S F G k .no = .non := by
  unfold csK
  split <;> rfl
def isFl : Cs → Bool
  | .go (.f _ _) => true
  | _ => false
def silC (ns : List Nat) (sts : List Cs) : List Cs := sts.mapIdx fun k c => if ns.contains k then .no else c
def bitC (sts : List Cs) : Int := if sts.any isFl then 0 else 1
def earC (nw : List Nat) (b : Int) (k : Nat) : Int := if nw.contains k then 1 - b else b
def stpC (B H S F G : Nat) (nw : List Nat) (b : Int) (sts : List Cs) : List Cs := sts.mapIdx fun k c => match c with
  | .go x => nextC B (lmK H S k) F G x (earC nw b k)
  | c => c
/-- where the stations of a moment stand -/
structure StC (x : Mo) (B H S F G m : Nat) (sts : List Cs) : Prop where
  l : sts.length = m + 1
  ps : x.ps = sts.mapIdx fun k c => csK B H S F G k c
  ok : ∀ y, Cs.go y ∈ sts → y.inn B F G = true
section
variable {x : Mo} {B H S F G m : Nat} {sts : List Cs} {ns nw : List Nat}
theorem silC_len : (silC ns sts).length = sts.length := by simp [silC]
theorem silC_get {k : Nat} : (silC ns sts)[k]? = (sts[k]?).map fun c => if ns.contains k then Cs.no else c := by simp [silC, List.getElem?_mapIdx]
theorem stpC_len {b : Int} : (stpC B H S F G nw b sts).length = sts.length := by simp [stpC]
theorem silC_go {y : Nm} (h : Cs.go y ∈ silC ns sts) : Cs.go y ∈ sts := by
  obtain ⟨k, hk⟩ := List.mem_iff_getElem?.mp h
  rw [silC_get] at hk
  obtain ⟨c, e1, e2⟩ := Option.map_eq_some_iff.mp hk
  split at e2
  · cases e2
  · subst e2; exact List.mem_of_getElem? e1
theorem StC.sil (h : StC x B H S F G m sts) : silL (fun k => ns.contains k) x.ps = (silC ns sts).mapIdx fun k c => csK B H S F G k c := by
  refine List.ext_getElem? fun k => ?_
  rw [silL_get, h.ps, List.getElem?_mapIdx, List.getElem?_mapIdx, silC_get]
  cases sts[k]? with
  | none => rfl
  | some c =>
    simp only [Option.map_some]
    cases z : ns.contains k
    · simp
    · simp [csK_no]
theorem StC.okS (h : StC x B H S F G m sts) : ∀ y, Cs.go y ∈ silC ns sts → y.inn B F G = true := fun y hy => h.ok y (silC_go hy)
theorem StC.bit (C : CntP B H S F G) (h : StC x B H S F G m sts) : bitL (rawM B H S F G) (silL (fun k => ns.contains k) x.ps) = bitC (silC ns sts) := by
  rw [h.sil]
  have ok := h.okS (ns := ns)
  generalize silC ns sts = s1 at ok
  unfold bitL bitC
  have : (0 : Int) ∈ puts (rawM B H S F G) (s1.mapIdx fun k c => csK B H S F G k c) ↔ s1.any isFl = true := by
    rw [puts_memF, List.any_eq_true]
    constructor
    · rintro ⟨k, d, e, hr, hz⟩
      rw [List.getElem?_mapIdx] at e
      obtain ⟨c, e1, rfl⟩ := Option.map_eq_some_iff.mp e
      refine ⟨c, List.mem_of_getElem? e1, ?_⟩
      rw [csK_rw] at hr
      cases c with
      | go y =>
        rw [raw_row C k (ok y (List.mem_of_getElem? e1))] at hz
        cases y with
        | e i => simp [putOf, putC] at hz
        | f b i => rfl
        | g b i => simp [putOf, putC] at hz
      | wd b => cases hr
      | no => cases hr
    · rintro ⟨c, hc, hf⟩
      obtain ⟨k, e1⟩ := List.mem_iff_getElem?.mp hc
      cases c with
      | go y =>
        refine ⟨k, _, by rw [List.getElem?_mapIdx, e1]; rfl, csK_rw .., ?_⟩
        rw [raw_row C k (ok y hc)]
        cases y with
        | e i => cases hf
        | f b i => rfl
        | g b i => cases hf
      | wd b => cases hf
      | no => cases hf
  by_cases z : s1.any isFl = true
  · rw [if_pos (this.mpr z), if_pos z]
  · rw [if_neg (fun y => z (this.mp y)), if_neg z]
theorem bitC_01 (s : List Cs) : bitC s = 0 ∨ bitC s = 1 := by unfold bitC; split <;> simp
theorem earC_01 {b : Int} (hb : b = 0 ∨ b = 1) (k : Nat) : earC nw b k = 0 ∨ earC nw b k = 1 := by unfold earC; split <;> omega
theorem StC.step (C : CntP B H S F G) (h : StC x B H S F G m sts) : StC (stepM (rawM B H S F G) (fun k => nw.contains k) (fun k => ns.contains k) x) B H S F G m (stpC B H S F G nw (bitC (silC ns sts)) (silC ns sts)) := by
  have hb := bitC_01 (silC ns sts)
  have ok := h.okS (ns := ns)
  refine ⟨by rw [stpC_len, silC_len, h.l], ?_, fun y hy => ?_⟩
  · show stepL _ _ _ x.ps = _
    unfold stepL
    rw [h.bit C, h.sil]
    refine List.ext_getElem? fun k => ?_
    rw [nxtL_get, List.getElem?_mapIdx, List.getElem?_mapIdx, stpC, List.getElem?_mapIdx]
    cases e : (silC ns sts)[k]? with
    | none => rfl
    | some c =>
      simp only [Option.map_some]
      rw [csK_rw]
      cases c with
      | go y =>
        have hy := ok y (List.mem_of_getElem? e)
        show some (nxtOf (earK (fun k => nw.contains k) (bitC (silC ns sts)) k) (rowAt _ _)) = _
        rw [raw_row C k hy, show earK (fun k => nw.contains k) (bitC (silC ns sts)) k = earC nw (bitC (silC ns sts)) k from rfl]
        rcases earC_01 (nw := nw) hb k with z | z <;> rw [z] <;> rfl
      | wd b => rfl
      | no => rfl
  · obtain ⟨k, e⟩ := List.mem_iff_getElem?.mp hy
    rw [stpC, List.getElem?_mapIdx] at e
    obtain ⟨c, e1, e2⟩ := Option.map_eq_some_iff.mp e
    cases c with
    | go z => exact nextC_inn C.F1 C.G1 (ok z (List.mem_of_getElem? e1)) e2
    | wd b => cases e2
    | no => cases e2
theorem StC.ears (C : CntP B H S F G) (h : StC x B H S F G m sts) (k : Nat) : (stepM (rawM B H S F G) (fun k => nw.contains k) (fun k => ns.contains k) x).es[k]? = (x.es[k]?).map fun e => if (((silC ns sts)[k]?).map Cs.isGo).getD false = true then e ++ [earC nw (bitC (silC ns sts)) k] else e := by
  simp only [stepM, hearL]
  rw [List.getElem?_mapIdx, h.bit C, h.sil, List.getD_eq_getElem?_getD, List.getElem?_mapIdx]
  cases x.es[k]? with
  | none => rfl
  | some e =>
    simp only [Option.map_some]
    cases (silC ns sts)[k]? with
    | none => rfl
    | some c =>
      simp only [Option.map_some, Option.getD_some, csK_rw]
      rfl
theorem StC.rest (h : StC x B H S F G m sts) : atRest x.ps = !sts.any Cs.isGo := by
  rw [h.ps]
  unfold atRest
  rw [Bool.eq_iff_iff, List.all_eq_true, Bool.not_eq_true', Bool.eq_false_iff]
  constructor
  · intro a z
    obtain ⟨c, hc, hg⟩ := List.any_eq_true.mp z
    obtain ⟨k, e⟩ := List.mem_iff_getElem?.mp hc
    have := a _ (List.mem_of_getElem? (show (sts.mapIdx fun k c => csK B H S F G k c)[k]? = some (csK B H S F G k c) by rw [List.getElem?_mapIdx, e]; rfl))
    rw [csK_rw, hg] at this
    cases this
  · intro z d hd
    obtain ⟨k, e⟩ := List.mem_iff_getElem?.mp hd
    rw [List.getElem?_mapIdx] at e
    obtain ⟨c, e1, rfl⟩ := Option.map_eq_some_iff.mp e
    rw [csK_rw]
    cases g : c.isGo
    · rfl
    · exact absurd (List.any_eq_true.mpr ⟨c, List.mem_of_getElem? e1, g⟩) z
end
def costC (B G : Nat) : Nm → Nat
  | .e i => B - i
  | .f _ _ => 0
  | .g _ i => G - i
def NoGo (sts : List Cs) : Prop := ∀ y, Cs.go y ∉ sts
def Mu (B F G : Nat) (sts : List Cs) (k : Nat) : Prop :=
  NoGo sts ∨ (∃ i, (∀ y, Cs.go y ∈ sts → ∃ b, y = .g b i) ∧ i < G ∧ G - i ≤ k) ∨
  (∃ j, (∀ y, Cs.go y ∈ sts → (∃ b i, y = .f b i ∧ F - i ≤ j) ∨ ∃ b, y = .g b 0) ∧ j + G + 1 ≤ k) ∨
  ∃ a, (∀ y, Cs.go y ∈ sts → costC B G y ≤ a) ∧ F + G + 2 + a ≤ k
section
variable {B H S F G m : Nat} {sts : List Cs} {ns nw : List Nat} {k : Nat}
theorem Mu.sil (h : Mu B F G sts k) : Mu B F G (silC ns sts) k := by
  rcases h with h | ⟨i, h, a⟩ | ⟨j, h, a⟩ | ⟨a, h, b⟩
  · exact .inl fun y hy => h y (silC_go hy)
  · exact .inr (.inl ⟨i, fun y hy => h y (silC_go hy), a⟩)
  · exact .inr (.inr (.inl ⟨j, fun y hy => h y (silC_go hy), a⟩))
  · exact .inr (.inr (.inr ⟨a, fun y hy => h y (silC_go hy), b⟩))
theorem Mu.any (C : CntP B H S F G) (h : ∀ y, Cs.go y ∈ sts → y.inn B F G = true) : Mu B F G sts 28 := by
  have := C.B10
  have := C.F8
  have := C.G8
  refine .inr (.inr (.inr ⟨10, fun y _ => ?_, by omega⟩))
  cases y <;> simp only [costC] <;> omega
theorem Mu.pos (h : Mu B F G sts k) {y : Nm} (hy : Cs.go y ∈ sts) : 1 ≤ k := by
  rcases h with h | ⟨i, _, a, b⟩ | ⟨j, _, a⟩ | ⟨a, _, b⟩
  · exact absurd hy (h y)
  · omega
  · omega
  · omega
theorem stpC_go {b : Int} {y : Nm} (h : Cs.go y ∈ stpC B H S F G nw b sts) : ∃ (q : Nat) (x : Nm), Cs.go x ∈ sts ∧ nextC B (lmK H S q) F G x (earC nw b q) = .go y := by
  obtain ⟨q, e⟩ := List.mem_iff_getElem?.mp h
  rw [stpC, List.getElem?_mapIdx] at e
  obtain ⟨c, e1, e2⟩ := Option.map_eq_some_iff.mp e
  cases c with
  | go x => exact ⟨q, x, List.mem_of_getElem? e1, e2⟩
  | wd b => cases e2
  | no => cases e2
theorem bit_fl {b : Bool} {i : Nat} (h : Cs.go (.f b i) ∈ sts) : bitC sts = 0 := if_pos (List.any_eq_true.mpr ⟨_, h, rfl⟩)
theorem bit_no (h : ∀ b i, Cs.go (.f b i) ∉ sts) : bitC sts = 1 := if_neg fun z => by
  obtain ⟨c, hc, e⟩ := List.any_eq_true.mp z
  cases c with
  | go y =>
    cases y with
    | f b i => exact h b i hc
    | e i => cases e
    | g b i => cases e
  | wd b => cases e
  | no => cases e
theorem earC_nil (b : Int) (q : Nat) : earC [] b q = b := rfl
/-- a bit that nobody hears wrongly leads on -/
theorem Mu.step (C : CntP B H S F G) (hk : ∀ y, Cs.go y ∈ sts → y.inn B F G = true) (h : Mu B F G sts k) {y0 : Nm} (hy0 : Cs.go y0 ∈ sts) : Mu B F G (stpC B H S F G [] (bitC sts) sts) (k - 1) := by
  have F1 := C.F1
  have G1 := C.G1
  rcases h with h | ⟨i, h, hi, a⟩ | ⟨j, h, a⟩ | ⟨a, h, b⟩
  · exact absurd hy0 (h y0)
  · have hb : bitC sts = 1 := bit_no fun b i hf => by
      obtain ⟨b', e⟩ := h _ hf
      cases e
    rw [hb]
    have key : ∀ y, Cs.go y ∈ stpC B H S F G [] 1 sts → i + 1 < G ∧ ∃ b, y = .g b (i + 1) := fun y hy => by
      obtain ⟨q, x, hx, e⟩ := stpC_go hy
      obtain ⟨b, rfl⟩ := h x hx
      rw [earC_nil] at e
      simp only [nextC, if_neg (show ¬ (1 : Int) = 0 by decide)] at e
      split at e
      · rename_i c; cases e; exact ⟨c, b, rfl⟩
      · cases e
    by_cases c : i + 1 < G
    · exact .inr (.inl ⟨i + 1, fun y hy => (key y hy).2, c, by omega⟩)
    · exact .inl fun y hy => c (key y hy).1
  · by_cases hf : ∃ b i, Cs.go (.f b i) ∈ sts
    · obtain ⟨b, i, hf⟩ := hf
      rw [bit_fl hf]
      have hij : 1 ≤ j := by
        rcases h _ hf with ⟨b', i', e, hj⟩ | ⟨b', e⟩
        · cases e
          have := hk _ hf
          have : i < F := of_decide_eq_true this
          omega
        · cases e
      refine .inr (.inr (.inl ⟨j - 1, fun y hy => ?_, by omega⟩))
      obtain ⟨q, x, hx, e⟩ := stpC_go hy
      rw [earC_nil] at e
      rcases h x hx with ⟨b', i', rfl, hj⟩ | ⟨b', rfl⟩
      · simp only [nextC] at e
        split at e
        · cases e; exact .inl ⟨_, _, rfl, by omega⟩
        · cases e; exact .inr ⟨_, rfl⟩
      · simp only [nextC, if_true] at e
        cases e
        exact .inr ⟨_, rfl⟩
    · have hb : bitC sts = 1 := bit_no fun b i z => hf ⟨b, i, z⟩
      rw [hb]
      have key : ∀ y, Cs.go y ∈ stpC B H S F G [] 1 sts → 1 < G ∧ ∃ b, y = .g b 1 := fun y hy => by
        obtain ⟨q, x, hx, e⟩ := stpC_go hy
        rcases h x hx with ⟨b', i', rfl, _⟩ | ⟨b, rfl⟩
        · exact absurd ⟨b', i', hx⟩ hf
        · rw [earC_nil] at e
          simp only [nextC, if_neg (show ¬ (1 : Int) = 0 by decide)] at e
          split at e
          · rename_i c; cases e; exact ⟨by omega, b, rfl⟩
          · cases e
      by_cases c : 1 < G
      · exact .inr (.inl ⟨1, fun y hy => (key y hy).2, c, by omega⟩)
      · exact .inl fun y hy => c (key y hy).1
  · by_cases hf : ∃ b i, Cs.go (.f b i) ∈ sts
    · obtain ⟨b', i', hf⟩ := hf
      rw [bit_fl hf]
      refine .inr (.inr (.inl ⟨F, fun y hy => ?_, by omega⟩))
      obtain ⟨q, x, hx, e⟩ := stpC_go hy
      rw [earC_nil] at e
      cases x with
      | e i => simp only [nextC, if_true] at e; cases e; exact .inl ⟨_, _, rfl, by omega⟩
      | f c i =>
        simp only [nextC] at e
        split at e
        · cases e; exact .inl ⟨_, _, rfl, by omega⟩
        · cases e; exact .inr ⟨_, rfl⟩
      | g c i =>
        simp only [nextC, if_true] at e
        split at e
        · cases e; exact .inr ⟨_, rfl⟩
        · cases e; exact .inl ⟨_, _, rfl, by omega⟩
    · have hb : bitC sts = 1 := bit_no fun b i z => hf ⟨b, i, z⟩
      rw [hb]
      have ha : 1 ≤ a := by
        have h1 := h y0 hy0
        have h2 := hk y0 hy0
        cases y0 with
        | e i => have : i < B := of_decide_eq_true h2; simp only [costC] at h1; omega
        | f c i => exact absurd ⟨c, i, hy0⟩ hf
        | g c i => have : i < G := of_decide_eq_true h2; simp only [costC] at h1; omega
      refine .inr (.inr (.inr ⟨a - 1, fun y hy => ?_, by omega⟩))
      obtain ⟨q, x, hx, e⟩ := stpC_go hy
      have h1 := h x hx
      have h2 := hk x hx
      rw [earC_nil] at e
      cases x with
      | e i =>
        have : i < B := of_decide_eq_true h2
        simp only [nextC, if_neg (show ¬ (1 : Int) = 0 by decide)] at e
        simp only [costC] at h1
        split at e
        · cases e; simp only [costC]; omega
        · cases e
      | f c i => exact absurd ⟨c, i, hx⟩ hf
      | g c i =>
        have : i < G := of_decide_eq_true h2
        simp only [nextC, if_neg (show ¬ (1 : Int) = 0 by decide)] at e
        simp only [costC] at h1
        split at e
        · cases e; simp only [costC]; omega
        · cases e
end
end DL
set_option Elab.async false
set_option linter.all false
set_option maxRecDepth 100000
set_option maxHeartbeats 4000000
namespace DL
open PySem PySem.Spec PyProof.Rows L2
inductive Vm
  | w (t s : Nat)
  | c (t s c : Nat)
def Vm.ok : Vm → Bool
  | .w t s => decide (t < 3 ∧ s < 6)
  | .c t s k => decide (t < 3 ∧ s < 6 ∧ k < 7)
def Vm.inn (v n r : Nat) : Vm → Bool
  | .w t s => decide (t < r ∧ s < v)
  | .c t s k => decide (t < r ∧ s < v ∧ k ≤ min s n)
def PutsR (f : List (Key × D) → List (Key × D)) (R : Key → D → Prop) : Prop := ∀ kv k, (∃ d, R k d ∧ valD (f kv) k = some d) ∨ ((∀ d, ¬ R k d) ∧ valD (f kv) k = valD kv k)
theorem PutsR.put (k0 : Key) (v : D) : PutsR (fun kv => putKD kv k0 v) (fun k d => k = k0 ∧ d = v) := fun kv k => by
  rw [valD_put]
  by_cases h : k = k0
  · exact .inl ⟨v, ⟨h, rfl⟩, if_pos h⟩
  · exact .inr ⟨fun d z => h z.1, if_neg h⟩
end DL
set_option Elab.async false
set_option linter.all false
set_option maxRecDepth 100000
set_option maxHeartbeats 4000000
namespace DL
open PySem PySem.Spec PyProof.Rows L2
end DL
set_option Elab.async false
set_option linter.all false
set_option maxRecDepth 100000
set_option maxHeartbeats 4000000
namespace DL
open PySem PySem.Spec PyProof.Rows L2
def lcGo2 (g : DTG) (tt : DTT) (wi2 : DTI) (g2 : DTG) (tt2 : DTT) (te : DTE) (vs2 : List Nat) (Gd : Ow → Prop) : Nat → List D → Env → Ow → (List D → Ow → Prop) → Prop
  | _, [], _, O, q => Gd O ∧ q [] O
  | c, x :: xs, env, O, q => Gd O ∧ g x env O fun env2 _ => tt env2 O fun b O3 => if b = true then wi2 env2 O3 fun ys Gd2 O4 => c + ys.length ≤ sizeLine ∧ lcGo g2 tt2 te Gd2 ys (wipeD env2 vs2) O4 fun zs O5 => ∃ o2, SubO o2 O5 ∧ lcGo2 g tt wi2 g2 tt2 te vs2 Gd (c + ys.length) xs env o2 fun ws O6 => q (zs ++ ws) O6
    else ∃ o2, SubO o2 O3 ∧ lcGo2 g tt wi2 g2 tt2 te vs2 Gd c xs env o2 q
def dLc2 (wi : DTI) (g : DTG) (tt : DTT) (wi2 : DTI) (g2 : DTG) (tt2 : DTT) (te : DTE) (vs vs2 : List Nat) : DTE := fun env O q => wi env O fun xs Gd O1 => lcGo2 g tt wi2 g2 tt2 te vs2 Gd 0 xs (wipeD env vs) O1 fun ys O2 => q (.lst ys) O2
def dLc2O (wi : DTI) (g : DTG) (tt : DTT) (wi2 : DTI) (g2 : DTG) (tt2 : DTT) (te : DTE) (vs vs2 : List Nat) : DTE := fun env O q => wi env O fun xs Gd O1 => lcGo2 g tt wi2 g2 tt2 te vs2 Gd 0 xs (wipeD env vs) O1 fun ys O2 => ∀ p, O2 p = none → q (.ref p) (setO O2 p (.lst ys))
theorem i_lc2 {wi wi2 : DTI} {g g2 : DTG} {tt tt2 : DTT} {te : DTE} {vs vs2 : List Nat} {env : Env} {O : Ow} {q : DQ} (h : wi env O fun xs Gd O1 => lcGo2 g tt wi2 g2 tt2 te vs2 Gd 0 xs (wipeD env vs) O1 fun ys O2 => q (.lst ys) O2) : dLc2 wi g tt wi2 g2 tt2 te vs vs2 env O q := h
theorem i_lc2O {wi wi2 : DTI} {g g2 : DTG} {tt tt2 : DTT} {te : DTE} {vs vs2 : List Nat} {env : Env} {O : Ow} {q : DQ} (h : wi env O fun xs Gd O1 => lcGo2 g tt wi2 g2 tt2 te vs2 Gd 0 xs (wipeD env vs) O1 fun ys O2 => ∀ p, O2 p = none → q (.ref p) (setO O2 p (.lst ys))) : dLc2O wi g tt wi2 g2 tt2 te vs vs2 env O q := h
end DL
set_option Elab.async false
set_option linter.all false
set_option maxRecDepth 100000
set_option maxHeartbeats 4000000
namespace DL
open PySem PySem.Spec PyProof.Rows L2
/-- whether bits lead from a place to a word with the last bit -/
def lgP (rs : List D) : D → List Int → Bool
  | pl, [] => !isRw pl
  | pl, b :: u => isRw pl && lgP rs (nxD rs pl b) u
/-- a question: both machines and the logs -/
structure Exq where
  hs : List D
  ss : List D
  logs : List (Option (List Int))
abbrev Fau := List (Int × Int)
abbrev Mom := Nat × List D × Fau
namespace Exq
variable (X : Exq)
def m (k : Nat) : List D := if k = 0 then X.ss else X.hs
def log (k : Nat) : Option (List Int) := (X.logs[k]?).getD none
def long : Nat := X.logs.foldl (fun a l => match l with | none => a | some u => max a u.length) 0
def okS (k row : Nat) : Bool := match X.log k with
  | none => true
  | some u => lgP (X.m k) (.int (row : Nat)) u
def addF (k row : Nat) (x : Fau × List D) : Fau × List D := (x.1 ++ (if row = 1 then [(0, (k : Int))] else []), x.2 ++ [.int (row : Nat)])
def fstep (found : List (Fau × List D)) (k : Nat) : List (Fau × List D) := (if X.okS k 0 then found.map (addF k 0) else []) ++ (if X.okS k 1 then found.map (addF k 1) else [])
def first : List (Fau × List D) := if X.okS 0 0 then (List.range (X.logs.length - 1)).foldl (fun f i => X.fstep f (i + 1)) [([], [.int 0])] else []
def going (ps : List D) : List Nat := (List.range ps.length).filter fun k => isRw (ps.getD k .non)
def putsE (ps : List D) : List Int := (going ps).map fun k => putOf (rowAt (X.m k) (ps.getD k .non))
def line (ps : List D) : Int := if (0 : Int) ∈ X.putsE ps then 0 else 1
def ears (a : Nat) (b : Int) (k : Nat) : List Int := match X.log k with
  | some u => [u.getD a 0]
  | none => if a < 5000 then [b, 1 - b] else [b]
def put1 (b : Int) (ps : List D) (k : Nat) (x : List Nat × List D) (e : Int) : List Nat × List D := (x.1 ++ (if e = b then [] else [k]), x.2.set k (nxD (X.m k) (ps.getD k .non) e))
def lstep (a : Nat) (ps : List D) (found : List (List Nat × List D)) (k : Nat) : List (List Nat × List D) := found.flatMap fun x => (X.ears a (X.line ps) k).map (X.put1 (X.line ps) ps k x)
def later (a : Nat) (ps : List D) : List (List Nat × List D) := (going ps).foldl (X.lstep a ps) [([], ps)]
def nxt (a : Nat) (f : Fau) (x : List Nat × List D) : Mom := (a + 1, x.2, f ++ x.1.map fun k => (((a + 1 : Nat) : Int), ((k : Nat) : Int)))
def next (q : Mom) : List Mom := (X.later q.1 q.2.1).map (nxt q.1 q.2.2)
def mark (q : Mom) : Nat × List D := (min q.1 X.long, q.2.1)
inductive Re : Mom → Prop
  | start {x : Fau × List D} : x ∈ X.first → Re (0, x.2, x.1)
  | step {q q' : Mom} : Re q → (going q.2.1 ≠ []) → q' ∈ X.next q → Re q'
end Exq
end DL
set_option Elab.async false
set_option linter.all false
set_option maxRecDepth 100000
set_option maxHeartbeats 4000000
namespace DL
open PySem PySem.Spec PyProof.Rows L2
namespace Exq
variable {X : Exq}
theorem getD_out {α : Type} {l : List α} {k : Nat} {d : α} (h : l.length ≤ k) : l.getD k d = d := by
  rw [List.getD_eq_getElem?_getD, List.getElem?_eq_none h]
  rfl
def stepE (X : Exq) (ps : List D) (e : Nat → Int) : List D := (List.range ps.length).map fun k => if isRw (ps.getD k .non) then nxD (X.m k) (ps.getD k .non) (e k) else ps.getD k .non
theorem setF_get (g : Nat → D) : ∀ (gs : List Nat) (l : List D) (j : Nat), (gs.foldl (fun l k => l.set k (g k)) l)[j]? = if j ∈ gs ∧ j < l.length then some (g j) else l[j]?
  | [], l, j => by simp
  | k :: t, l, j => by
    rw [List.foldl_cons, setF_get g t (l.set k (g k)) j, List.length_set, List.getElem?_set]
    by_cases h1 : j ∈ t ∧ j < l.length
    · rw [if_pos h1, if_pos ⟨List.mem_cons_of_mem _ h1.1, h1.2⟩]
    · rw [if_neg h1]
      by_cases h2 : k = j
      · subst h2
        by_cases h3 : k < l.length
        · rw [if_pos rfl, if_pos h3, if_pos ⟨List.mem_cons_self, h3⟩]
        · rw [if_pos rfl, if_neg h3, if_neg fun z => h3 z.2]
          exact (List.getElem?_eq_none (by omega)).symm
      · rw [if_neg h2, if_neg]
        rintro ⟨a, b⟩
        rcases List.mem_cons.mp a with a | a
        · exact h2 a.symm
        · exact h1 ⟨a, b⟩
theorem setF_congr {g g' : Nat → D} : ∀ {gs : List Nat} (l : List D), (∀ k ∈ gs, g k = g' k) → gs.foldl (fun l k => l.set k (g k)) l = gs.foldl (fun l k => l.set k (g' k)) l
  | [], _, _ => rfl
  | k :: t, l, h => by
    rw [List.foldl_cons, List.foldl_cons, h k List.mem_cons_self]
    exact setF_congr _ fun j hj => h j (List.mem_cons_of_mem _ hj)
theorem filter_congr2 {p p' : Nat → Bool} {gs : List Nat} (h : ∀ k ∈ gs, p k = p' k) : gs.filter p = gs.filter p' := List.filter_congr h
theorem lfold_mem (a : Nat) (ps : List D) : ∀ (gs : List Nat) (init : List (List Nat × List D)) (x : List Nat × List D), gs.Nodup →
    (x ∈ gs.foldl (X.lstep a ps) init ↔ ∃ x0 ∈ init, ∃ e : Nat → Int, (∀ k ∈ gs, e k ∈ X.ears a (X.line ps) k) ∧ x = (x0.1 ++ gs.filter (fun k => decide (e k ≠ X.line ps)), gs.foldl (fun l k => l.set k (nxD (X.m k) (ps.getD k .non) (e k))) x0.2))
  | [], init, x, _ => by
    constructor
    · exact fun h => ⟨x, h, fun _ => 0, fun _ h => (List.not_mem_nil h).elim, by simp⟩
    · rintro ⟨x0, h, e, _, rfl⟩
      simpa using h
  | k :: t, init, x, nd => by
    have nk : k ∉ t := (List.nodup_cons.mp nd).1
    rw [List.foldl_cons, lfold_mem a ps t _ x (List.nodup_cons.mp nd).2]
    constructor
    · rintro ⟨x1, h1, e, he, rfl⟩
      obtain ⟨x0, h0, h1⟩ := List.mem_flatMap.mp h1
      obtain ⟨c, hc, rfl⟩ := List.mem_map.mp h1
      refine ⟨x0, h0, fun j => if j = k then c else e j, fun j hj => ?_, ?_⟩
      · dsimp only
        rcases List.mem_cons.mp hj with rfl | hj
        · rw [if_pos rfl]; exact hc
        · rw [if_neg (fun z : j = k => nk (z ▸ hj))]; exact he j hj
      · have e1 : ∀ j ∈ t, (if j = k then c else e j) = e j := fun j hj => if_neg fun z : j = k => nk (z ▸ hj)
        rw [List.foldl_cons, List.filter_cons, filter_congr2 (p := fun j => decide ((if j = k then c else e j) ≠ X.line ps)) (p' := fun j => decide (e j ≠ X.line ps)) fun j hj => by rw [e1 j hj],
          setF_congr (g := fun j => nxD (X.m j) (ps.getD j .non) (if j = k then c else e j)) (g' := fun j => nxD (X.m j) (ps.getD j .non) (e j)) _ fun j hj => by rw [e1 j hj]]
        simp only [put1, if_true]
        by_cases hc0 : c = X.line ps
        · simp [hc0]
        · simp [hc0]
    · rintro ⟨x0, h0, e, he, rfl⟩
      refine ⟨X.put1 (X.line ps) ps k x0 (e k), List.mem_flatMap.mpr ⟨x0, h0, List.mem_map.mpr ⟨e k, he k List.mem_cons_self, rfl⟩⟩, e, fun j hj => he j (List.mem_cons_of_mem _ hj), ?_⟩
      rw [List.foldl_cons, List.filter_cons]
      simp only [put1]
      by_cases hc0 : e k = X.line ps
      · simp [hc0]
      · simp [hc0]
theorem going_nd (ps : List D) : (going ps).Nodup := List.Pairwise.filter _ List.nodup_range
theorem going_mem {ps : List D} {k : Nat} : k ∈ going ps ↔ isRw (ps.getD k .non) = true := by
  unfold going
  rw [List.mem_filter, List.mem_range]
  refine ⟨fun h => h.2, fun h => ⟨?_, h⟩⟩
  by_cases hk : k < ps.length
  · exact hk
  · rw [getD_out (by omega)] at h
    cases h
theorem later_mem {a : Nat} {ps : List D} {x : List Nat × List D} : x ∈ X.later a ps ↔ ∃ e : Nat → Int, (∀ k ∈ going ps, e k ∈ X.ears a (X.line ps) k) ∧ x = ((going ps).filter (fun k => decide (e k ≠ X.line ps)), X.stepE ps e) := by
  have key : ∀ e : Nat → Int, (going ps).foldl (fun l k => l.set k (nxD (X.m k) (ps.getD k .non) (e k))) ps = X.stepE ps e := fun e => by
    apply List.ext_getElem?
    intro j
    rw [setF_get]
    unfold stepE
    rw [List.getElem?_map]
    by_cases hj : j < ps.length
    · rw [List.getElem?_range hj, Option.map_some]
      by_cases hr : isRw (ps.getD j .non) = true
      · rw [if_pos ⟨going_mem.mpr hr, hj⟩, if_pos hr]
      · rw [if_neg (fun z => hr (going_mem.mp z.1)), if_neg hr, List.getD_eq_getElem?_getD, List.getElem?_eq_getElem hj]
        rfl
    · rw [if_neg (fun z => hj z.2), List.getElem?_eq_none (by omega), List.getElem?_eq_none (by rw [List.length_range]; omega)]
      rfl
  unfold later
  rw [lfold_mem a ps _ _ _ (going_nd ps)]
  constructor
  · rintro ⟨x0, h0, e, he, rfl⟩
    rw [List.mem_singleton.mp h0]
    exact ⟨e, he, by rw [key]; rfl⟩
  · rintro ⟨e, he, rfl⟩
    exact ⟨([], ps), List.mem_singleton.mpr rfl, e, he, by rw [key]; rfl⟩
theorem stepE_len {ps : List D} {e : Nat → Int} : (X.stepE ps e).length = ps.length := by simp [stepE]
theorem stepE_get {ps : List D} {e : Nat → Int} {k : Nat} (hk : k < ps.length) : (X.stepE ps e).getD k .non = if isRw (ps.getD k .non) then nxD (X.m k) (ps.getD k .non) (e k) else ps.getD k .non := by
  unfold stepE
  rw [List.getD_eq_getElem?_getD, List.getElem?_map, List.getElem?_range hk]
  rfl
def nn (X : Exq) : Nat := ((List.range X.logs.length).filter fun k => (X.log k).isNone).length
def firstN (X : Exq) (i : Nat) : List (Fau × List D) := (List.range i).foldl (fun f j => X.fstep f (j + 1)) [([], [.int 0])]
theorem firstN_succ (i : Nat) : X.firstN (i + 1) = X.fstep (X.firstN i) (i + 1) := by
  unfold firstN
  rw [List.range_succ, List.foldl_append]
  rfl
def bodF (i : Nat) (r : Nat → Nat) : Fau × List D := ((((List.range i).map (· + 1)).filter fun k => decide (r k = 1)).map fun k => ((0 : Int), ((k : Nat) : Int)), .int 0 :: (List.range i).map fun j => .int ((r (j + 1) : Nat) : Int))
theorem bodF_congr {i : Nat} {r r' : Nat → Nat} (h : ∀ k, 1 ≤ k → k ≤ i → r k = r' k) : bodF i r = bodF i r' := by
  unfold bodF
  congr 1
  · congr 1
    refine List.filter_congr fun k hk => ?_
    obtain ⟨j, hj, rfl⟩ := List.mem_map.mp hk
    rw [h (j + 1) (by omega) (by have := List.mem_range.mp hj; omega)]
  · congr 1
    refine List.map_congr_left fun j hj => ?_
    rw [h (j + 1) (by omega) (by have := List.mem_range.mp hj; omega)]
theorem bodF_succ (i : Nat) (r : Nat → Nat) : bodF (i + 1) r = addF (i + 1) (r (i + 1)) (bodF i r) := by
  unfold bodF addF
  simp only [List.range_succ, List.map_append, List.filter_append, List.map_cons, List.map_nil, List.cons_append, List.filter_cons, List.filter_nil]
  by_cases h : r (i + 1) = 1
  · simp [h]
  · simp [h]
theorem firstN_mem : ∀ (i : Nat) (x : Fau × List D), x ∈ X.firstN i ↔ ∃ r : Nat → Nat, (∀ k, 1 ≤ k → k ≤ i → r k ≤ 1 ∧ X.okS k (r k) = true) ∧ x = bodF i r
  | 0, x => by
    constructor
    · intro h
      exact ⟨fun _ => 0, fun k h1 h2 => by omega, List.mem_singleton.mp h⟩
    · rintro ⟨r, _, rfl⟩
      exact List.mem_singleton.mpr rfl
  | i + 1, x => by
    rw [firstN_succ]
    unfold fstep
    rw [List.mem_append]
    constructor
    · rintro (h | h)
      · split at h
        · obtain ⟨y, hy, rfl⟩ := List.mem_map.mp h
          obtain ⟨r, hr, rfl⟩ := (firstN_mem i y).mp hy
          refine ⟨fun k => if k = i + 1 then 0 else r k, fun k k1 k2 => ?_, ?_⟩
          · dsimp only
            by_cases z : k = i + 1
            · subst z; rw [if_pos rfl]; exact ⟨by omega, ‹_›⟩
            · rw [if_neg z]; exact hr k k1 (by omega)
          · rw [bodF_succ, if_pos rfl]
            congr 1
            exact bodF_congr fun k k1 k2 => (if_neg (by omega)).symm
        · cases h
      · split at h
        · obtain ⟨y, hy, rfl⟩ := List.mem_map.mp h
          obtain ⟨r, hr, rfl⟩ := (firstN_mem i y).mp hy
          refine ⟨fun k => if k = i + 1 then 1 else r k, fun k k1 k2 => ?_, ?_⟩
          · dsimp only
            by_cases z : k = i + 1
            · subst z; rw [if_pos rfl]; exact ⟨by omega, ‹_›⟩
            · rw [if_neg z]; exact hr k k1 (by omega)
          · rw [bodF_succ, if_pos rfl]
            congr 1
            exact bodF_congr fun k k1 k2 => (if_neg (by omega)).symm
        · cases h
    · rintro ⟨r, hr, rfl⟩
      have h0 : bodF i r ∈ X.firstN i := (firstN_mem i _).mpr ⟨r, fun k k1 k2 => hr k k1 (by omega), rfl⟩
      obtain ⟨a, b⟩ := hr (i + 1) (by omega) (by omega)
      rw [bodF_succ]
      rcases (show r (i + 1) = 0 ∨ r (i + 1) = 1 by omega) with e | e
      · rw [e] at b ⊢
        left
        rw [if_pos b]
        exact List.mem_map.mpr ⟨_, h0, rfl⟩
      · rw [e] at b ⊢
        right
        rw [if_pos b]
        exact List.mem_map.mpr ⟨_, h0, rfl⟩
theorem first_mem {x : Fau × List D} : x ∈ X.first ↔ X.okS 0 0 = true ∧ ∃ r : Nat → Nat, (∀ k, 1 ≤ k → k ≤ X.logs.length - 1 → r k ≤ 1 ∧ X.okS k (r k) = true) ∧ x = bodF (X.logs.length - 1) r := by
  unfold first
  split
  · rename_i h
    exact ⟨fun z => ⟨h, (firstN_mem _ x).mp z⟩, fun z => (firstN_mem _ x).mpr z.2⟩
  · rename_i h
    exact ⟨fun z => (List.not_mem_nil z).elim, fun z => (h z.1).elim⟩
theorem bodF_get {n : Nat} {r : Nat → Nat} {k : Nat} (hk : k ≤ n) : (bodF n r).2.getD k .non = .int (((if k = 0 then 0 else r k) : Nat) : Int) := by
  cases k with
  | zero => rfl
  | succ j =>
    show (D.int 0 :: (List.range n).map fun j => D.int ((r (j + 1) : Nat) : Int)).getD (j + 1) .non = _
    rw [List.getD_eq_getElem?_getD, List.getElem?_cons_succ, List.getElem?_map, List.getElem?_range (by omega)]
    simp
theorem bodF_len {n : Nat} {r : Nat → Nat} : (bodF n r).2.length = n + 1 := by simp [bodF]
structure XP (X : Exq) : Prop where
  mh : Mach ["taken", "lost"] X.hs
  ms : Mach ["done", "again"] X.ss
  h2 : 2 ≤ X.hs.length
  s1 : 1 ≤ X.ss.length
  l1 : 1 ≤ X.logs.length
def wX (k : Nat) : List Str := if k = 0 then ["done", "again"] else ["taken", "lost"]
theorem XP.m (h : XP X) (k : Nat) : Mach (wX k) (X.m k) := by
  unfold wX Exq.m
  split
  · exact h.ms
  · exact h.mh
structure Lo (X : Exq) (q : Mom) : Prop where
  len : q.2.1.length = X.logs.length
  pl : ∀ k, k < X.logs.length → plB (X.m k).length (wX k) (q.2.1.getD k .non) = true
  lg : ∀ k u, k < X.logs.length → X.log k = some u → ∃ s : Nat, s ≤ 1 ∧ X.okS k s = true ∧ q.2.1.getD k .non = runD (X.m k) (.int (s : Nat)) (u.take q.1)
theorem lgP_run (rs : List D) : ∀ (u : List Int) (pl : D) (a : Nat), lgP rs pl u = true → lgP rs (runD rs pl (u.take a)) (u.drop a) = true
  | [], pl, a, h => by simpa [runD] using h
  | b :: u, pl, 0, h => h
  | b :: u, pl, a + 1, h => by
    have h : (isRw pl && lgP rs (nxD rs pl b) u) = true := h
    rw [Bool.and_eq_true] at h
    exact lgP_run rs u (nxD rs pl b) a h.2
theorem Lo.drop {q : Mom} (h : Lo X q) {k : Nat} {u : List Int} (hk : k < X.logs.length) (e : X.log k = some u) : lgP (X.m k) (q.2.1.getD k .non) (u.drop q.1) = true := by
  obtain ⟨s, _, h2, h3⟩ := h.lg k u hk e
  unfold okS at h2
  rw [e] at h2
  rw [h3]
  exact lgP_run _ _ _ _ h2
theorem Lo.going {q : Mom} (h : Lo X q) {k : Nat} {u : List Int} (hk : k < X.logs.length) (e : X.log k = some u) : k ∈ going q.2.1 ↔ q.1 < u.length := by
  have := h.drop hk e
  rw [going_mem]
  by_cases ha : q.1 < u.length
  · rw [List.drop_eq_getElem_cons ha] at this
    have h : (isRw (q.2.1.getD k .non) && lgP _ _ _) = true := this
    rw [Bool.and_eq_true] at h
    exact ⟨fun _ => ha, fun _ => h.1⟩
  · rw [List.drop_eq_nil_of_le (by omega)] at this
    have h : (!isRw (q.2.1.getD k .non)) = true := this
    refine ⟨fun z => ?_, fun z => absurd z ha⟩
    rw [z] at h
    cases h
theorem Lo.lt {q : Mom} (h : Lo X q) {k : Nat} (hk : k ∈ Exq.going q.2.1) : k < X.logs.length := by
  rw [← h.len]
  by_cases z : k < q.2.1.length
  · exact z
  · rw [going_mem, getD_out (by omega)] at hk
    cases hk
theorem Re.lo (xp : XP X) {q : Mom} (h : X.Re q) : Lo X q := by
  induction h with
  | start hx =>
    obtain ⟨h0, r, hr, rfl⟩ := first_mem.mp hx
    have l1 := xp.l1
    refine ⟨by rw [bodF_len]; omega, fun k hk => ?_, fun k u hk e => ?_⟩
    · rw [bodF_get (by omega)]
      unfold Exq.m wX
      have h2 := xp.h2
      have s1 := xp.s1
      by_cases z : k = 0
      · subst z
        simp [plB]
        omega
      · rw [if_neg z, if_neg z, if_neg z]
        have := (hr k (by omega) (by omega)).1
        simp [plB]
        omega
    · rw [bodF_get (by omega)]
      by_cases z : k = 0
      · subst z
        exact ⟨0, by omega, h0, rfl⟩
      · rw [if_neg z]
        have := hr k (by omega) (by omega)
        exact ⟨r k, this.1, this.2, rfl⟩
  | @step q q' hq hg hn ih =>
    obtain ⟨x, hx, rfl⟩ := List.mem_map.mp hn
    obtain ⟨e, he, rfl⟩ := later_mem.mp hx
    refine ⟨by show (X.stepE _ _).length = _; rw [stepE_len]; exact ih.len, fun k hk => ?_, fun k u hk ek => ?_⟩
    · show plB _ _ ((X.stepE _ _).getD k .non) = true
      rw [stepE_get (by rw [ih.len]; exact hk)]
      split
      · exact nx_pl (xp.m k) (ih.pl k hk) _
      · exact ih.pl k hk
    · show ∃ s : Nat, s ≤ 1 ∧ _ ∧ (X.stepE _ _).getD k .non = runD _ _ (u.take (q.1 + 1))
      obtain ⟨s, s1, s2, s3⟩ := ih.lg k u hk ek
      refine ⟨s, s1, s2, ?_⟩
      rw [stepE_get (by rw [ih.len]; exact hk)]
      have hgo := ih.going hk ek
      by_cases ha : q.1 < u.length
      · have hm := hgo.mpr ha
        rw [if_pos (going_mem.mp hm), List.take_add_one, List.getElem?_eq_getElem ha, Option.toList_some, runD_snoc, ← s3]
        have := he k hm
        unfold ears at this
        rw [ek] at this
        rw [List.mem_singleton.mp this]
        congr 1
        rw [List.getD_eq_getElem?_getD, List.getElem?_eq_getElem ha]
        rfl
      · rw [if_neg (fun z => ha (hgo.mp (going_mem.mpr z))), s3, List.take_of_length_le (by omega), List.take_of_length_le (by omega)]
theorem long_foldl : ∀ (l : List (Option (List Int))) (a : Nat), a ≤ l.foldl (fun a l => match l with | none => a | some u => max a u.length) a ∧ ∀ u, some u ∈ l → u.length ≤ l.foldl (fun a l => match l with | none => a | some u => max a u.length) a
  | [], a => ⟨Nat.le_refl _, fun _ h => (List.not_mem_nil h).elim⟩
  | o :: l, a => by
    rw [List.foldl_cons]
    cases o with
    | none =>
      obtain ⟨h1, h2⟩ := long_foldl l a
      exact ⟨h1, fun u hu => h2 u (by simpa using hu)⟩
    | some v =>
      obtain ⟨h1, h2⟩ := long_foldl l (max a v.length)
      refine ⟨by dsimp only; omega, fun u hu => ?_⟩
      rcases List.mem_cons.mp hu with hu | hu
      · cases hu; dsimp only; omega
      · exact h2 u hu
theorem log_some {k : Nat} {u : List Int} (h : X.log k = some u) : some u ∈ X.logs := by
  unfold Exq.log at h
  cases e : X.logs[k]? with
  | none => rw [e] at h; cases h
  | some o => rw [e] at h; exact h ▸ List.mem_of_getElem? e
theorem log_long {k : Nat} {u : List Int} (h : X.log k = some u) : u.length ≤ X.long := (long_foldl X.logs 0).2 u (log_some h)
def PLk (X : Exq) (k : Nat) : List D := (List.range (X.m k).length).map (fun i => .int ((i : Nat) : Int)) ++ (wX k).map .str
theorem plk_mem {k : Nat} {d : D} (h : plB (X.m k).length (wX k) d = true) : d ∈ X.PLk k := by
  rcases plB_cases h with ⟨i, rfl, h0, h1⟩ | ⟨s, rfl, hs⟩
  · exact List.mem_append_left _ (List.mem_map.mpr ⟨i.toNat, List.mem_range.mpr (by omega), by congr 1; omega⟩)
  · exact List.mem_append_right _ (List.mem_map.mpr ⟨s, hs, rfl⟩)
theorem plk_len (k : Nat) : (X.PLk k).length = (X.m k).length + 2 := by
  unfold PLk wX
  split <;> simp
def prodL : List (List D) → List (List D)
  | [] => [[]]
  | c :: cs => c.flatMap fun d => (prodL cs).map (d :: ·)
theorem prodL_mem : ∀ {cs : List (List D)} {l : List D}, l.length = cs.length → (∀ (k : Nat) (c : List D), cs[k]? = some c → l.getD k .non ∈ c) → l ∈ prodL cs
  | [], [], _, _ => List.mem_singleton.mpr rfl
  | c :: cs, d :: l, hl, h => by
    refine List.mem_flatMap.mpr ⟨d, h 0 c rfl, List.mem_map.mpr ⟨l, prodL_mem (by simpa using hl) fun k c hk => ?_, rfl⟩⟩
    exact h (k + 1) c hk
def ppL (cs : List (List D)) : Nat := cs.foldr (fun c n => c.length * n) 1
theorem prodL_len : ∀ cs : List (List D), (prodL cs).length = ppL cs
  | [] => rfl
  | c :: cs => by
    rw [prodL, List.length_flatMap]
    have : (c.map fun d => ((prodL cs).map (d :: ·)).length) = List.replicate c.length (ppL cs) := by
      rw [List.eq_replicate_iff]
      refine ⟨by simp, fun n hn => ?_⟩
      obtain ⟨x, _, rfl⟩ := List.mem_map.mp hn
      simp [prodL_len cs]
    rw [this, List.sum_replicate_nat]
    rfl
/-- as many choices for each station: few for those with a log, many for the others -/
theorem ppL_le (X : Exq) (few many : Nat) (f : Nat → List D) : ∀ gs : List Nat, (∀ k ∈ gs, (f k).length ≤ if (X.log k).isNone then many else few) → ppL (gs.map f) ≤ few ^ (gs.filter fun k => !(X.log k).isNone).length * many ^ (gs.filter fun k => (X.log k).isNone).length
  | [], _ => Nat.le_refl _
  | k :: t, h => by
    have ih := ppL_le X few many f t fun j hj => h j (List.mem_cons_of_mem _ hj)
    have hk := h k List.mem_cons_self
    show (f k).length * ppL (t.map f) ≤ _
    refine Nat.le_trans (Nat.mul_le_mul hk ih) ?_
    rw [List.filter_cons, List.filter_cons]
    cases (X.log k).isNone with
    | true =>
      simp only [if_true, Bool.not_true, Bool.false_eq_true, if_false, List.length_cons, Nat.pow_succ]
      rw [Nat.mul_left_comm]
      exact Nat.mul_le_mul_left _ (by rw [Nat.mul_comm]; exact Nat.le_refl _)
    | false =>
      simp only [Bool.false_eq_true, if_false, Bool.not_false, if_true, List.length_cons, Nat.pow_succ]
      rw [← Nat.mul_assoc]
      exact Nat.mul_le_mul_right _ (by rw [Nat.mul_comm]; exact Nat.le_refl _)
def wid (X : Exq) : Nat := max X.hs.length X.ss.length + 2
theorem plk_wid (k : Nat) : (X.PLk k).length ≤ X.wid := by
  rw [plk_len]
  unfold wid Exq.m
  split <;> omega
def nl (X : Exq) : Nat := ((List.range X.logs.length).filter fun k => !(X.log k).isNone).length
structure Fits (X : Exq) (ps c : List D) : Prop where
  len : c.length = X.logs.length
  eq : ∀ k, k < X.logs.length → (X.log k).isNone = false → c.getD k .non = ps.getD k .non
  pl : ∀ k, k < X.logs.length → plB (X.m k).length (wX k) (c.getD k .non) = true
def ChE (X : Exq) (kn : List (Nat × List D)) (q : Mom) : Prop := X.long ≤ q.1 → ∃ cs : List (List D), cs.Nodup ∧ cs.length = q.1 - X.long ∧ ∀ c ∈ cs, (X.long, c) ∈ kn ∧ Fits X q.2.1 c
theorem ChE.mono {kn kn' : List (Nat × List D)} {q : Mom} (h : ChE X kn q) (s : ∀ m ∈ kn, m ∈ kn') : ChE X kn' q := fun hl => by
  obtain ⟨cs, h1, h2, h3⟩ := h hl
  exact ⟨cs, h1, h2, fun c hc => ⟨s _ (h3 c hc).1, (h3 c hc).2⟩⟩
theorem ChE.le {kn : List (Nat × List D)} {q : Mom} (h : ChE X kn q) : q.1 ≤ X.long + X.wid ^ X.nn := by
  by_cases hl : X.long ≤ q.1
  · obtain ⟨cs, h1, h2, h3⟩ := h hl
    have := nd_len (L := prodL ((List.range X.logs.length).map fun k => if (X.log k).isNone then X.PLk k else [q.2.1.getD k .non])) h1 fun c hc => by
      have f := (h3 c hc).2
      refine prodL_mem (by simp [f.len]) fun k c' hk => ?_
      rw [List.getElem?_map] at hk
      obtain ⟨j, hj, rfl⟩ := Option.map_eq_some_iff.mp hk
      obtain ⟨hj1, hj2⟩ := List.getElem?_eq_some_iff.mp hj
      rw [List.getElem_range] at hj2
      subst hj2
      rw [List.length_range] at hj1
      cases e : (X.log k).isNone with
      | true => rw [if_pos rfl]; exact plk_mem (f.pl k hj1)
      | false => rw [if_neg (by decide)]; exact List.mem_singleton.mpr (f.eq k hj1 e)
    rw [prodL_len] at this
    have l2 := ppL_le X 1 X.wid (fun k => if (X.log k).isNone then X.PLk k else [q.2.1.getD k .non]) (List.range X.logs.length) fun k _ => by
      cases (X.log k).isNone with
      | true => rw [if_pos rfl, if_pos rfl]; exact plk_wid k
      | false => rw [if_neg (by decide), if_neg (by decide)]; exact Nat.le_refl _
    rw [Nat.one_pow, Nat.one_mul] at l2
    have l3 : cs.length ≤ X.wid ^ X.nn := Nat.le_trans this l2
    omega
  · omega
theorem ChE.step (xp : XP X) {kn kn' : List (Nat × List D)} {q q' : Mom} (hq : X.Re q) (h : ChE X kn q) (hn : q' ∈ X.next q) (hnew : X.mark q ∉ kn) (s : ∀ m ∈ kn, m ∈ kn') (hm : X.mark q ∈ kn') : ChE X kn' q' := by
  obtain ⟨x, hx, rfl⟩ := List.mem_map.mp hn
  obtain ⟨e, he, rfl⟩ := later_mem.mp hx
  have lo := Re.lo xp hq
  intro hl
  have hl : X.long ≤ q.1 + 1 := hl
  by_cases hq1 : X.long ≤ q.1
  · obtain ⟨cs, h1, h2, h3⟩ := h hq1
    have em : X.mark q = (X.long, q.2.1) := by
      unfold mark
      rw [Nat.min_eq_right hq1]
    have keq : ∀ k, k < X.logs.length → (X.log k).isNone = false → (X.stepE q.2.1 e).getD k .non = q.2.1.getD k .non := fun k hk hs => by
      cases el : X.log k with
      | none => rw [el] at hs; cases hs
      | some u =>
        have := log_long el
        rw [stepE_get (by rw [lo.len]; exact hk), if_neg]
        intro z
        have := (lo.going hk el).mp (going_mem.mpr z)
        omega
    refine ⟨q.2.1 :: cs, List.nodup_cons.mpr ⟨fun z => hnew ?_, h1⟩, by show cs.length + 1 = q.1 + 1 - X.long; omega, fun c hc => ?_⟩
    · rw [em]; exact (h3 _ z).1
    · rcases List.mem_cons.mp hc with rfl | hc
      · exact ⟨em ▸ hm, lo.len, fun k hk hs => (keq k hk hs).symm, lo.pl⟩
      · obtain ⟨a, b⟩ := h3 c hc
        exact ⟨s _ a, b.len, fun k hk hs => (b.eq k hk hs).trans (keq k hk hs).symm, b.pl⟩
  · exact ⟨[], List.nodup_nil, by show 0 = q.1 + 1 - X.long; omega, fun c hc => (List.not_mem_nil hc).elim⟩
theorem ChE.start {kn : List (Nat × List D)} {ps : List D} {f : Fau} : ChE X kn (0, ps, f) := fun hl => ⟨[], List.nodup_nil, by show 0 = 0 - X.long; omega, fun c hc => (List.not_mem_nil hc).elim⟩
def flen (q : Mom) : Nat := q.2.2.length
def putL (lv : List (List Mom)) (e : Mom) : List (List Mom) := (lv ++ List.replicate (flen e + 1 - lv.length) []).set (flen e) (lv.getD (flen e) [] ++ [e])
theorem ext_get (lv : List (List Mom)) (n k : Nat) : (lv ++ List.replicate n []).getD k [] = lv.getD k [] := by
  rw [List.getD_eq_getElem?_getD, List.getD_eq_getElem?_getD]
  by_cases h : k < lv.length
  · rw [List.getElem?_append_left h]
  · rw [List.getElem?_append_right (by omega), List.getElem?_eq_none (l := lv) (by omega), List.getElem?_replicate]
    split <;> rfl
theorem putL_get (lv : List (List Mom)) (e : Mom) (k : Nat) : (putL lv e).getD k [] = if k = flen e then lv.getD k [] ++ [e] else lv.getD k [] := by
  unfold putL
  rw [List.getD_eq_getElem?_getD, List.getElem?_set]
  by_cases h : flen e = k
  · subst h
    rw [if_pos rfl, if_pos rfl, if_pos (by rw [List.length_append, List.length_replicate]; omega)]
    rfl
  · rw [if_neg h, if_neg (Ne.symm h), ← List.getD_eq_getElem?_getD, ext_get]
def Ent (lv : List (List Mom)) (e : Mom) : Prop := e ∈ lv.getD (flen e) []
theorem Ent.put {lv : List (List Mom)} {e : Mom} (h : Ent lv e) (e' : Mom) : Ent (putL lv e') e := by
  unfold Ent
  rw [putL_get]
  split
  · exact List.mem_append_left _ h
  · exact h
theorem Ent.self (lv : List (List Mom)) (e : Mom) : Ent (putL lv e) e := by
  unfold Ent
  rw [putL_get, if_pos rfl]
  exact List.mem_append_right _ List.mem_cons_self
structure Rep (X : Exq) (lv : List (List Mom)) (e : Mom) : Prop where
  re : X.Re e
  go : going e.2.1 ≠ []
  lt : e.1 < 5000
  nx : ∀ e' ∈ X.next e, Ent lv e'
theorem Rep.put {lv : List (List Mom)} {e : Mom} (h : Rep X lv e) (e' : Mom) : Rep X (putL lv e') e := ⟨h.re, h.go, h.lt, fun x hx => (h.nx x hx).put e'⟩
/-- what holds while the search goes on: lv the levels, kn the marks whose moments are done, kn' all marks; the levels below num are done, and spot moments of this level -/
structure SI (X : Exq) (lv : List (List Mom)) (kn kn' : List (Nat × List D)) (num spot : Nat) : Prop where
  en : ∀ k, ∀ e ∈ lv.getD k [], X.Re e ∧ flen e = k ∧ ChE X kn' e
  fst : ∀ x ∈ X.first, Ent lv (0, x.2, x.1)
  nd : kn.Nodup
  rep : ∀ m ∈ kn, ∃ e, Rep X lv e ∧ X.mark e = m ∧ flen e ≤ num
  don : ∀ (k i : Nat) (e : Mom), (lv.getD k [])[i]? = some e → (k < num ∨ k = num ∧ i < spot) → ∃ r, Rep X lv r ∧ X.mark r = X.mark e ∧ flen r ≤ flen e
variable {lv : List (List Mom)} {kn kn' : List (Nat × List D)} {num spot : Nat}
/-- a moment that is put is of this level or a later one -/
theorem SI.put (h : SI X lv kn kn' num spot) {e : Mom} (he : X.Re e) (hc : ChE X kn' e) (hf : num ≤ flen e) (hs : spot ≤ (lv.getD num []).length) : SI X (putL lv e) kn kn' num spot := by
  refine ⟨fun k x hx => ?_, fun x hx => (h.fst x hx).put e, h.nd, fun m hm => ?_, fun k i x hx hd => ?_⟩
  · rw [putL_get] at hx
    split at hx
    · rename_i z
      rcases List.mem_append.mp hx with hx | hx
      · exact h.en k x hx
      · rw [List.mem_singleton.mp hx]; exact ⟨he, z.symm, hc⟩
    · exact h.en k x hx
  · obtain ⟨r, r1, r2, r3⟩ := h.rep m hm
    exact ⟨r, r1.put e, r2, r3⟩
  · have : (lv.getD k [])[i]? = some x := by
      rw [putL_get] at hx
      split at hx
      · rename_i z
        rcases hd with hd | ⟨hd, hi⟩
        · omega
        · subst hd
          rw [List.getElem?_append_left (by omega)] at hx
          exact hx
      · exact hx
    obtain ⟨r, r1, r2, r3⟩ := h.don k i x this hd
    exact ⟨r, r1.put e, r2, r3⟩
/-- a moment whose mark is new, when all that follow it are put -/
theorem SI.new {e : Mom} (h : SI X lv kn (kn ++ [X.mark e]) num spot) (he : (lv.getD num [])[spot]? = some e) (hm : X.mark e ∉ kn) (hg : going e.2.1 ≠ []) (hl : e.1 < 5000) (hn : ∀ e' ∈ X.next e, Ent lv e') : SI X lv (kn ++ [X.mark e]) (kn ++ [X.mark e]) num (spot + 1) := by
  have hen := h.en num e (List.mem_of_getElem? he)
  have hr : Rep X lv e := ⟨hen.1, hg, hl, hn⟩
  refine ⟨h.en, h.fst, ?_, fun m hm' => ?_, fun k i x hx hd => ?_⟩
  · rw [List.nodup_append]
    exact ⟨h.nd, by simp, fun a ha b hb z => hm (by rw [List.mem_singleton.mp hb] at z; exact z ▸ ha)⟩
  · rcases List.mem_append.mp hm' with hm' | hm'
    · exact h.rep m hm'
    · exact ⟨e, hr, (List.mem_singleton.mp hm').symm, by rw [hen.2.1]; exact Nat.le_refl _⟩
  · rcases hd with hd | ⟨rfl, hi⟩
    · exact h.don k i x hx (.inl hd)
    · by_cases z : i < spot
      · exact h.don k i x hx (.inr ⟨rfl, z⟩)
      · obtain rfl : i = spot := by omega
        rw [he] at hx
        cases hx
        exact ⟨e, hr, rfl, Nat.le_refl _⟩
theorem ent_at {e : Mom} (h : Ent lv e) : ∃ i : Nat, (lv.getD (flen e) [])[i]? = some e := List.mem_iff_getElem?.mp h
/-- each moment that can come about is done, or has as many faults as the level -/
theorem SI.all (xp : XP X) (h : SI X lv kn kn' num spot) {q : Mom} (hq : X.Re q) : (∃ r, Rep X lv r ∧ X.mark r = X.mark q ∧ flen r ≤ flen q) ∨ num ≤ flen q ∧ ∃ (k i : Nat) (e : Mom), (lv.getD k [])[i]? = some e ∧ num ≤ k ∧ (k = num → spot ≤ i) := by
  have ent : ∀ e, Ent lv e → (∃ r, Rep X lv r ∧ X.mark r = X.mark e ∧ flen r ≤ flen e) ∨ num ≤ flen e ∧ ∃ (k i : Nat) (e : Mom), (lv.getD k [])[i]? = some e ∧ num ≤ k ∧ (k = num → spot ≤ i) := fun e he => by
    obtain ⟨i, hi⟩ := ent_at he
    by_cases z : flen e < num ∨ flen e = num ∧ i < spot
    · exact .inl (h.don _ i e hi z)
    · exact .inr ⟨by omega, flen e, i, e, hi, by omega, fun z2 => by omega⟩
  induction hq with
  | start hx => exact ent _ (h.fst _ hx)
  | @step q q' hq hg hn ih =>
    obtain ⟨x, hx, rfl⟩ := List.mem_map.mp hn
    have le : flen q ≤ flen (nxt q.1 q.2.2 x) := by
      unfold flen nxt
      rw [List.length_append]
      omega
    rcases ih with ⟨r, r1, r2, r3⟩ | ⟨h1, h2⟩
    · have lo := Re.lo xp hq
      have e2 : r.2.1 = q.2.1 := congrArg Prod.snd r2
      have e1 : min r.1 X.long = min q.1 X.long := congrArg Prod.fst r2
      have hx' : x ∈ X.later r.1 r.2.1 := by
        rw [e2]
        obtain ⟨e, he, rfl⟩ := later_mem.mp hx
        refine later_mem.mpr ⟨e, fun k hk => ?_, rfl⟩
        have := he k hk
        unfold ears at this ⊢
        cases el : X.log k with
        | none =>
          rw [el] at this
          dsimp only at this ⊢
          rw [if_pos r1.lt]
          split at this
          · exact this
          · rw [List.mem_singleton.mp this]; exact List.mem_cons_self
        | some u =>
          rw [el] at this
          have h3 := (lo.going (lo.lt hk) el).mp hk
          have h4 := log_long el
          rw [show r.1 = q.1 by omega]
          exact this
      have hm : nxt r.1 r.2.2 x ∈ X.next r := List.mem_map.mpr ⟨x, hx', rfl⟩
      have lf : flen (nxt r.1 r.2.2 x) ≤ flen (nxt q.1 q.2.2 x) := by
        unfold flen nxt at *
        rw [List.length_append, List.length_append, List.length_map, List.length_map]
        omega
      have mk : X.mark (nxt r.1 r.2.2 x) = X.mark (nxt q.1 q.2.2 x) := by
        unfold mark nxt
        dsimp only
        congr 1
        omega
      rcases ent _ (r1.nx _ hm) with ⟨s, s1, s2, s3⟩ | ⟨s1, s2⟩
      · exact .inl ⟨s, s1, s2.trans mk, by omega⟩
      · exact .inr ⟨by omega, s2⟩
    · exact .inr ⟨by omega, h2⟩
/-- the first moments are put -/
theorem SI.start (h1 : ∀ k, ∀ e ∈ lv.getD k [], X.Re e ∧ flen e = k ∧ ChE X [] e) (h2 : ∀ x ∈ X.first, Ent lv (0, x.2, x.1)) : SI X lv [] [] 0 0 :=
  ⟨h1, h2, List.nodup_nil, fun m hm => (List.not_mem_nil hm).elim, fun k i e _ hd => by omega⟩
/-- an answer -/
inductive Ans (X : Exq) : Option Fau → Prop
  | no : (∀ q, X.Re q → going q.2.1 ≠ []) → Ans X none
  | yes {q : Mom} : X.Re q → going q.2.1 = [] → (∀ q', X.Re q' → going q'.2.1 = [] → flen q ≤ flen q') → Ans X (some q.2.2)
theorem SI.none (xp : XP X) (h : SI X lv kn kn' num 0) (hl : lv.length ≤ num) : Ans X none := by
  refine .no fun q hq hr => ?_
  rcases h.all xp hq with ⟨r, r1, r2, _⟩ | ⟨_, k, i, e, he, hk, _⟩
  · have e2 : r.2.1 = q.2.1 := congrArg Prod.snd r2
    exact absurd (e2 ▸ hr) r1.go
  · rw [getD_out (by omega)] at he
    cases he
/-- how many faults there are -/
theorem Re.flen_le {q : Mom} (xp : XP X) (h : X.Re q) : flen q ≤ X.logs.length * (q.1 + 1) := by
  induction h with
  | start hx =>
    obtain ⟨_, r, _, rfl⟩ := first_mem.mp hx
    show (List.map _ _).length ≤ _ * 1
    rw [List.length_map, Nat.mul_one]
    have := List.length_filter_le (fun k => decide (r k = 1)) ((List.range (X.logs.length - 1)).map (· + 1))
    rw [List.length_map, List.length_range] at this
    omega
  | @step q q' hq hg hn ih =>
    obtain ⟨x, hx, rfl⟩ := List.mem_map.mp hn
    obtain ⟨e, he, rfl⟩ := later_mem.mp hx
    show (q.2.2 ++ ((going q.2.1).filter (fun k => decide (e k ≠ X.line q.2.1))).map _).length ≤ _ * (q.1 + 1 + 1)
    rw [List.length_append, List.length_map, Nat.mul_succ _ (q.1 + 1)]
    have h1 := List.length_filter_le (fun k => decide (e k ≠ X.line q.2.1)) (going q.2.1)
    have h2 := List.length_filter_le (fun k => isRw (q.2.1.getD k .non)) (List.range q.2.1.length)
    rw [List.length_range, (Re.lo xp hq).len] at h2
    have h3 : q.2.2.length ≤ X.logs.length * (q.1 + 1) := ih
    have h4 : (going q.2.1).length ≤ X.logs.length := by
      unfold going
      rw [(Re.lo xp hq).len]
      exact h2
    omega
theorem SI.len (xp : XP X) (h : SI X lv kn kn' num spot) {b : Nat} (hb : X.long + X.wid ^ X.nn ≤ b) {k : Nat} {e : Mom} (he : e ∈ lv.getD k []) : flen e ≤ X.logs.length * (b + 1) := by
  obtain ⟨h1, _, h3⟩ := h.en k e he
  refine Nat.le_trans (Re.flen_le xp h1) (Nat.mul_le_mul_left _ ?_)
  have := h3.le
  omega
end Exq
end DL
set_option Elab.async false
set_option linter.all false
set_option maxRecDepth 100000
set_option maxHeartbeats 4000000
namespace DL
open PySem PySem.Spec PyProof.Rows L2
end DL
set_option Elab.async false
set_option linter.all false
set_option maxRecDepth 100000
set_option maxHeartbeats 4000000
namespace DL
open PySem PySem.Spec PyProof.Rows L2
namespace Exq
variable {X : Exq}
def addAll (lv : List (List Mom)) (es : List Mom) : List (List Mom) := es.foldl putL lv
def momF (x : Fau × List D) : Mom := (0, x.2, x.1)
def lv0 (X : Exq) : List (List Mom) := addAll [] (X.first.map momF)
abbrev S4 := List (List Mom) × List (Nat × List D) × Nat × Nat
open Classical in
noncomputable def stp (X : Exq) : S4 ⊕ Option Fau → S4 ⊕ Option Fau
  | .inr r => .inr r
  | .inl (lv, kn, num, spot) => if num < lv.length then match (lv.getD num [])[spot]? with
    | none => .inl (lv, kn, num + 1, 0)
    | some e => if going e.2.1 = [] then .inr (some e.2.2) else if X.mark e ∈ kn then .inl (lv, kn, num, spot + 1) else .inl (addAll lv (X.next e), kn ++ [X.mark e], num, spot + 1)
    else .inr none
noncomputable def itr (X : Exq) : Nat → S4 ⊕ Option Fau
  | 0 => .inl (X.lv0, [], 0, 0)
  | n + 1 => X.stp (itr X n)
/-- a state of the search, and its answer -/
def StS (X : Exq) (s : S4) : Prop := ∃ n, X.itr n = .inl s
def Out (X : Exq) (r : Option Fau) : Prop := ∃ n, X.itr n = .inr r
variable {lv : List (List Mom)} {kn : List (Nat × List D)} {num spot : Nat} {e : Mom}
theorem StS.start : StS X (X.lv0, [], 0, 0) := ⟨0, rfl⟩
theorem StS.new (h : StS X (lv, kn, num, spot)) (hn : num < lv.length) (he : (lv.getD num [])[spot]? = some e) (hg : going e.2.1 ≠ []) (hk : X.mark e ∉ kn) : StS X (addAll lv (X.next e), kn ++ [X.mark e], num, spot + 1) := by
  obtain ⟨n, h⟩ := h
  refine ⟨n + 1, ?_⟩
  show X.stp (X.itr n) = _
  rw [h]
  simp only [stp]
  rw [if_pos hn, he]
  dsimp only
  rw [if_neg hg, if_neg hk]
theorem StS.none (h : StS X (lv, kn, num, spot)) (hn : lv.length ≤ num) : Out X none := by
  obtain ⟨n, h⟩ := h
  refine ⟨n + 1, ?_⟩
  show X.stp (X.itr n) = _
  rw [h]
  simp only [stp]
  rw [if_neg (by omega)]
def lgU (X : Exq) (k : Nat) : List Int := (X.log k).getD []
/-- bodies that fit all logs -/
structure BodOk (X : Exq) (r : Nat → Nat) : Prop where
  r0 : r 0 = 0
  ok : ∀ k, k < X.logs.length → r k ≤ 1 ∧ X.okS k (r k) = true
theorem BodOk.first (l1 : 1 ≤ X.logs.length) {r : Nat → Nat} (h : BodOk X r) : bodF (X.logs.length - 1) r ∈ X.first := by
  have h0 := (h.ok 0 (by omega)).2
  rw [h.r0] at h0
  exact first_mem.mpr ⟨h0, r, fun k k1 k2 => h.ok k (by omega), rfl⟩
def rest (X : Exq) (t : Nat) : Prop := ∀ k, k < X.logs.length → (X.lgU k).length ≤ t
def drop (X : Exq) (j : Nat) : Exq := ⟨X.hs, X.ss, X.logs.set j none⟩
end Exq
end DL
set_option Elab.async false
set_option linter.all false
set_option maxRecDepth 100000
set_option maxHeartbeats 4000000
namespace DL
open PySem PySem.Spec PyProof.Rows L2
namespace Exq
variable {X : Exq} {F : Fau} {n : Nat}
def bodP (F : Fau) (n : Nat) : List D := .int 0 :: (List.range (n - 1)).map fun j => if (((0 : Int), ((j + 1 : Nat) : Int)) : Int × Int) ∈ F then D.int 1 else .int 0
def earF (X : Exq) (F : Fau) (t : Nat) (ps : List D) (k : Nat) : Int := if ((((t + 1 : Nat) : Int), ((k : Nat) : Int)) : Int × Int) ∈ F then 1 - X.line ps else X.line ps
def runF (X : Exq) (F : Fau) (n : Nat) : Nat → List D
  | 0 => bodP F n
  | t + 1 => X.stepE (runF X F n t) (X.earF F t (runF X F n t))
/-- a sending with these faults, all of them possible, ends behind T bits -/
structure Snt (X : Exq) (F : Fau) (n T : Nat) : Prop where
  go : ∀ t, t < T → going (runF X F n t) ≠ []
  rest : going (runF X F n T) = []
  pos : ∀ p ∈ F, (p.1 = 0 ∧ p.2 ≠ 0) ∨ ∃ t k : Nat, t < T ∧ p = ((((t + 1 : Nat) : Int), ((k : Nat) : Int)) : Int × Int) ∧ k ∈ going (runF X F n t)
def lateF (F : Fau) (t : Nat) : Fau := F.filter fun p => decide ((t : Int) < p.1)
theorem lateF_nil {t : Nat} : lateF F t = [] ↔ ∀ p ∈ F, p.1 ≤ (t : Int) := by
  unfold lateF
  rw [List.filter_eq_nil_iff]
  refine ⟨fun h p hp => ?_, fun h p hp => ?_⟩
  · have := h p hp
    simp at this
    exact this
  · have := h p hp
    simp
    exact this
/-- the places that were seen when no fault was left -/
def sqF (X : Exq) (F : Fau) (n t : Nat) : List (List D) := ((List.range t).filter fun s => (lateF F s).isEmpty).map (runF X F n)
theorem sqF_succ (t : Nat) : sqF X F n (t + 1) = sqF X F n t ++ if (lateF F t).isEmpty then [runF X F n t] else [] := by
  unfold sqF
  rw [List.range_succ, List.filter_append, List.map_append, List.filter_cons, List.filter_nil]
  split <;> rfl
/-- what held until now -/
structure SoFar (X : Exq) (F : Fau) (n t : Nat) : Prop where
  z : (((0 : Int), (0 : Int)) : Int × Int) ∉ F
  go : ∀ s, s < t → going (runF X F n s) ≠ []
  pos : ∀ p ∈ F, 1 ≤ p.1 → p.1 ≤ (t : Int) → ∃ s k : Nat, s < t ∧ p = ((((s + 1 : Nat) : Int), ((k : Nat) : Int)) : Int × Int) ∧ k ∈ going (runF X F n s)
  nd : (sqF X F n t).Nodup
theorem Snt.after {T t : Nat} (h : Snt X F n T) (hg : ∀ s, s ≤ t → going (runF X F n s) ≠ []) : t < T := Nat.lt_of_not_le fun z => hg T z h.rest
theorem SoFar.ends {t : Nat} (h : SoFar X F n t) (h0 : ∀ p ∈ F, 0 ≤ p.1 ∧ 0 ≤ p.2) (hr : going (runF X F n t) = []) (hl : lateF F t = []) : Snt X F n t := by
  refine ⟨h.go, hr, fun p hp => ?_⟩
  have h1 := lateF_nil.mp hl p hp
  obtain ⟨h2, h3⟩ := h0 p hp
  by_cases z : p.1 = 0
  · refine .inl ⟨z, fun y => h.z ?_⟩
    obtain ⟨a, b⟩ := p
    dsimp only at z y
    rw [z, y] at hp
    exact hp
  · exact .inr (h.pos p hp (by omega) h1)
theorem SoFar.next {t : Nat} (h : SoFar X F n t) (h0 : ∀ p ∈ F, 0 ≤ p.2) (hg : going (runF X F n t) ≠ []) (hnew : lateF F t = [] → runF X F n t ∉ sqF X F n t) (hb : ∀ k : Nat, ((((t + 1 : Nat) : Int), ((k : Nat) : Int)) : Int × Int) ∈ F → k ∈ going (runF X F n t)) : SoFar X F n (t + 1) := by
  refine ⟨h.z, fun s hs => ?_, fun p hp h1 h2 => ?_, ?_⟩
  · by_cases z : s = t
    · rw [z]; exact hg
    · exact h.go s (by omega)
  · by_cases z : p.1 ≤ (t : Int)
    · obtain ⟨s, k, a, b, c⟩ := h.pos p hp h1 z
      exact ⟨s, k, by omega, b, c⟩
    · obtain ⟨a, b⟩ := p
      dsimp only at h1 h2 z
      have := h0 _ hp
      dsimp only at this
      obtain ⟨k, rfl⟩ := Int.eq_ofNat_of_zero_le this
      obtain rfl : a = ((t + 1 : Nat) : Int) := by omega
      exact ⟨t, k, by omega, rfl, hb k hp⟩
  · rw [sqF_succ]
    cases hl : (lateF F t).isEmpty with
    | false => rw [if_neg (by decide), List.append_nil]; exact h.nd
    | true =>
      rw [if_pos rfl, List.nodup_append]
      refine ⟨h.nd, by simp, fun a ha b hb z => ?_⟩
      rw [List.mem_singleton.mp hb] at z
      exact hnew (List.isEmpty_iff.mp hl) (z ▸ ha)
end Exq
end DL
set_option Elab.async false
set_option linter.all false
set_option maxRecDepth 100000
set_option maxHeartbeats 4000000
namespace DL
open PySem PySem.Spec PyProof.Rows L2
end DL
set_option Elab.async false
set_option linter.all false
set_option maxRecDepth 100000
set_option maxHeartbeats 4000000
namespace DL
open PySem PySem.Spec PyProof.Rows L2
end DL
set_option Elab.async false
set_option linter.all false
set_option maxRecDepth 100000
set_option maxHeartbeats 4000000
namespace DL
open PySem PySem.Spec PyProof.Rows L2
end DL
set_option Elab.async false
set_option linter.all false
set_option maxRecDepth 100000
set_option maxHeartbeats 4000000
namespace DL
open PySem PySem.Spec PyProof.Rows L2
end DL
set_option Elab.async false
set_option linter.all false
set_option maxRecDepth 100000
set_option maxHeartbeats 4000000
namespace DL
open PySem PySem.Spec PyProof.Rows L2
/-- what is left behind a clause's tests: c bounds the length of the list so far, k is told what comes to it -/
abbrev DB := Env → Ow → Nat → (List D → Ow → Prop) → Prop
def lcN (g : DTG) (tt : DTT) (db : DB) (Gd : Ow → Prop) : Nat → List D → Env → Ow → (List D → Ow → Prop) → Prop
  | _, [], _, O, q => Gd O ∧ q [] O
  | c, x :: xs, env, O, q => Gd O ∧ g x env O fun env2 _ => tt env2 O fun b O3 => if b = true then db env2 O3 c fun zs O5 => ∃ o2, SubO o2 O5 ∧ lcN g tt db Gd (c + zs.length) xs env o2 fun ws O6 => q (zs ++ ws) O6
    else ∃ o2, SubO o2 O3 ∧ lcN g tt db Gd c xs env o2 q
def dLcN (wi : DTI) (g : DTG) (tt : DTT) (vs : List Nat) (db : DB) : DTE := fun env O q => wi env O fun xs Gd O1 => lcN g tt db Gd 0 xs (wipeD env vs) O1 fun ys O2 => q (.lst ys) O2
theorem i_lcN {wi : DTI} {g : DTG} {tt : DTT} {db : DB} {vs : List Nat} {env : Env} {O : Ow} {q : DQ} (h : wi env O fun xs Gd O1 => lcN g tt db Gd 0 xs (wipeD env vs) O1 fun ys O2 => q (.lst ys) O2) : dLcN wi g tt vs db env O q := h
end DL
set_option Elab.async false
set_option linter.all false
set_option maxRecDepth 100000
set_option maxHeartbeats 4000000
namespace DL
open PySem PySem.Spec PyProof.Rows L2
variable {X : Cx} {B : Bd} {pos p apos : Pos} {k : Nat} {wx : DW} {a e : Expr} {to : DTE} {tA : DTA} {env : Env} {O : Ow} {q : DQ}
def remK2 (p : Addr) (ns : List Int) (q : DQ) : List D → Ow → Prop := fun ds O2 => match ds with
  | [.int k] => O2 p = some (.lst (ns.map D.int)) ∧ k ∈ ns ∧ q .non (setO O2 p (.lst ((ns.erase k).map D.int)))
  | _ => False
def remK (tA : DTA) (env : Env) (q : DQ) : DQ := fun x O1 => match x with
  | .ref p => ∃ ns : List Int, O1 p = some (.lst (ns.map D.int)) ∧ tA env O1 (remK2 p ns q)
  | _ => False
def dRem (to : DTE) (tA : DTA) : DTE := fun env O q => to env O (remK tA env q)
theorem i_rem (h : to env O (remK tA env q)) : dRem to tA env O q := h
end DL
set_option Elab.async false
set_option linter.all false
set_option maxRecDepth 100000
set_option maxHeartbeats 4000000
namespace DL
open PySem PySem.Spec PyProof.Rows L2 PpSet
def dScT (isK : D → Prop) (wi : DTI) (g : DTG) (tt : DTT) (te : DTE) (vs : List Nat) : DTZ := fun env O q => wi env O fun xs Gd O1 => xs.length < 63 ∧ lcGo g tt (dKey isK te) Gd xs (wipeD env vs) O1 q
theorem i_scT {isK : D → Prop} {wi : DTI} {g : DTG} {tt : DTT} {te : DTE} {vs : List Nat} {env : Env} {O : Ow} {qz : List D → Ow → Prop} (h : wi env O fun xs Gd O1 => xs.length < 63 ∧ lcGo g tt (dKey isK te) Gd xs (wipeD env vs) O1 qz) : dScT isK wi g tt te vs env O qz := h
end DL
set_option Elab.async false
set_option linter.all false
set_option maxRecDepth 100000
set_option maxHeartbeats 4000000
namespace DL
open PySem PySem.Spec PyProof.Rows L2 PpSet
section
variable {X : Cx} {B : Bd} {e : Expr} {t : DTZ} {p pos : Pos} {k : Nat} {wx : DW} {te : DTE}
def dSortZT (t : DTZ) : DTE := fun env O q => t env O fun ys O1 => ∀ zs : List D, zs.Nodup → (∀ d, d ∈ zs ↔ d ∈ ys) → pds zs = true ∧ PySem.W.AllAlike (zs.map py) ∧ (∀ d, d ∈ zs → ∃ xs, d = D.tup xs) ∧ (∀ e ∈ zs, (py e).depth ≤ 64) ∧ q (.lst (srtD zs)) O1
theorem i_sortZT {env : Env} {O : Ow} {q : DQ} (h : t env O fun ys O1 => ∀ zs : List D, zs.Nodup → (∀ d, d ∈ zs ↔ d ∈ ys) → pds zs = true ∧ PySem.W.AllAlike (zs.map py) ∧ (∀ d, d ∈ zs → ∃ xs, d = D.tup xs) ∧ (∀ e ∈ zs, (py e).depth ≤ 64) ∧ q (.lst (srtD zs)) O1) : dSortZT t env O q := h
end
end DL
set_option Elab.async false
set_option linter.all false
set_option maxRecDepth 100000
set_option maxHeartbeats 4000000
namespace DL
open PySem PySem.Spec PyProof.Rows L2
section
variable {X : Cx} {B : Bd} {pos : Pos}
def dcGoN (g : DTG) (tt : DTT) (tk tv : DTE) (Gd : Ow → Prop) : List D → Env → List (D × D) → Ow → (List (D × D) → Ow → Prop) → Prop
  | [], _, acc, O, q => Gd O ∧ q acc O
  | x :: xs, env, acc, O, q => Gd O ∧ g x env O fun env2 _ => tt env2 O fun b O3 => if b = true then tk env2 O3 fun y O4 => tv env2 O4 fun z O5 => ∃ n ds o2, y = .tup ds ∧ nkey y = some n ∧ n.depth ≤ 8 ∧ acc.length < sizeLine ∧ SubO o2 O5 ∧ dcGoN g tt tk tv Gd xs env (putNk acc y n z) o2 q else ∃ o2, SubO o2 O3 ∧ dcGoN g tt tk tv Gd xs env acc o2 q
def dDcN (w : World) (wi : DTI) (g : DTG) (tt : DTT) (tk tv : DTE) (vs : List Nat) : DTE := fun env O q => wi env O fun xs Gd O1 => dcGoN g tt tk tv Gd xs (wipeD env vs) [] O1 fun kvs O2 => ∀ p, O2 p = none → q (.ref p) (setO O2 p (.dN w kvs))
section
variable {X : Cx} {B : Bd} {pos : Pos} {tg : Expr}
theorem i_dcN {w : World} {wi : DTI} {g : DTG} {tt : DTT} {tk tv : DTE} {vs : List Nat} {env : Env} {O : Ow} {q : DQ} (h : wi env O fun xs Gd O1 => dcGoN g tt tk tv Gd xs (wipeD env vs) [] O1 fun kvs O2 => ∀ p, O2 p = none → q (.ref p) (setO O2 p (.dN w kvs))) : dDcN w wi g tt tk tv vs env O q := h
end
end
end DL
set_option Elab.async false
set_option linter.all false
set_option maxRecDepth 100000
set_option maxHeartbeats 4000000
namespace DL
open PySem PySem.Spec PyProof.Rows L2
section
variable {X : Cx} {B : Bd} {pos p : Pos} {k : Nat} {wx : DW} {a b : Expr} {ta tb : DTE}
def dIsB : DR2 := fun x y O q => match x, y with | .bl a, .bl b => q (.bl (decide (a = b))) O | _, _ => False
def dNotB : DR2 := fun x y O q => match x, y with | .bl a, .bl b => q (.bl (!decide (a = b))) O | _, _ => False
end
theorem i_isB {a b : Bool} {O : Ow} {q : DQ} (h : q (.bl (decide (a = b))) O) : dIsB (.bl a) (.bl b) O q := h
theorem i_notB {a b : Bool} {O : Ow} {q : DQ} (h : q (.bl (!decide (a = b))) O) : dNotB (.bl a) (.bl b) O q := h
end DL
set_option Elab.async false
set_option linter.all false
set_option maxRecDepth 100000
set_option maxHeartbeats 4000000
namespace DL
open PySem PySem.Spec PyProof.Rows L2
end DL
set_option Elab.async false
set_option linter.all false
set_option maxRecDepth 100000
set_option maxHeartbeats 4000000
namespace DL
open PySem PySem.Spec PyProof.Rows L2 PySem.W
section
variable {prog : Program} {w : World} {A : Around} {E : Value → Shared → Prop} {s : Shared} {κ : Type} [DecidableEq κ] {knd : HeapKind prog w κ}
/-- what the first dict's rows find in the second one -/
inductive NHit (A : Around) (s : Shared) (lb : List (κ × Addr × Value)) : List (κ × Addr × Value) → Bool → Prop
  | nil : NHit A s lb [] true
  | miss {k : κ} {p : Addr × Value} {l : List (κ × Addr × Value)} : (∀ (j : Nat) (p : Addr × Value), lb[j]? ≠ some (k, p)) → NHit A s lb ((k, p) :: l) false
  | hit {k : κ} {p q : Addr × Value} {j : Nat} {l : List (κ × Addr × Value)} {e r : Bool} : lb[j]? = some (k, q) → SeqAt.EqAt A s p.2 q.2 e → NHit A s lb l r → NHit A s lb ((k, p) :: l) (e && r)
end
inductive HitX (ls : List XN) : List XN → Bool → Prop
  | nil : HitX ls [] true
  | miss {k : NestedKey} {b : Addr} {v : V} {r : List XN} : atN ls k = none → HitX ls ((k, b, v) :: r) false
  | hit {k : NestedKey} {b : Addr} {v : V} {p : Addr × V} {d e : PyData} {r : List XN} {c : Bool} : atN ls k = some p → fV v = some d → fV p.2 = some e → HitX ls r c → HitX ls ((k, b, v) :: r) (PyData.eqv d e && c)
theorem atKey_get {κ : Type} [DecidableEq κ] {k : κ} {q : Addr × Value} : ∀ {xs : List (κ × Addr × Value)}, atKey xs k = some q → ∃ j : Nat, xs[j]? = some (k, q)
  | [], h => by simp [atKey] at h
  | x :: xs, h => by
    by_cases hk : x.1 = k
    · refine ⟨0, ?_⟩
      have : x.2 = q := by simpa [atKey, List.find?_cons, hk] using h
      obtain ⟨a, b⟩ := x
      cases hk
      cases this
      rfl
    · obtain ⟨j, hj⟩ := atKey_get (xs := xs) (k := k) (q := q) (by simpa [atKey, List.find?_cons, hk] using h)
      exact ⟨j + 1, by simpa using hj⟩
theorem HitX.n {A : Around} {s : Shared} {xl : List XN} {yl : List YN} (rl : Paired XY xl yl) (hn : (yl.map (·.1)).Nodup) {xr : List XN} {c : Bool} (h : HitX xl xr c) : ∀ {yr : List YN}, Paired XY xr yr → NHit A s yl yr c := by
  induction h with
  | nil => intro yr r; cases r; exact .nil
  | @miss k b v r e =>
    intro yr rr
    cases rr with
    | @cons p q ps qs h t =>
      obtain ⟨k', b', v'⟩ := q
      cases (show k = k' from h.1)
      refine .miss fun j p hj => ?_
      have h1 := (xy_at (k := k) rl).2 e
      rw [atKey_of_get hn hj] at h1
      cases h1
  | @hit k b v p d e r c h1 h2 h3 _ ih =>
    intro yr rr
    cases rr with
    | @cons p' q ps qs h t =>
      obtain ⟨k', b', v'⟩ := q
      obtain ⟨g1, g2, g3⟩ := h
      cases (show k = k' from g1)
      obtain ⟨q', e1, e2⟩ := (xy_at (k := k) rl).1 p h1
      obtain ⟨j, hj⟩ := atKey_get e1
      exact .hit hj (PySem.W.keq_flat (fV_flat h2 g3) (fV_flat h3 e2)) (ih t)
section
variable {X : Cx}
/-- x == y and x != y of two own dicts whose keys are tuples and whose values are flat -/
def RdO (O : Ow) (w : World) (p : Addr) (rs : List (D × D)) : Prop := O p = some (.dN w rs) ∨ ∃ u, O p = some (.fN u w rs)
theorem RdO.raw {K : Frag} {w : World} {O : Ow} {H F : Hp} {p : Addr} {rs : List (D × D)} (h : RdO O w p rs) (ow : OwOk K O H F) : ∃ xs, RdN H w p xs ∧ RN K F rs xs := by
  rcases h with h | ⟨u, h⟩
  · obtain ⟨_, ho, g1, xr, rfl, rr⟩ := ow p _ h
    exact ⟨xr, .inl g1, rr⟩
  · obtain ⟨_, ho, g1, x, e2, e3, rk⟩ := ow p _ h
    subst e2
    exact ⟨x.2, .inr ⟨x.1, g1⟩, rk⟩
variable {B : Bd} {pos : Pos} {k : Nat} {wx : DW} {a b : Expr} {ta tb : DTE}
variable {w : World}
end
end DL
set_option Elab.async false
set_option linter.all false
set_option maxRecDepth 100000
set_option maxHeartbeats 4000000
namespace DL
open PySem PySem.Spec PyProof.Rows L2 PySem.W
end DL
set_option Elab.async false
set_option linter.all false
set_option maxRecDepth 100000
set_option maxHeartbeats 4000000
namespace DL
open PySem PySem.Spec PyProof.Rows L2
section
variable {X : Cx} {B : Bd} {k : Nat} {wx : DW} {tg e : Expr} {te : DTE}
def dwNK (w : World) (q : List D → (Ow → Prop) → Ow → Prop) : DQ := fun d O1 => ∃ p kvs, d = .ref p ∧ ((O1 p = some (.dN w kvs) ∧ ∀ u, q (kvs.map (·.1)) (fun O' => O' p = some (.fN u w kvs)) (setO O1 p (.fN u w kvs))) ∨ ∃ u, O1 p = some (.fN u w kvs) ∧ q (kvs.map (·.1)) (fun O' => O' p = some (.fN u w kvs)) O1)
def diDctN (w : World) (te : DTE) : DTI := fun env O q => te env O (dwNK w q)
end
theorem i_dctN {w : World} {te : DTE} {env : Env} {O : Ow} {q : List D → (Ow → Prop) → Ow → Prop} (h : te env O (dwNK w q)) : diDctN w te env O q := h
end DL
set_option Elab.async false
set_option linter.all false
set_option maxRecDepth 100000
set_option maxHeartbeats 4000000
namespace DL
open PySem PySem.Spec PyProof.Rows L2
section
variable {X : Cx}
variable {B : Bd} {pos p : Pos} {k : Nat} {wx : DW} {e : Expr} {te : DTE}
/-- set(e), e a tuple of ints and texts -/
def dSetMT (te : DTE) : DTZ := fun env O q => te env O fun d O1 => ∃ ds, d = .tup ds ∧ (∀ x ∈ ds, isKM x) ∧ ds.length < 511 ∧ q ds O1
theorem i_setMT {env : Env} {O : Ow} {qz : List D → Ow → Prop} (h : te env O fun d O1 => ∃ ds, d = .tup ds ∧ (∀ x ∈ ds, isKM x) ∧ ds.length < 511 ∧ qz ds O1) : dSetMT te env O qz := h
end
end DL
set_option Elab.async false
set_option linter.all false
set_option maxRecDepth 100000
set_option maxHeartbeats 4000000
namespace PySem.OEB
open PySem.W PySem.Calls PyProof.Rows PySem.HandSPX
section
variable {prog : Program} {w : World} {M : Model} {A : Around} {E : Value → Shared → Prop} {R : Result → Shared → Prop} {h : Heap} {g : Array GenState} {d : Drawn} {t : Nat} {os : OsState} {nm q : Str} {C N : Addr} {bs bm b0 : List Value}
  {hdct : Bool} {sn : List Str} {sub : List Value} {ab : Bool} {col : Option Bool} {dd : Option Addr} {k0 k1 k2 k3 k5 : Option Value} {B newId initId : String}
theorem newW_check (F : ExcBaseFacts B newId initId b0) (T : Tail B bm) {rest : List Value} {kw : List (Str × Value)} {Q : Unit → Shared → Prop} (hC : h.get? C = some (excClassObj nm q C N bs bm hdct sn sub ab col dd k0 k1 k2 k3 k5 newId)) (z : Q () ⟨h, g, d, t, os⟩) :
    wpAny M A (checkBuiltinCall newId ⟨.ref C :: rest, kw⟩) Q E ⟨h, g, d, t, os⟩ := by
  have hc := (T.cons C).b
  have hs := F.noStar; simp only [F.newKind, F.newSplit, F.newRow, checkBuiltinCall]
  repeat (first | refine wpAny_loadPart_at hC ?_ | (refine wpAny_isSubtype_exc hC ?_; rw [hc]) | refine wpAny_staticBase_exc hC ?_ | refine wpAny_madeBy_exc hC ?_ | simp only [bne_self_eq_false, Bool.false_eq_true, if_false] | wp_step)
  exact z
theorem newW (F : ExcBaseFacts B newId initId b0) (T : Tail B bm) {rest : List Value} {kw : List (Str × Value)} (hC : h.get? C = some (excClassObj nm q C N bs bm hdct sn sub ab col dd k0 k1 k2 k3 k5 newId)) (hl : rest.length ≤ sizeLine)
    (z : R (.ok (.ret (.ref (h.objs.size + 1)))) ⟨(h.push (W.kdv_tup rest)).push (excO C h.objs.size), g, d, t, os⟩) : codeAny (model prog w) A (.builtin newId ⟨.ref C :: rest, kw⟩) R ⟨h, g, d, t, os⟩ := by
  have he := F.ends
  have T2 := T.cons C
  have c1 := T2.b
  have c2 := T2.a
  have c3 := T2.n
  refine codeAny_builtinAt F.entry ?_
  unfold Builtin.«BaseException.__new__»; refine wpAt_bind (show wpAt _ _ _ (stack >>= _) _ _ _ from wpAt_bind (wpAt_stack fun p below => wpAt_of_wpAny ?_))
  wp_walk
  refine wpAt_of_wpAny ?_
  rw [F.owner]
  repeat (first | with_reducible refine wpAny_madeHere_exc F.canon hC ?_ | with_reducible refine wpAny_loadPart_at hC ?_ | (with_reducible refine wpAny_isSubtype_exc hC ?_; first | rw [c1] | rw [c2] | rw [c3]) | wp_step)
  show R _ _
  rw [Heap.size_push]
  exact z
theorem call_W (F : ExcBaseFacts B newId initId b0) (T : Tail B bm) {rest : List Value} {kw : List (Str × Value)} {fI : Addr} (hC : h.get? C = some (excClassObj nm q C N bs bm hdct sn sub ab col dd k0 k1 k2 k3 k5 newId)) (hi : W.Looks (model prog w) h (typeLookup (.ref C) "__init__") (some (.ref fI)))
    (hb : ∀ self, W.Looks (model prog w) h (bindSpecial (.ref fI) self) (.ref fI, [self])) (hl : rest.length ≤ sizeLine)
    (z : codeAny (model prog w) (A.under (.builtin "type.__call__" ⟨.ref C :: rest, kw⟩)) (.call (.ref fI) ⟨.ref (h.objs.size + 1) :: rest, kw⟩) (W.InitBack (h.objs.size + 1) R) ⟨(h.push (W.kdv_tup rest)).push (excO C h.objs.size), g, d, t, os⟩) :
    codeAny (model prog w) A (.call (.ref C) ⟨rest, kw⟩) R ⟨h, g, d, t, os⟩ := by
  have f1 := tc_lookup
  have f2 := tc_bind (.ref C)
  have ty : (⟨h, g, d, t, os⟩ : Shared).TypeIs (.ref C) "type" := ⟨_, hC, rfl⟩
  refine codeAny_of_tree (show wpAny _ _ (callAny (.ref C) _) _ _ _ from ?_)
  repeat (any_goals (first | (assumption; done) | with_reducible refine wpAny_loadPart_at hC ?_ | wp_step))
  refine ⟨rfl, codeAny_call_builtin_at (Code.quiet_builtin _ (by decide +kernel)) entry_typeCall (wpAny_check_type_call_sub hC ?_)⟩
  repeat (first | with_reducible refine wpAny_madeBy_exc hC ?_ | with_reducible refine wpAny_loadPart_at hC ?_ | wp_step)
  refine codeAny_call_builtin_code (Code.quiet_builtin _ F.quiet) (newW_check F T hC (newW F T hC hl (show wpAny _ _ _ _ _ _ from ?_)))
  have kp : ∀ b o, h.get? b = some o → ((h.push (W.kdv_tup rest)).push (excO C h.objs.size)).get? b = some o := fun b o e => Heap.get?_push_of_some _ (Heap.get?_push_of_some _ e)
  have hC1 := kp _ _ hC
  have hg : ((h.push (W.kdv_tup rest)).push (excO C h.objs.size)).get? (h.objs.size + 1) = some (excO C h.objs.size) := by heap_get
  have cC : (Value.ref C :: bm).contains (.ref C) = true := by simp
  have i1 := hi.keeps kp
  have b1 := (hb (.ref (h.objs.size + 1))).keeps kp
  unfold isInstance
  repeat (first | with_reducible refine wpAny_loadPart_at hg ?_ | (refine wpAny_isSubtype_exc hC1 ?_; rw [cC]) | wp_step)
  show wpAny _ _ (typeLookup (.ref C) _) _ _ _; refine i1.at ?_
  refine wpAny_holding (wpAny_bind (b1.at ?_)); refine wpAny_bind (wpAny_call (codeAny_mono z fun r s' y => ?_))
  rcases r with e | (v | _ | _ | _) <;> first | exact y | exact y.elim | skip
  obtain ⟨rfl, y⟩ := y
  first
    | exact wpAny_pure (wpAny_pure y)
    | (wp_walk; exact y)
end
end PySem.OEB
namespace L2
open PySem PySem.Spec PyProof.Rows
section
variable {X : Cx} {CX : CXT} {k n : Nat} {C fI : Addr} {fd : FuncData} {ps ks : List Str} {sp : Sp}
/-- the object is made, its __init__ is run -/
theorem run_exW {pins : List (Addr × Obj)} {σ : St} {H1 : Hp} {s1 : Shared} {Q : VK} {us : List Value} {kw : List (Str × Value)} {gs : Value → List Value} {zV : V → List V} (T : OexB X.K C) (iC : PySem.W.findIn X.K (.ref C) "__init__" = some (some (.ref fI))) (tI : PySem.W.typeIn X.K (.ref fI) = some (.type "function"))
    (F1 : FnOk X.prog X.w X.K X.mg X.base CX k fI fd ps sp) (hr : Room (k + 1) X.A) (hx : Passes CX X (fun _ _ _ => False)) (I1 : Inv X pins σ H1 s1) (hus : us.length ≤ sizeLine)
    (r1 : ∀ a, Vals (zV (.ref a)) (gs (.ref a))) (hb : ∀ (s : Shared) (self : Value), X.K.In s.heap → (gs self).length = ps.length → BindsTo s fd ⟨self :: us, kw⟩ (ps.zip (gs self)))
    (h : ∀ a, H1 a = none → sp (zV (.ref a)) (upd H1 a (exo a C none)) (fun v H2 => v = .non ∧ Q (.ref a) H2) (fun _ _ _ => False)) :
    wpAny (model X.prog X.w) X.A (call (.ref C) us kw) (EP X pins σ Q) X.xe s1 := by
  obtain ⟨Bn, nI, iI, bt, B, nm, q, N, bs, bm, sn, sub, ab, col, dd, k0, k1, k2, k3, k5, hC, hbm⟩ := T.cls
  obtain ⟨hp, g, dr, tk, os⟩ := s1
  have hsz : hp.objs.size ≤ hp.objs.size + 1 := Nat.le_succ _
  generalize hxa : hp.objs.size + 1 = xa at hsz
  have hn : H1 xa = none := I1.hok.fresh hsz
  have hq := h xa hn
  have stays : ∀ b o, hp.get? b = some o → ((hp.push (PySem.W.kdv_tup us)).push (PySem.HandSPX.excO C hp.objs.size)).get? b = some o := fun b o e => Heap.get?_push_of_some _ (Heap.get?_push_of_some _ e)
  have there : ((hp.push (PySem.W.kdv_tup us)).push (PySem.HandSPX.excO C hp.objs.size)).get? xa = some (PySem.HandSPX.excO C hp.objs.size) := by
    rw [← hxa]
    heap_get
  have J := I1.laid (t' := tk) (a := xa) (o := exo xa C none) (h' := (hp.push (PySem.W.kdv_tup us)).push (PySem.HandSPX.excO C hp.objs.size)) stays hsz (exo_ok there)
  have hl : (gs (.ref xa)).length = ps.length := by
    rw [← Paired.length (r1 xa)]
    exact F1.len _ _ _ _ hq
  obtain ⟨b0, Fb⟩ := B.F
  subst hxa
  refine wpAny_call (PySem.OEB.call_W Fb (refsB_tail B hbm) (I1.kIn _ _ hC) (PySem.W.looks_findIn I1.kIn iC) (fun self => PySem.W.bind_fn I1.kIn self tI) hus
    (codeAny_mono (F1.run _ X.stack _ _ ⟨_ :: us, kw⟩ (gs _) _ _ (fun _ _ _ => False) (hr.make C us kw) (J.env0.make C us kw) (hb _ _ J.kIn hl) (r1 _) hq) fun r s' y => ?_))
  match r, y with
  | .error er, y => exact hx pins σ _ _ er s' J y
  | .ok (.ret u), y =>
    obtain ⟨v, H', J2, rv, ev, q3⟩ := J.after y
    subst ev
    exact ⟨rv, ⟨V.ref (hp.objs.size + 1), H', J2, rfl, q3⟩⟩
  | .ok .next, y => exact False.elim y
  | .ok .brk, y => exact False.elim y
  | .ok .cont, y => exact False.elim y
variable {x : Str} {e : Expr} {es : List Expr} {ta tk : TA} {te : TE} {p pos : Pos} {kws : List Keyword} {g : List Value → List Value → List Value} {gV : List V → List V → List V}
/-- C(e, ..) as a value: the object and its dict -/
def tExP (C : Addr) (sp : Sp) (ta : TA) : TE := fun σ H Q => ta σ H fun vs H1 => vs.length ≤ 1000 ∧ ∀ a, H1 a = none → sp (.ref a :: vs) (upd H1 a (exo a C none)) (fun v H2 => v = .non ∧ Q (.ref a) H2) (fun _ _ _ => False)
theorem pe_exP (T : OexB X.K C) (iC : PySem.W.findIn X.K (.ref C) "__init__" = some (some (.ref fI))) (tI : PySem.W.typeIn X.K (.ref fI) = some (.type "function")) (F1 : FnOk X.prog X.w X.K X.mg X.base CX k fI fd ps sp) (hr : Room (k + 1) X.A) (hb : Binds X.K fd ps [])
    (hx : Passes CX X (fun _ _ _ => False)) (hg : Gl X x) (hm : X.mg x = some (.ref C)) (ha : PA X (e :: es) ta)
    (hdb : (x == ("__debug__" : Str)) = false := by decide) (he : starEach (e :: es) X.env = (false, eval e X.env) :: starEach es X.env := by rfl) (hpl : (backTo pos (starEach es X.env)).any (·.1) = false := by rfl) :
    PE X (.Call (.Name x p) (e :: es) [] pos) (tExP C sp ta) := by
  refine ⟨fun pins s σ H Q I h => wpAny_Call_Name_kw (ld_glob I hg hm ?_ hdb)⟩
  refine PySem.W.callWith_K (h₀ := X.base) I.ok.mod.kin T.kC (thn (ha.run pos pins s σ H _ I h) fun us s1 ⟨vs, H1, I1, r1, hz, q1⟩ => ⟨I1.kIn, ?_⟩) he hpl
  exact run_exW (gs := fun self => self :: us) (zV := fun self => self :: vs) T iC tI F1 hr hx I1 (show us.length ≤ sizeLine by rw [← Paired.length r1, sizeLine_eq]; omega) (fun a => .cons rfl r1) (fun s self hk hl => by
    have := hb s (self :: us) hk (by simpa using hl)
    simpa using this) q1
/-- C(f = e, ..) as a value -/
def tExK (C : Addr) (n : Nat) (sp : Sp) (gV : List V → List V → List V) (tk : TA) : TE := fun σ H Q => tk σ H fun zs H1 => zs.length = n ∧ ∀ a, H1 a = none → sp (gV [.ref a] zs) (upd H1 a (exo a C none)) (fun v H2 => v = .non ∧ Q (.ref a) H2) (fun _ _ _ => False)
theorem pe_exK (T : OexB X.K C) (iC : PySem.W.findIn X.K (.ref C) "__init__" = some (some (.ref fI))) (tI : PySem.W.typeIn X.K (.ref fI) = some (.type "function")) (F1 : FnOk X.prog X.w X.K X.mg X.base CX k fI fd ps sp) (hr : Room (k + 1) X.A) (hb : KBn X.K fd ps 1 ks g gV)
    (hx : Passes CX X (fun _ _ _ => False)) (hg : Gl X x) (hm : X.mg x = some (.ref C)) (hkw : PK X kws tk)
    (hall : (backToKw pos (keywordEach kws X.env)).all (·.1.isSome) = true := by rfl) (hks : (backToKw pos (keywordEach kws X.env)).filterMap (·.1) = ks := by rfl) (hdb : (x == ("__debug__" : Str)) = false := by decide)
    (hpl : ((backTo pos (starEach [] X.env)).any (·.1) || (backToKw pos (keywordEach kws X.env)).any (·.1.isNone)) = false := by rfl) :
    PE X (.Call (.Name x p) [] kws pos) (tExK C ks.length sp gV tk) := by
  refine ⟨fun pins s σ H Q I h => wpAny_Call_Name_kw (ld_glob I hg hm ?_ hdb)⟩
  refine PySem.W.callWith_KW0 (h₀ := X.base) I.ok.mod.kin T.kC hall (thn (hkw.run pos pins s σ H _ I h) fun ws s2 ⟨zs, H2, I2, rz, l2, q2⟩ => ⟨I2.kIn, ?_⟩) hpl
  rw [hks]
  exact run_exW (us := []) (gs := fun self => g [self] ws) (zV := fun self => gV [self] zs) T iC tI F1 hr hx I2 (by simp) (fun a => hb.rel (.cons rfl .nil) rz) (fun s self hk _ => hb.to s [self] ws hk rfl (rz.length.symm.trans l2)) q2
/-- C() of a class without an own __init__ -/
theorem pe_ex0 {bmB : List Value} {Bn newId initId : String} (F : ExcBaseFacts Bn newId initId bmB) (q : PySem.W.excIn X.K C bmB newId = true) (gC : X.mg x = some (.ref C)) (kC : PySem.W.keepIn X.K (.ref C) = true) (hg : Gl X x) (hdb : (x == ("__debug__" : Str)) = false := by decide) :
    PE X (.Call (.Name x p) [] [] pos) (fun σ H Q => ∀ a, H a = none → Q (.ref a) (upd H a (ExO (.ref C) a))) := by
  refine ⟨fun pins s σ H Q I h => ?_⟩
  refine wpAny_Call_Name_kw (ld_glob I hg gC (PySem.W.callWith_K0 I.kIn kC ?_) hdb)
  show wpAny _ _ (call (.ref C) []) _ _ _
  obtain ⟨bm, N, nm, qn, bs, hdct, sn, sub, ab, col, dd, k0, k1, k2, k3, k5, mN, hC, hN, hni, T⟩ := exc_obj I.kIn q
  refine wpAny_call_exc_subT F T hC hN hni (fun h' a hm => ?_) (by simp)
  have hn : H a = none := I.hok.gone hm.new
  obtain ⟨t, ht, _, _⟩ := hm.there
  exact ⟨.ref a, upd H a (ExO (.ref C) a), I.laidN hm.keeps hm.new hn (exO_ok ht ⟨rfl, rfl⟩ rfl rfl rfl (show 4 < 6 by decide)), rfl, h a hn⟩
/-- e.f, e a new exception -/
def exfK (K : PySem.W.Frag) (nm : Str) (Q : VK) : VK := fun v H1 => ∃ (a C dd : Addr) (fs : List (Str × V)) (y : V), v = .ref a ∧ XfC K C ∧ PySem.W.findIn K (.ref C) nm = some none ∧ H1 a = some (exo a C (some dd)) ∧ H1 dd = some (exd dd fs) ∧ fs.lookup nm = some y ∧ Q y H1
theorem pe_exf {nm : Str} (he : PE X e te) (hb : attributeBase e nm X.env (eval e X.env) = eval e X.env := by rfl) : PE X (.Attribute e nm pos) (fun σ H Q => te σ H (exfK X.K nm Q)) := by
  refine ⟨fun pins s σ H Q I h => attr_of hb (thn (he.run pins s σ H _ I h) fun u s1 hh => ?_)⟩
  obtain ⟨v, H1, I1, rx, a, C, dd, fs, y, rfl, T, hno, ea, ed, l, q⟩ := hh
  obtain rfl : u = Value.ref a := rx
  obtain ⟨⟨t1, hget⟩, _, _⟩ := I1.hok a _ ea
  obtain ⟨⟨mA, hns, hr⟩, _, _⟩ := I1.hok dd _ ed
  obtain ⟨od, ho, hl⟩ := lookIn_ns hns
  obtain ⟨z, hz, rz⟩ := RelO.some_of (v := y) (o := mA nm) (by rw [← l]; exact hr nm)
  have J : PySem.W.InstAt s1.heap a _ C (some od) := ⟨hget, rfl, rfl, ho⟩
  exact HandSPX.exc_get I1.kIn J T.ga T.gg T.exC (PySem.W.findObj_own T.hdC hno rfl (by rw [hl, hz])) (handed_of rz) ⟨y, H1, I1.tok _, rz, q⟩
/-- what is known of an exception that is held: its object, its dict -/
def HeldE (H : Hp) (a C : Addr) : Prop := ∃ (f : Heap → Prop) (d : Option Addr), H a = some (.ext f) ∧ (∀ h, f h → ∃ oe vs, h.get? a = some oe ∧ Zc (.ref C) d oe ∧ oe.data = .fields vs) ∧ (d = none ∨ ∃ dx g, d = some dx ∧ H dx = some (.ext g) ∧ ∀ h, g h → ∃ mA, h.Ns1 dx mA)
def rIsX (K : PySem.W.Frag) : List V → Hp → VK → Prop := fun xs H Q => ∃ (a C : Addr) (c : V) (cv : Value) (b : Bool), xs = [.ref a, c] ∧ (∀ u, RelV c u → u = cv) ∧ ExcC K C ∧ PySem.W.kitOne K (.ref C) cv = some b ∧ HeldE H a C ∧ Q (.bl b) H
theorem cr_isX : CallR X (.builtin "isinstance") (rIsX X.K) := by
  intro pins s σ H xs us Q I r h
  obtain ⟨a, C, c, cv, b, rfl, hcv, T, e, ⟨f, d, ea, hf, hd⟩, q⟩ := h
  cases r with
  | cons rx rr =>
    cases rr with
    | cons rt rr =>
      cases rr
      cases rx
      have ec := hcv _ rt
      subst ec
      obtain ⟨fa, _, _⟩ := I.hok a _ ea
      obtain ⟨oe, vs, hget, hz, hv⟩ := hf _ fa
      have J : ∃ od, PySem.W.InstAt s.heap a oe C od := by
        rcases hd with rfl | ⟨dx, g, rfl, ed, hg⟩
        · refine ⟨none, ?_⟩
          obtain ⟨oc, od, oda, osl⟩ := oe
          obtain ⟨h1, h2⟩ := hz
          dsimp only at h1 h2 hv
          subst h1 h2 hv
          exact ⟨hget, rfl, rfl, trivial⟩
        · obtain ⟨fd, _, _⟩ := I.hok dx _ ed
          obtain ⟨mA, hns⟩ := hg _ fd
          obtain ⟨od, ho, hl⟩ := lookIn_ns hns
          exact ⟨some od, hget, hz.1, by unfold PySem.W.notCls; rw [hv], by rw [hz.2]; exact ho⟩
      obtain ⟨od, J⟩ := J
      exact PySem.W.kia_one (PySem.W.kitx_excO T.hg T.hk T.hs T.hd T.ha T.hn T.ht T.hm) I.kIn J e (fun z => nomatch z) fun tk => ⟨.bl b, H, I.kept (t' := tk) fun _ _ z => z, rfl, q⟩
end
end L2
namespace DL
open PySem PySem.Spec PyProof.Rows L2
theorem code_ne' {f : Heap → Prop} {c : Addr} {q : Str} (hf : ∀ (h : Heap) (o : Obj), f h → h.get? c = some o → o.cls ≠ .none) : HO.ext f ≠ LamX.CodeO c q := fun e => by
  have e := HO.ext.inj e
  let oc : Obj := { cls := .none, dict := none, data := .fields #[.none, .str q default], slots := #[] }
  let h : Heap := ⟨Array.replicate (c + 1) oc, {}⟩
  have hg : h.get? c = some oc := by
    unfold Heap.get?
    have : h.objs[c]? = some oc := by simp [h]
    rw [this]
  have h2 := (congrFun e h).mpr ⟨oc, _, _, hg, rfl, rfl⟩
  exact hf h oc h2 hg rfl
/-- an exception of the class at C, held -/
def ExcAt (O : Ow) (a C : Addr) : Prop := ∃ (f : Heap → Prop) (d : Option Addr), O a = some (.raw f) ∧ (∀ h, f h → ∃ oe vs, h.get? a = some oe ∧ Zc (.ref C) d oe ∧ oe.data = .fields vs) ∧ (d = none ∨ ∃ dx g, d = some dx ∧ O dx = some (.raw g) ∧ ∀ h, g h → ∃ mA, h.Ns1 dx mA)
theorem ExcAt.sub {O O' : Ow} {a C : Addr} (h : ExcAt O a C) (s : SubO O O') : ExcAt O' a C := by
  obtain ⟨f, d, e, hf, hd⟩ := h
  refine ⟨f, d, s _ _ e, hf, ?_⟩
  rcases hd with hd | ⟨dx, g, e1, e2, hg⟩
  · exact .inl hd
  · exact .inr ⟨dx, g, e1, s _ _ e2, hg⟩
theorem ExcAt.held {K : Frag} {O : Ow} {H F : Hp} {a C : Addr} (h : ExcAt O a C) (ow : OwOk K O H F) : HeldE H a C := by
  obtain ⟨f, d, e, hf, hd⟩ := h
  obtain ⟨_, ho, g1, _, g2, _⟩ := ow a _ e
  subst g2
  refine ⟨f, d, g1, hf, ?_⟩
  rcases hd with hd | ⟨dx, g, e1, e2, hg⟩
  · exact .inl hd
  · obtain ⟨_, ho, g3, _, g4, _⟩ := ow dx _ e2
    subst g4
    exact .inr ⟨dx, g, e1, g3, hg⟩
section
variable {C a dx : Addr} {f g : Str} {v w' : V} {H1 : Hp} {Q : VK}
theorem exw_heap (ha : H1 a = none) (hne : dx ≠ a) {o1 o2 o3 o4 : HO} : upd (upd (upd (upd H1 a o1) dx o2) a o3) dx o4 = upd (upd H1 dx o4) a o3 := by
  funext b
  by_cases h1 : b = a
  · subst h1
    rw [upd_ne (Ne.symm hne), upd_same, upd_same]
  · by_cases h2 : b = dx
    · subst h2
      rw [upd_same, upd_ne h1, upd_same]
    · rw [upd_ne h2, upd_ne h1, upd_ne h2, upd_ne h1, upd_ne h1, upd_ne h2]
theorem exw_heap1 (ha : H1 a = none) (hne : dx ≠ a) {o1 o2 o3 : HO} : upd (upd (upd H1 a o1) dx o2) a o3 = upd (upd H1 dx o2) a o3 := by
  funext b
  by_cases h1 : b = a
  · subst h1
    rw [upd_same, upd_same]
  · rw [upd_ne h1, upd_ne h1]
    by_cases h2 : b = dx
    · subst h2
      rw [upd_same, upd_same]
    · rw [upd_ne h2, upd_ne h1, upd_ne h2]
theorem mkW2 (hQ : ∀ a dx, H1 a = none → H1 dx = none → dx ≠ a → Q (.ref a) (upd (upd H1 dx (exd dx [(g, w'), (f, v)])) a (exo a C (some dx)))) : ∀ a, H1 a = none → exSp2 C f g [.ref a, v, w'] (upd H1 a (exo a C none)) (fun z H2 => z = .non ∧ Q (.ref a) H2) (fun _ _ _ => False) := fun a ha =>
  ⟨a, v, w', rfl, upd_same, fun dx h1 h2 => ⟨rfl, by rw [exw_heap ha h2]; exact hQ a dx ha (by rw [upd_ne h2] at h1; exact h1) h2⟩⟩
theorem mkW1 (hQ : ∀ a dx, H1 a = none → H1 dx = none → dx ≠ a → Q (.ref a) (upd (upd H1 dx (exd dx [(f, v)])) a (exo a C (some dx)))) : ∀ a, H1 a = none → exSp1 C f [.ref a, v] (upd H1 a (exo a C none)) (fun z H2 => z = .non ∧ Q (.ref a) H2) (fun _ _ _ => False) := fun a ha =>
  ⟨a, v, rfl, upd_same, fun dx h1 h2 => ⟨rfl, by rw [exw_heap1 ha h2]; exact hQ a dx ha (by rw [upd_ne h2] at h1; exact h1) h2⟩⟩
end
/-- such an __init__, called by position or by name -/
structure ExW2 (P : Program) (w : World) (K : Frag) (mg : Str → Option Value) (base : Heap) (C : Addr) (f g : Str) (fI : Addr) : Prop where
  ex : ∃ fd ps, FnOk P w K mg base CX0 1 fI fd ps (exSp2 C f g) ∧ Binds K fd ps [] ∧ KBn K fd ps 1 [g, f] (fun us ws => pick [0, 2, 1] (us ++ ws)) (fun us ws => pick [0, 2, 1] (us ++ ws))
structure ExW1 (P : Program) (w : World) (K : Frag) (mg : Str → Option Value) (base : Heap) (C : Addr) (f : Str) (fI : Addr) : Prop where
  ex : ∃ fd ps, FnOk P w K mg base CX0 1 fI fd ps (exSp1 C f) ∧ Binds K fd ps [] ∧ KBn K fd ps 1 [f] (fun us ws => pick [0, 1] (us ++ ws)) (fun us ws => pick [0, 1] (us ++ ws))
section
variable {P : Program} {w : World} {K : Frag} {mg : Str → Option Value} {base : Heap} {qn f g y z : Str} {st : Stmt} {C fI : Addr} {p1 p2 p3 p4 p5 p6 p7 p8 : Pos}
theorem exW2_E (F : HasD K "__init__" qn st [] [] fI) (S : FnScope ["self", y, z] ["self", y, z] (defScope st)) (b : Bd0 "__init__" qn st ["self", y, z]) (bk : BdK "__init__" qn st ["self", y, z] 1 [g, f] [0, 2, 1]) (T : OexB K C) (n1 : PySem.W.findIn K (.ref C) f = some none) (n2 : PySem.W.findIn K (.ref C) g = some none)
    (hb : defBody st = [.Assign [.Attribute (.Name "self" p1) f p2] (.Name y p3) p4, .Assign [.Attribute (.Name "self" p5) g p6] (.Name z p7) p8])
    (hs1 : ∀ env : PySem.Env, swapsWith (.Name y p3) (some (.Attribute (.Name "self" p1) f p2)) p4.line env = pure false) (hs2 : ∀ env : PySem.Env, swapsWith (.Name z p7) (some (.Attribute (.Name "self" p5) g p6)) p8.line env = pure false)
    (dy : (y == ("__debug__" : Str)) = false := by decide) (dz : (z == ("__debug__" : Str)) = false := by decide) (cy : (y == ("__classdict__" : Str)) = false := by decide) (cz : (z == ("__classdict__" : Str)) = false := by decide) : ExW2 P w K mg base C f g fI := by
  obtain ⟨fd, F⟩ := F
  refine ⟨fd, ["self", y, z], FunD.ok F S (fun vs H Q E h => ?_) (fun cdv A outer s H vs Q E hr h => ?_), FunD.b0 F b, FunD.bk F bk⟩
  · obtain ⟨a, v, w, e, _⟩ := h
    rw [e]; rfl
  · obtain ⟨a, v, w', rfl, ea, q⟩ := h
    rw [hb]
    have at0 := (S.par "self" (List.Mem.head _)).elim (fun z => (.inl z : Vis _ _)) (fun z => .inr (.inl z))
    have at1 := (S.par y (by simp)).elim (fun z => (.inl z : Vis _ _)) (fun z => .inr (.inl z))
    have at2 := (S.par z (by simp)).elim (fun z => (.inl z : Vis _ _)) (fun z => .inr (.inl z))
    refine ⟨_, pss_cons (ps_osB (pe_var (i := 0) rfl at0) (pe_var (i := 1) rfl at1 dy cy) (hs1 _)) (pss_one (ps_osB (pe_var (i := 0) rfl at0) (pe_var (i := 2) rfl at2 dz cz) (hs2 _))), ?_⟩
    refine ⟨v, rfl, .ref a, rfl, a, C, rfl, T, n1, .inl ⟨ea, fun dx h1 h2 => ?_⟩⟩
    refine ⟨w', rfl, .ref a, rfl, a, C, rfl, T, n2, .inr ⟨dx, [(f, v)], upd_same, ?_, by simp, q dx h1 h2⟩⟩
    rw [upd_ne h2, upd_same]
theorem exW1_E (F : HasD K "__init__" qn st [] [] fI) (S : FnScope ["self", y] ["self", y] (defScope st)) (b : Bd0 "__init__" qn st ["self", y]) (bk : BdK "__init__" qn st ["self", y] 1 [f] [0, 1]) (T : OexB K C) (n1 : PySem.W.findIn K (.ref C) f = some none)
    (hb : defBody st = [.Assign [.Attribute (.Name "self" p1) f p2] (.Name y p3) p4])
    (hs1 : ∀ env : PySem.Env, swapsWith (.Name y p3) (some (.Attribute (.Name "self" p1) f p2)) p4.line env = pure false)
    (dy : (y == ("__debug__" : Str)) = false := by decide) (cy : (y == ("__classdict__" : Str)) = false := by decide) : ExW1 P w K mg base C f fI := by
  obtain ⟨fd, F⟩ := F
  refine ⟨fd, ["self", y], FunD.ok F S (fun vs H Q E h => ?_) (fun cdv A outer s H vs Q E hr h => ?_), FunD.b0 F b, FunD.bk F bk⟩
  · obtain ⟨a, v, e, _⟩ := h
    rw [e]; rfl
  · obtain ⟨a, v, rfl, ea, q⟩ := h
    rw [hb]
    have at0 := (S.par "self" (List.Mem.head _)).elim (fun z => (.inl z : Vis _ _)) (fun z => .inr (.inl z))
    have at1 := (S.par y (by simp)).elim (fun z => (.inl z : Vis _ _)) (fun z => .inr (.inl z))
    refine ⟨_, pss_one (ps_osB (pe_var (i := 0) rfl at0) (pe_var (i := 1) rfl at1 dy cy) (hs1 _)), ?_⟩
    exact ⟨v, rfl, .ref a, rfl, a, C, rfl, T, n1, .inl ⟨ea, fun dx h1 h2 => q dx h1 h2⟩⟩
end
section
variable {X : Cx} {B : Bd} {k : Nat} {wx : DW} {x f g nm : Str} {C fI : Addr} {e1 e2 : Expr} {p p2 pos : Pos} {tA : DTA} {kwl : List Keyword}
/-- C(e, ..) as a value -/
def dExV (C : Addr) (n : Nat) (tA : DTA) : DTE := fun env O q => tA env O fun ds O1 => ds.length = n ∧ ∀ a O', O1 a = none → SubO O1 O' → ExcAt O' a C → q (.ref a) O'
theorem i_exV {n : Nat} {env : Env} {O : Ow} {q : DQ} (h : tA env O fun ds O1 => ds.length = n ∧ ∀ a O', O1 a = none → SubO O1 O' → ExcAt O' a C → q (.ref a) O') : dExV C n tA env O q := h
/-- what stands behind the making of an exception -/
theorem held_new {env : Env} {O1 : Ow} {σ : St} {H1 F1 : Hp} {q : DQ} {Q : VK} {fs : List (Str × V)} (R1 : Rel B env O1 σ H1 F1) (kk : ∀ (d : D) (v : V) (O2 : Ow) (H2 F2 : Hp), After B.K O1 H1 F1 O2 H2 F2 → RV B.K F2 d v → q d O2 → Q v H2)
    (h : ∀ a O', O1 a = none → SubO O1 O' → ExcAt O' a C → q (.ref a) O') (a dx : Addr) (ha : H1 a = none) (hdx : H1 dx = none) (hne : dx ≠ a) : Q (.ref a) (upd (upd H1 dx (exd dx fs)) a (exo a C (some dx))) := by
  have b1 := R1.own hdx (o := exd dx fs) (u := .raw (fun h => ∃ mA, h.Ns1 dx mA ∧ ∀ f, RelO (fs.lookup f) (mA f))) ⟨(), rfl, fun q => code_ne fun h o vs hr hg z => by
    obtain ⟨mA, ⟨o', es, ep, e1, e2, _⟩, _⟩ := hr
    rw [hg] at e1
    cases e1
    rw [z] at e2
    cases e2⟩
  have R2 := R1.call b1
  have ha2 : upd H1 dx (exd dx fs) a = none := by rw [upd_ne (Ne.symm hne)]; exact ha
  have b2 := R2.own ha2 (o := exo a C (some dx)) (u := .raw (fun h => ∃ t1 : Addr, h.get? a = some ({ cls := .ref C, dict := some dx, data := .fields #[.ref t1, .none, .none, .none, .bool false, .none] } : Obj))) ⟨(), rfl, fun q => code_ne' fun h o hr hg z => by
    obtain ⟨t1, e1⟩ := hr
    rw [hg] at e1
    cases e1
    cases z⟩
  have oa := (R1.free ha).1
  have od := (R1.free hdx).1
  refine kk (.ref a) (.ref a) _ _ _ (b1.trans b2) (.ref a) (h a _ oa ((SubO.fresh od).trans (SubO.fresh (by rw [setO_ne (Ne.symm hne)]; exact oa))) ⟨_, some dx, setO_same, fun h hf => ?_, .inr ⟨dx, _, rfl, by rw [setO_ne hne]; exact setO_same, fun h hg => ?_⟩⟩)
  · obtain ⟨t1, e1⟩ := hf
    exact ⟨_, _, e1, ⟨rfl, rfl⟩, rfl⟩
  · obtain ⟨mA, hns, _⟩ := hg
    exact ⟨mA, hns⟩
theorem len2 {ds : List D} (h : ds.length = 2) : ∃ u v, ds = [u, v] := by
  match ds, h with
  | [u, v], _ => exact ⟨u, v, rfl⟩
theorem len1 {ds : List D} (h : ds.length = 1) : ∃ u, ds = [u] := by
  match ds, h with
  | [u], _ => exact ⟨u, rfl⟩
theorem de_exV2 (S : Site X B k wx) (hk : 2 ≤ k) (E : ExCB X.K C fI) (Ei : ExW2 X.prog X.w X.K X.mg X.base C f g fI) (hm : X.mg x = some (.ref C)) (hg : Gl X x) (ha : PA X [e1, e2] (liftA B tA))
    (hdb : (x == ("__debug__" : Str)) = false := by decide) (he : starEach [e1, e2] X.env = (false, eval e1 X.env) :: starEach [e2] X.env := by rfl) (hpl : (backTo p2 (starEach [e2] X.env)).any (·.1) = false := by rfl) :
    PE X (.Call (.Name x p) [e1, e2] [] p2) (lift B (dExV C 2 tA)) := by
  obtain ⟨fd, ps, G, hb, _⟩ := Ei.ex
  refine PE.weak (pe_exP E.T E.iC E.tI G (S.rm.mono hk) hb pass0 hg hm ha hdb he hpl) fun σ H Q h => ?_
  obtain ⟨env, O, F, q, R, h, kk⟩ := h
  refine ⟨env, O, F, _, R, h, fun ds vs O1 H1 F1 a1 r1 h1 => ?_⟩
  obtain ⟨u1, u2, rfl⟩ := len2 h1.1
  obtain ⟨v, w', rfl, rv, rw'⟩ := r1.two
  exact ⟨by simp, mkW2 (held_new (R.call a1) (fun d v O2 H2 F2 a2 => kk d v O2 H2 F2 (a1.trans a2)) h1.2)⟩
theorem de_exV1 (S : Site X B k wx) (hk : 2 ≤ k) (E : ExCB X.K C fI) (Ei : ExW1 X.prog X.w X.K X.mg X.base C f fI) (hm : X.mg x = some (.ref C)) (hg : Gl X x) (ha : PA X [e1] (liftA B tA))
    (hdb : (x == ("__debug__" : Str)) = false := by decide) (he : starEach [e1] X.env = (false, eval e1 X.env) :: starEach [] X.env := by rfl) (hpl : (backTo p2 (starEach [] X.env)).any (·.1) = false := by rfl) :
    PE X (.Call (.Name x p) [e1] [] p2) (lift B (dExV C 1 tA)) := by
  obtain ⟨fd, ps, G, hb, _⟩ := Ei.ex
  refine PE.weak (pe_exP E.T E.iC E.tI G (S.rm.mono hk) hb pass0 hg hm ha hdb he hpl) fun σ H Q h => ?_
  obtain ⟨env, O, F, q, R, h, kk⟩ := h
  refine ⟨env, O, F, _, R, h, fun ds vs O1 H1 F1 a1 r1 h1 => ?_⟩
  obtain ⟨u1, rfl⟩ := len1 h1.1
  obtain ⟨v, rfl, rv⟩ := r1.one
  exact ⟨by simp, mkW1 (held_new (R.call a1) (fun d v O2 H2 F2 a2 => kk d v O2 H2 F2 (a1.trans a2)) h1.2)⟩
/-- C() -/
def dEx0 (C : Addr) : DTE := fun _ O q => ∀ a O', O a = none → SubO O O' → ExcAt O' a C → q (.ref a) O'
theorem i_ex0 {env : Env} {O : Ow} {q : DQ} (h : ∀ a O', O a = none → SubO O O' → ExcAt O' a C → q (.ref a) O') : dEx0 C env O q := h
theorem de_ex0 (S : Site X B k wx) (E : Ex0 X.K C) (hm : X.mg x = some (.ref C)) (hg : Gl X x) (hdb : (x == ("__debug__" : Str)) = false := by decide) : PE X (.Call (.Name x p) [] [] p2) (lift B (dEx0 C)) := by
  obtain ⟨⟨Bn, nI, iI, bm, F, q⟩, kC, exC, tyC⟩ := E
  refine PE.weak (pe_ex0 F q hm kC hg hdb) fun σ H Q h a ha => ?_
  obtain ⟨env, O, F, q, R, h, kk⟩ := h
  have oa := (R.free ha).1
  have b := R.own ha (o := ExO (.ref C) a) (u := .raw (fun h => ∃ (oe : Obj) (vs : Array Value), h.get? a = some oe ∧ Zc (.ref C) none oe ∧ oe.data = .fields vs ∧ vs[1]? = some .none ∧ vs[2]? = some .none ∧ 4 < vs.size)) ⟨(), rfl, fun q => code_ne' fun h o hr hg z => by
    obtain ⟨oe, vs, e1, e2, _⟩ := hr
    rw [hg] at e1
    cases e1
    rw [e2.1] at z
    cases z⟩
  refine kk (.ref a) (.ref a) _ _ _ b (.ref a) (h a _ oa (SubO.fresh oa) ⟨_, none, setO_same, fun h hf => ?_, .inl rfl⟩)
  obtain ⟨oe, vs, e1, e2, e3, _⟩ := hf
  exact ⟨oe, vs, e1, e2, e3⟩
/-- C(e, ..).f: the i-th of n given -/
def dExG (n i : Nat) (tA : DTA) : DTE := fun env O q => tA env O fun ds O1 => ds.length = n ∧ ∃ y, ds[i]? = some y ∧ q y O1
theorem i_exG {n i : Nat} {env : Env} {O : Ow} {q : DQ} (h : tA env O fun ds O1 => ds.length = n ∧ ∃ y, ds[i]? = some y ∧ q y O1) : dExG n i tA env O q := h
theorem read_new {env : Env} {O1 : Ow} {σ : St} {H1 F1 : Hp} {q : DQ} {Q : VK} {fs : List (Str × V)} {d : D} {y : V} (T : XfC X.K C) (hno : PySem.W.findIn X.K (.ref C) nm = some none) (R1 : Rel B env O1 σ H1 F1) (kk : ∀ (d : D) (v : V) (O2 : Ow) (H2 F2 : Hp), After B.K O1 H1 F1 O2 H2 F2 → RV B.K F2 d v → q d O2 → Q v H2)
    (l : fs.lookup nm = some y) (ry : RV B.K F1 d y) (h : q d O1) (a dx : Addr) (ha : H1 a = none) (hdx : H1 dx = none) (hne : dx ≠ a) :
    exfK X.K nm Q (.ref a) (upd (upd H1 dx (exd dx fs)) a (exo a C (some dx))) := by
  have b1 := R1.junk hdx (exd dx fs)
  have ha2 : upd H1 dx (exd dx fs) a = none := by rw [upd_ne (Ne.symm hne)]; exact ha
  have b2 := (R1.call b1).junk ha2 (exo a C (some dx))
  exact ⟨a, C, dx, fs, y, rfl, T, hno, upd_same, by rw [upd_ne hne]; exact upd_same, l, kk d y _ _ _ (b1.trans b2) ry h⟩
theorem de_exG2 {i : Nat} (S : Site X B k wx) (hk : 2 ≤ k) (E : ExCB X.K C fI) (T : XfC X.K C) (hno : PySem.W.findIn X.K (.ref C) nm = some none) (Ei : ExW2 X.prog X.w X.K X.mg X.base C f g fI) (hm : X.mg x = some (.ref C)) (hg : Gl X x) (ha : PA X [e1, e2] (liftA B tA))
    (hl : ∀ v w' : V, ([(g, w'), (f, v)] : List (Str × V)).lookup nm = ([v, w'] : List V)[i]?)
    (hdb : (x == ("__debug__" : Str)) = false := by decide) (he : starEach [e1, e2] X.env = (false, eval e1 X.env) :: starEach [e2] X.env := by rfl) (hpl : (backTo p2 (starEach [e2] X.env)).any (·.1) = false := by rfl)
    (hat : attributeBase (.Call (.Name x p) [e1, e2] [] p2) nm X.env (eval (.Call (.Name x p) [e1, e2] [] p2) X.env) = eval (.Call (.Name x p) [e1, e2] [] p2) X.env := by rfl) :
    PE X (.Attribute (.Call (.Name x p) [e1, e2] [] p2) nm pos) (lift B (dExG 2 i tA)) := by
  obtain ⟨fd, ps, G, hb, _⟩ := Ei.ex
  refine PE.weak (pe_exf (pe_exP E.T E.iC E.tI G (S.rm.mono hk) hb pass0 hg hm ha hdb he hpl) hat) fun σ H Q h => ?_
  obtain ⟨env, O, F, q, R, h, kk⟩ := h
  refine ⟨env, O, F, _, R, h, fun ds vs O1 H1 F1 a1 r1 h1 => ?_⟩
  obtain ⟨u1, u2, rfl⟩ := len2 h1.1
  obtain ⟨y, ey, hq⟩ := h1.2
  obtain ⟨z, ez, rz⟩ := r1.get ey
  obtain ⟨v, w', rfl, rv, rw'⟩ := r1.two
  exact ⟨by simp, mkW2 (read_new T hno (R.call a1) (fun d v O2 H2 F2 a2 => kk d v O2 H2 F2 (a1.trans a2)) ((hl v w').trans ez) rz hq)⟩
theorem de_exG1 (S : Site X B k wx) (hk : 2 ≤ k) (E : ExCB X.K C fI) (T : XfC X.K C) (hno : PySem.W.findIn X.K (.ref C) f = some none) (Ei : ExW1 X.prog X.w X.K X.mg X.base C f fI) (hm : X.mg x = some (.ref C)) (hg : Gl X x) (ha : PA X [e1] (liftA B tA))
    (hdb : (x == ("__debug__" : Str)) = false := by decide) (he : starEach [e1] X.env = (false, eval e1 X.env) :: starEach [] X.env := by rfl) (hpl : (backTo p2 (starEach [] X.env)).any (·.1) = false := by rfl)
    (hat : attributeBase (.Call (.Name x p) [e1] [] p2) f X.env (eval (.Call (.Name x p) [e1] [] p2) X.env) = eval (.Call (.Name x p) [e1] [] p2) X.env := by rfl) :
    PE X (.Attribute (.Call (.Name x p) [e1] [] p2) f pos) (lift B (dExG 1 0 tA)) := by
  obtain ⟨fd, ps, G, hb, _⟩ := Ei.ex
  refine PE.weak (pe_exf (pe_exP E.T E.iC E.tI G (S.rm.mono hk) hb pass0 hg hm ha hdb he hpl) hat) fun σ H Q h => ?_
  obtain ⟨env, O, F, q, R, h, kk⟩ := h
  refine ⟨env, O, F, _, R, h, fun ds vs O1 H1 F1 a1 r1 h1 => ?_⟩
  obtain ⟨u1, rfl⟩ := len1 h1.1
  obtain ⟨y, ey, hq⟩ := h1.2
  obtain ⟨v, rfl, rv⟩ := r1.one
  cases ey
  exact ⟨by simp, mkW1 (read_new T hno (R.call a1) (fun d v O2 H2 F2 a2 => kk d v O2 H2 F2 (a1.trans a2)) (List.lookup_cons_self) rv hq)⟩
theorem de_exK2 {i : Nat} (S : Site X B k wx) (hk : 2 ≤ k) (E : ExCB X.K C fI) (T : XfC X.K C) (hno : PySem.W.findIn X.K (.ref C) nm = some none) (Ei : ExW2 X.prog X.w X.K X.mg X.base C f g fI) (hm : X.mg x = some (.ref C)) (hg : Gl X x) (hkw : PK X kwl (liftA B tA))
    (hl : ∀ v w' : V, ([(g, w'), (f, v)] : List (Str × V)).lookup nm = ([w', v] : List V)[i]?)
    (hall : (backToKw p2 (keywordEach kwl X.env)).all (·.1.isSome) = true := by rfl) (hks : (backToKw p2 (keywordEach kwl X.env)).filterMap (·.1) = [g, f] := by rfl) (hdb : (x == ("__debug__" : Str)) = false := by decide)
    (hpl : ((backTo p2 (starEach [] X.env)).any (·.1) || (backToKw p2 (keywordEach kwl X.env)).any (·.1.isNone)) = false := by rfl)
    (hat : attributeBase (.Call (.Name x p) [] kwl p2) nm X.env (eval (.Call (.Name x p) [] kwl p2) X.env) = eval (.Call (.Name x p) [] kwl p2) X.env := by rfl) :
    PE X (.Attribute (.Call (.Name x p) [] kwl p2) nm pos) (lift B (dExG 2 i tA)) := by
  obtain ⟨fd, ps, G, _, hb⟩ := Ei.ex
  refine PE.weak (pe_exf (pe_exK E.T E.iC E.tI G (S.rm.mono hk) hb pass0 hg hm hkw hall hks hdb hpl) hat) fun σ H Q h => ?_
  obtain ⟨env, O, F, q, R, h, kk⟩ := h
  refine ⟨env, O, F, _, R, h, fun ds vs O1 H1 F1 a1 r1 h1 => ?_⟩
  obtain ⟨u1, u2, rfl⟩ := len2 h1.1
  obtain ⟨y, ey, hq⟩ := h1.2
  obtain ⟨z, ez, rz⟩ := r1.get ey
  obtain ⟨v, w', rfl, rv, rw'⟩ := r1.two
  exact ⟨rfl, mkW2 (v := w') (w' := v) (read_new T hno (R.call a1) (fun d v O2 H2 F2 a2 => kk d v O2 H2 F2 (a1.trans a2)) ((hl w' v).trans ez) rz hq)⟩
theorem de_exK1 (S : Site X B k wx) (hk : 2 ≤ k) (E : ExCB X.K C fI) (T : XfC X.K C) (hno : PySem.W.findIn X.K (.ref C) f = some none) (Ei : ExW1 X.prog X.w X.K X.mg X.base C f fI) (hm : X.mg x = some (.ref C)) (hg : Gl X x) (hkw : PK X kwl (liftA B tA))
    (hall : (backToKw p2 (keywordEach kwl X.env)).all (·.1.isSome) = true := by rfl) (hks : (backToKw p2 (keywordEach kwl X.env)).filterMap (·.1) = [f] := by rfl) (hdb : (x == ("__debug__" : Str)) = false := by decide)
    (hpl : ((backTo p2 (starEach [] X.env)).any (·.1) || (backToKw p2 (keywordEach kwl X.env)).any (·.1.isNone)) = false := by rfl)
    (hat : attributeBase (.Call (.Name x p) [] kwl p2) f X.env (eval (.Call (.Name x p) [] kwl p2) X.env) = eval (.Call (.Name x p) [] kwl p2) X.env := by rfl) :
    PE X (.Attribute (.Call (.Name x p) [] kwl p2) f pos) (lift B (dExG 1 0 tA)) := by
  obtain ⟨fd, ps, G, _, hb⟩ := Ei.ex
  refine PE.weak (pe_exf (pe_exK E.T E.iC E.tI G (S.rm.mono hk) hb pass0 hg hm hkw hall hks hdb hpl) hat) fun σ H Q h => ?_
  obtain ⟨env, O, F, q, R, h, kk⟩ := h
  refine ⟨env, O, F, _, R, h, fun ds vs O1 H1 F1 a1 r1 h1 => ?_⟩
  obtain ⟨u1, rfl⟩ := len1 h1.1
  obtain ⟨y, ey, hq⟩ := h1.2
  obtain ⟨v, rfl, rv⟩ := r1.one
  cases ey
  exact ⟨rfl, mkW1 (read_new T hno (R.call a1) (fun d v O2 H2 F2 a2 => kk d v O2 H2 F2 (a1.trans a2)) (List.lookup_cons_self) rv hq)⟩
/-- isinstance(e, c), e an exception that is held -/
def dIsX (K : Frag) : List D → Ow → DQ → Prop := fun ds O q => ∃ (a C : Addr) (c : D) (cv : Value) (b : Bool), ds = [.ref a, c] ∧ (∀ F v u, RV K F c v → RelV v u → u = cv) ∧ ExcAt O a C ∧ ExcC K C ∧ PySem.W.kitOne K (.ref C) cv = some b ∧ q (.bl b) O
theorem so_isX (S : Site X B k wx) (hg : Gl X "isinstance") (hm : X.mg "isinstance" = none) (ha : PA X [e1, e2] (liftA B tA)) (he : starEach [e1, e2] X.env = (false, eval e1 X.env) :: starEach [e2] X.env := by rfl) (hpl : (backTo pos (starEach [e2] X.env)).any (·.1) = false := by rfl) :
    PE X (.Call (.Name "isinstance" p) [e1, e2] [] pos) (lift B (dCB (dIsX B.K) tA)) := by
  refine PE.weak (pe_callB cr_isX hg hm bt_isi ha (by decide) (by decide) he hpl) fun σ H Q h => ?_
  obtain ⟨env, O, F, q, R, h, kk⟩ := h
  refine ⟨env, O, F, _, R, h, fun ds vs O1 H1 F1 a1 r1 h1 => ?_⟩
  obtain ⟨a, C, c, cv, b, rfl, hc, hx, T, e, hq⟩ := h1
  obtain ⟨v, w', rfl, rv, rw'⟩ := r1.two
  cases rv
  exact ⟨a, C, w', cv, b, rfl, fun u r => hc _ _ _ rw' r, by rw [S.hK]; exact T, by rw [S.hK]; exact e, hx.held a1.ow, kk _ _ _ _ _ a1 (.bl b) hq⟩
theorem so_isXK {K : Frag} (hK : B.K = K) (S : Site X B k wx) (hg : Gl X "isinstance") (hm : X.mg "isinstance" = none) (ha : PA X [e1, e2] (liftA B tA)) (he : starEach [e1, e2] X.env = (false, eval e1 X.env) :: starEach [e2] X.env := by rfl) (hpl : (backTo pos (starEach [e2] X.env)).any (·.1) = false := by rfl) :
    PE X (.Call (.Name "isinstance" p) [e1, e2] [] pos) (lift B (dCB (dIsX K) tA)) := hK ▸ so_isX S hg hm ha he hpl
theorem i_isXR {K : Frag} {O : Ow} {q : DQ} {a C C2 : Addr} {b : Bool} (hx : ExcAt O a C) (T : ExcC K C) (e : PySem.W.kitOne K (.ref C) (.ref C2) = some b) (h : q (.bl b) O) : dIsX K [.ref a, .ref C2] O q := ⟨a, C, .ref C2, .ref C2, b, rfl, fun F v u r rr => by cases r; exact rr, hx, T, e, h⟩
theorem i_isXT {K : Frag} {O : Ow} {q : DQ} {a C : Addr} {n : String} {b : Bool} (hx : ExcAt O a C) (T : ExcC K C) (e : PySem.W.kitOne K (.ref C) (.type n) = some b) (h : q (.bl b) O) : dIsX K [.ref a, .ty n] O q := ⟨a, C, .ty n, .type n, b, rfl, fun F v u r rr => by cases r; exact rr, hx, T, e, h⟩
end
def eqB (b : Bool) : Value → Bool
  | .bool c => c == b
  | _ => false
theorem bools_of_vals : ∀ {bs : List Bool} {us : List Value}, Vals (bs.map V.bl) us → us = bs.map Value.bool
  | [], _, h => by cases h; rfl
  | b :: bs, _, h => by
    cases h with
    | cons h1 h2 => rw [bools_of_vals h2, (h1 : _ = Value.bool b)]; rfl
theorem countB : ∀ (b : Bool) (bs : List Bool), (bs.map Value.bool).countP (eqB b) = bs.count b
  | _, [] => rfl
  | b, c :: bs => by
    rw [List.map_cons, List.countP_cons, List.count_cons, countB b bs]
    rfl
def rCntB (K : Frag) : V → List V → Hp → VK → Prop := fun x xs H Q => ∃ (p : Addr) (bs : List Bool) (b : Bool), x = .ref p ∧ xs = [.bl b] ∧ SqL K H p (bs.map V.bl) ∧ Q (.int (bs.count b : Nat)) H
section
variable {X : Cx} {B : Bd} {pos apos : Pos} {k : Nat} {wx : DW} {a e : Expr} {to te : DTE} {env : Env} {O : Ow} {q : DQ}
theorem mt_lcountB : MtR X "list.count" (rCntB X.K) := by
  intro pins s σ H x xs v us Q I rx rxs h
  obtain ⟨p, bs, b, rfl, rfl, hs, q⟩ := h
  cases rx
  obtain ⟨u, rfl, ru⟩ := rxs.one
  obtain rfl : u = Value.bool b := ru
  obtain ⟨its, rv, ⟨⟨cls, dd, data, sl⟩, n, ho, hc, hdn, hd⟩, hlen⟩ := I.list hs
  simp only at hc hd
  subst hc hd
  obtain rfl := bools_of_vals rv
  refine call_meets PySem.F.slot_list_count ⟨_, ho, rfl⟩ PySem.F.entry_list_count (PySem.F.args_list_count_2 _ _) (SeqAt.list_countAt p _ n dd sl (.bool b) (eqB b)) ⟨ho, fun y hy => ?_, ?_⟩
  · obtain ⟨c, _, rfl⟩ := List.mem_map.mp (show y ∈ bs.map Value.bool by simpa using hy)
    have : PyData.eqv (.bool c) (.bool b) = eqB b (.bool c) := by cases c <;> cases b <;> decide +kernel
    rw [← this]
    exact PySem.W.keq_flat (.bool c) (.bool b)
  · refine ⟨.int (bs.count b : Nat), H, I.tok _, ⟨s.toks, ?_⟩, q⟩
    rw [← countB b bs]
def lcB2 (pp : Addr) (q : DQ) : DQ := fun y O2 => ∃ (bs : List Bool) (b : Bool), O2 pp = some (.lst (bs.map D.bl)) ∧ y = .bl b ∧ q (.int (bs.count b : Nat)) O2
def lcB (te : DTE) (env : Env) (q : DQ) : DQ := fun x O1 => ∃ pp es, x = .ref pp ∧ O1 pp = some (.lst es) ∧ te env O1 (lcB2 pp q)
def dLCntB (to te : DTE) : DTE := fun env O q => to env O (lcB te env q)
theorem bls_vs {K : Frag} {F : Hp} : ∀ {bs : List Bool} {vs : List V}, RVs K F (bs.map D.bl) vs → vs = bs.map V.bl
  | [], _, h => by cases h; rfl
  | b :: bs, _, h => by
    cases h with
    | cons h1 h2 => cases h1; rw [bls_vs h2]; rfl
theorem so_lcntB (S : Site X B k wx) (ho : PE X a (lift B to)) (he : PE X e (lift B te)) (hbase : attributeBase a "count" X.env (eval a X.env) = eval a X.env := by rfl)
    (hfew : ((backTo pos (starEach [e] X.env)).all (fun x => !x.1) && (backToKw pos (keywordEach [] X.env)).all (fun x => x.1.isSome) && decide ([e].length + ([] : List Keyword).length + (if ([] : List Keyword).isEmpty then 0 else 1) < 30)) = true := by rfl)
    (hline : (apos.endLine == pos.line) = true := by rfl) (hs : starEach [e] X.env = (false, eval e X.env) :: starEach [] X.env := by rfl) (hplain : (backTo pos (starEach [] X.env)).any (·.1) = false := by rfl) : PE X (.Call (.Attribute a "count" apos) [e] [] pos) (lift B (dLCntB to te)) :=
  PE.weak (pe_bm PySem.F.plainAttrs_list PySem.F.slot_list_count PySem.F.type_list_count mt_lcountB ho (da_cons he da_nil hs) hbase hfew hline hs hplain) fun σ H Q h => by
    obtain ⟨env, O, F, q, R, h, kk⟩ := h
    refine ⟨env, O, F, _, R, h, fun x v O1 H1 F1 a1 r1 ⟨pp, es, ex, e1, h1⟩ => ?_⟩
    subst ex
    cases r1
    obtain ⟨_, ho, e2, vs, rfl, rr⟩ := a1.ow pp _ e1
    refine ⟨.inl ⟨rfl, vs, SqL.of e2⟩, env, O1, F1, fun ds O2 => match ds with
      | [y] => lcB2 pp q y O2
      | _ => False, R.call a1, h1, ?_⟩
    intro ds us O2 H2 F2 a2 r2 h2
    match ds, r2, h2 with
    | [y], r2, ⟨bs, b, g1, ey, g2⟩ =>
      subst ey
      obtain ⟨u, rfl, ru⟩ := r2.one
      cases ru
      obtain ⟨_, ho2, g3, vs2, rfl, rr2⟩ := a2.ow pp _ g1
      obtain rfl := bls_vs rr2
      exact ⟨pp, bs, b, rfl, rfl, by rw [S.hK]; exact SqL.of g3, kk _ _ _ _ F2 (a1.trans a2) (.int _) g2⟩
theorem i_lcntB (h : to env O (lcB te env q)) : dLCntB to te env O q := h
theorem i_lcB {pp : Addr} {es : List D} (e1 : O pp = some (.lst es)) (h : te env O (lcB2 pp q)) : lcB te env q (.ref pp) O := ⟨pp, es, rfl, e1, h⟩
theorem i_lcB2 {pp : Addr} {bs : List Bool} {b : Bool} (e1 : O pp = some (.lst (bs.map D.bl))) (h : q (.int (bs.count b : Nat)) O) : lcB2 pp q (.bl b) O := ⟨bs, b, e1, rfl, h⟩
end
def exFam : List (Str × List String) := [("BadEnd", ["ValueError"]), ("BadFault", ["ValueError"]), ("BadFrame", ["ValueError"]), ("BadText", ["ValueError"]), ("BadCommand", ["ValueError"]), ("NoPromise", ["ValueError"]), ("NoStation", ["KeyError", "LookupError"]), ("NoName", ["KeyError", "LookupError"]),
  ("NoOutcome", ["LookupError"]), ("NothingToUndo", ["LookupError"]), ("BadDeed", ["IndexError", "LookupError"]), ("Endless", ["RuntimeError"]), ("NothingWaits", ["RuntimeError"]), ("NoHearer", ["RuntimeError"]), ("NoLine", ["RuntimeError"]), ("TooMany", ["OverflowError", "ArithmeticError"]), ("Unsound", ["ArithmeticError"]), ("Unbounded", ["ArithmeticError"]), ("Taken", ["TypeError"])]
def exTys : List String := ["KeyError", "IndexError", "LookupError", "OverflowError", "ZeroDivisionError", "ValueError", "RuntimeError", "ArithmeticError", "TypeError"]
structure ETab (K : Frag) : Prop where
  own : ∀ (i j : Nat) (p r : Str × List String), exFam[i]? = some p → exFam[j]? = some r → PySem.W.kitOne K (.ref (He.ga K p.1)) (.ref (He.ga K r.1)) = some (decide (i = j))
  ty : ∀ p ∈ exFam, ∀ n ∈ exTys, PySem.W.kitOne K (.ref (He.ga K p.1)) (.type n) = some (p.2.contains n)
  xc : ∀ p ∈ exFam, ExcC K (He.ga K p.1)
def etabB : Fac := fun K => (exFam.zipIdx.all fun p => exFam.zipIdx.all fun r => decide (PySem.W.kitOne K (.ref (He.ga K p.1.1)) (.ref (He.ga K r.1.1)) = some (decide (p.2 = r.2)))) &&
  ((exFam.all fun p => exTys.all fun n => decide (PySem.W.kitOne K (.ref (He.ga K p.1)) (.type n) = some (p.2.contains n))) && exFam.all fun p => excCB p.1 K)
theorem etabB_ok {K : Frag} (h : etabB K = true) : ETab K := by
  unfold etabB at h
  obtain ⟨h1, h⟩ := Bool.and_eq_true_iff.mp h
  obtain ⟨h2, h3⟩ := Bool.and_eq_true_iff.mp h
  refine ⟨fun i j p r hi hj => ?_, fun p hp n hn => ?_, fun p hp => ?_⟩
  · have g := List.all_eq_true.mp (List.all_eq_true.mp h1 (p, i) (List.mem_zipIdx_iff_getElem?.mpr hi)) (r, j) (List.mem_zipIdx_iff_getElem?.mpr hj)
    exact of_decide_eq_true g
  · exact of_decide_eq_true (List.all_eq_true.mp (List.all_eq_true.mp h2 p hp) n hn)
  · exact excCB_ok (List.all_eq_true.mp h3 p hp)
end DL
set_option Elab.async false
set_option linter.all false
set_option maxRecDepth 100000
set_option maxHeartbeats 4000000
namespace K08
open PySem PySem.Spec PyProof.Rows L2 DL
open ClX (CRead CVal)
def top (i : Nat) : Stmt := PySem.Challenge.pw_strongbit_k08_errors_made.main.body.getD i (.Pass ⟨0, 0, 0, 0⟩)
abbrev s_BadEnd___init__ : Stmt := inClass (top 1) 0
abbrev s_BadFault___init__ : Stmt := inClass (top 2) 0
abbrev s_BadFrame___init__ : Stmt := inClass (top 3) 0
abbrev s_BadText___init__ : Stmt := inClass (top 4) 0
abbrev s_BadCommand___init__ : Stmt := inClass (top 5) 0
abbrev s_NoPromise___init__ : Stmt := inClass (top 6) 0
abbrev s_NoStation___init__ : Stmt := inClass (top 7) 0
abbrev s_NoName___init__ : Stmt := inClass (top 8) 0
abbrev s_NoOutcome___init__ : Stmt := inClass (top 9) 0
abbrev s_BadDeed___init__ : Stmt := inClass (top 11) 0
abbrev s_Endless___init__ : Stmt := inClass (top 12) 0
abbrev s_TooMany___init__ : Stmt := inClass (top 16) 0
abbrev s_Taken___init__ : Stmt := inClass (top 19) 0
abbrev s_law_take : Stmt := top 22
abbrev s_law_bag : Stmt := top 21
abbrev s_law_any : Stmt := top 23
abbrev s_law_family : Stmt := top 24
abbrev s_law_base : Stmt := top 25
abbrev s_law_made : Stmt := top 26
abbrev s_law_fields : Stmt := top 27
abbrev s_law_seconds : Stmt := top 28
abbrev s_law : Stmt := top 29
def dd_BadEnd___init__ : DefX := ⟨fun K => (He.ma K (He.ga K "BadEnd") "__init__"), ⟨("BadEnd", some "__init__"), "__init__", "BadEnd.__init__", defArgs s_BadEnd___init__, defBody s_BadEnd___init__, defScope s_BadEnd___init__, [], []⟩⟩
def dd_BadFault___init__ : DefX := ⟨fun K => (He.ma K (He.ga K "BadFault") "__init__"), ⟨("BadFault", some "__init__"), "__init__", "BadFault.__init__", defArgs s_BadFault___init__, defBody s_BadFault___init__, defScope s_BadFault___init__, [], []⟩⟩
def dd_BadFrame___init__ : DefX := ⟨fun K => (He.ma K (He.ga K "BadFrame") "__init__"), ⟨("BadFrame", some "__init__"), "__init__", "BadFrame.__init__", defArgs s_BadFrame___init__, defBody s_BadFrame___init__, defScope s_BadFrame___init__, [], []⟩⟩
def dd_BadText___init__ : DefX := ⟨fun K => (He.ma K (He.ga K "BadText") "__init__"), ⟨("BadText", some "__init__"), "__init__", "BadText.__init__", defArgs s_BadText___init__, defBody s_BadText___init__, defScope s_BadText___init__, [], []⟩⟩
def dd_BadCommand___init__ : DefX := ⟨fun K => (He.ma K (He.ga K "BadCommand") "__init__"), ⟨("BadCommand", some "__init__"), "__init__", "BadCommand.__init__", defArgs s_BadCommand___init__, defBody s_BadCommand___init__, defScope s_BadCommand___init__, [], []⟩⟩
def dd_NoPromise___init__ : DefX := ⟨fun K => (He.ma K (He.ga K "NoPromise") "__init__"), ⟨("NoPromise", some "__init__"), "__init__", "NoPromise.__init__", defArgs s_NoPromise___init__, defBody s_NoPromise___init__, defScope s_NoPromise___init__, [], []⟩⟩
def dd_NoStation___init__ : DefX := ⟨fun K => (He.ma K (He.ga K "NoStation") "__init__"), ⟨("NoStation", some "__init__"), "__init__", "NoStation.__init__", defArgs s_NoStation___init__, defBody s_NoStation___init__, defScope s_NoStation___init__, [], []⟩⟩
def dd_NoName___init__ : DefX := ⟨fun K => (He.ma K (He.ga K "NoName") "__init__"), ⟨("NoName", some "__init__"), "__init__", "NoName.__init__", defArgs s_NoName___init__, defBody s_NoName___init__, defScope s_NoName___init__, [], []⟩⟩
def dd_NoOutcome___init__ : DefX := ⟨fun K => (He.ma K (He.ga K "NoOutcome") "__init__"), ⟨("NoOutcome", some "__init__"), "__init__", "NoOutcome.__init__", defArgs s_NoOutcome___init__, defBody s_NoOutcome___init__, defScope s_NoOutcome___init__, [], []⟩⟩
def dd_BadDeed___init__ : DefX := ⟨fun K => (He.ma K (He.ga K "BadDeed") "__init__"), ⟨("BadDeed", some "__init__"), "__init__", "BadDeed.__init__", defArgs s_BadDeed___init__, defBody s_BadDeed___init__, defScope s_BadDeed___init__, [], []⟩⟩
def dd_Endless___init__ : DefX := ⟨fun K => (He.ma K (He.ga K "Endless") "__init__"), ⟨("Endless", some "__init__"), "__init__", "Endless.__init__", defArgs s_Endless___init__, defBody s_Endless___init__, defScope s_Endless___init__, [], []⟩⟩
def dd_TooMany___init__ : DefX := ⟨fun K => (He.ma K (He.ga K "TooMany") "__init__"), ⟨("TooMany", some "__init__"), "__init__", "TooMany.__init__", defArgs s_TooMany___init__, defBody s_TooMany___init__, defScope s_TooMany___init__, [], []⟩⟩
def dd_Taken___init__ : DefX := ⟨fun K => (He.ma K (He.ga K "Taken") "__init__"), ⟨("Taken", some "__init__"), "__init__", "Taken.__init__", defArgs s_Taken___init__, defBody s_Taken___init__, defScope s_Taken___init__, [], []⟩⟩
def dd_law_take : DefX := ⟨fun K => (He.ga K "_law_take"), ⟨("_law_take", none), "_law_take", "_law_take", defArgs s_law_take, defBody s_law_take, defScope s_law_take, [], []⟩⟩
def dd_law_bag : DefX := ⟨fun K => (He.ga K "_law_bag"), ⟨("_law_bag", none), "_law_bag", "_law_bag", defArgs s_law_bag, defBody s_law_bag, defScope s_law_bag, [], []⟩⟩
def dd_law_any : DefX := ⟨fun K => (He.ga K "_law_any"), ⟨("_law_any", none), "_law_any", "_law_any", defArgs s_law_any, defBody s_law_any, defScope s_law_any, [], []⟩⟩
def dd_law_family : DefX := ⟨fun K => (He.ga K "_law_family"), ⟨("_law_family", none), "_law_family", "_law_family", defArgs s_law_family, defBody s_law_family, defScope s_law_family, [], []⟩⟩
def dd_law_base : DefX := ⟨fun K => (He.ga K "_law_base"), ⟨("_law_base", none), "_law_base", "_law_base", defArgs s_law_base, defBody s_law_base, defScope s_law_base, [], []⟩⟩
def dd_law_made : DefX := ⟨fun K => (He.ga K "_law_made"), ⟨("_law_made", none), "_law_made", "_law_made", defArgs s_law_made, defBody s_law_made, defScope s_law_made, [], []⟩⟩
def dd_law_fields : DefX := ⟨fun K => (He.ga K "_law_fields"), ⟨("_law_fields", none), "_law_fields", "_law_fields", defArgs s_law_fields, defBody s_law_fields, defScope s_law_fields, [], []⟩⟩
def dd_law_seconds : DefX := ⟨fun K => (He.ga K "_law_seconds"), ⟨("_law_seconds", none), "_law_seconds", "_law_seconds", defArgs s_law_seconds, defBody s_law_seconds, defScope s_law_seconds, [], []⟩⟩
def dd_law : DefX := ⟨fun K => (He.ga K "law"), ⟨("law", none), "law", "law", defArgs s_law, defBody s_law, defScope s_law, [], []⟩⟩
def fns : List DefX := [dd_BadEnd___init__, dd_BadFault___init__, dd_BadFrame___init__, dd_BadText___init__, dd_BadCommand___init__, dd_NoPromise___init__, dd_NoStation___init__, dd_NoName___init__, dd_NoOutcome___init__, dd_BadDeed___init__, dd_Endless___init__, dd_TooMany___init__, dd_Taken___init__, dd_law_take, dd_law_bag, dd_law_any, dd_law_family, dd_law_base, dd_law_made, dd_law_fields, dd_law_seconds, dd_law]
def fas : List Fac := [etabB, excBB "BadCommand", excBB "BadDeed", excBB "BadEnd", excBB "BadFault", excBB "BadFrame", excBB "BadText", excBB "Endless", excBB "NoName", excBB "NoOutcome", excBB "NoPromise", excBB "NoStation", excBB "Taken", excBB "TooMany", ex0B "NoHearer", ex0B "NoLine", ex0B "NothingToUndo", ex0B "NothingWaits", ex0B "Unbounded", ex0B "Unsound", freeB "ArithmeticError", freeB "IndexError", freeB "KeyError", freeB "LookupError", freeB "OverflowError", freeB "RuntimeError", freeB "TypeError", freeB "ValueError", freeB "ZeroDivisionError", freeB "abs", freeB "enumerate", freeB "int", freeB "isinstance", freeB "len", freeB "max", freeB "min", freeB "range", freeB "repr", gloB "BadCommand", gloB "BadDeed", gloB "BadEnd", gloB "BadFault", gloB "BadFrame", gloB "BadText", gloB "Endless", gloB "NoHearer", gloB "NoLine", gloB "NoName", gloB "NoOutcome", gloB "NoPromise", gloB "NoStation", gloB "NothingToUndo", gloB "NothingWaits", gloB "Taken", gloB "TooMany", gloB "Unbounded", gloB "Unsound", gloB "_law_any", gloB "_law_bag", gloB "_law_base", gloB "_law_family", gloB "_law_fields", gloB "_law_made", gloB "_law_seconds", gloB "_law_take", noatB "BadCommand" "command", noatB "BadDeed" "index", noatB "BadEnd" "part", noatB "BadEnd" "row", noatB "BadFault" "bit", noatB "BadFault" "station", noatB "BadFrame" "frame", noatB "BadText" "text", noatB "Endless" "bit", noatB "Endless" "ring", noatB "NoName" "name", noatB "NoOutcome" "outcome", noatB "NoPromise" "promise", noatB "NoStation" "station", noatB "Taken" "frame", noatB "TooMany" "limit", smB, gloB "law"]
abbrev R : PySem.W.OpenRow := PySem.W.OpenLaw.row PySem.Challenge.rw_strongbit_k08_errors_made
abbrev hk : PySem.W.Hook := hookF [mainGlobals, cStatics] [sysModules] 4 fas fns
def ob (s : PySem.W.SharedT) : He.AlD := obsFG [mainGlobals, cStatics] [sysModules] 4 fas fns (HandSHeadRun.getT s)
theorem ob_eq (s : PySem.W.SharedT) : ob s = hk.obs s.abs := obsFG_eq (HandSHeadRun.getT_eq s)
def loose : List Str := [("BadEnd" : Str), ("BadFault" : Str), ("BadFrame" : Str), ("BadText" : Str), ("BadCommand" : Str), ("NoPromise" : Str), ("NoStation" : Str), ("NoName" : Str), ("NoOutcome" : Str), ("NothingToUndo" : Str), ("BadDeed" : Str), ("Endless" : Str), ("NothingWaits" : Str), ("NoHearer" : Str), ("NoLine" : Str), ("TooMany" : Str), ("Unsound" : Str), ("Unbounded" : Str), ("Taken" : Str), ("_law_bag" : Str), ("_law_take" : Str), ("_law_any" : Str), ("_law_family" : Str), ("_law_base" : Str), ("_law_made" : Str), ("_law_fields" : Str), ("_law_seconds" : Str)]
theorem runS (w : World) : HandSHeadRun.RunEq R (PySem.W.view R.prog [29]) (hookF [mainGlobals, cStatics] [sysModules] 4 [] []) (fun s => obsFG [mainGlobals, cStatics] [sysModules] 4 [] [] (HandSHeadRun.getT s)) 20000 loose w := by
  intro os
  kernel_rfl
open HandSHeadRun PySem.W in
theorem runO (w : World) (os : OsState) : (HandSHeadRun.endF (stepQ (denQ tabQ) R.prog w) 20000 R.prog w os).map ob = some (hk.val w) := by
  kernel_rfl
theorem run (w : World) : HandSHeadRun.RunEq R (PySem.W.view R.prog [29]) hk ob 20000 loose w := by
  intro os
  have a := runS w os
  have c := runO w os
  revert a c
  generalize HandSHeadRun.endF _ _ _ _ _ = X
  intro a c
  cases X with
  | none => cases c
  | some s =>
    rw [Option.map_some] at a c ⊢
    injection a with a
    injection c with c
    injection a with a1 a2
    injection a2 with a2 a3
    rw [a1, a2, c]
open PySem PySem.W PySem.Calls PyProof.Rows in
set_option maxRecDepth 100000 in
set_option maxHeartbeats 0 in
theorem headH (said : R.wellSaid = true) (hw : R.toRowW.promised) (call : WalkO (view R.prog [29]) loose (XL (view R.prog [29]) []) hk.says R.toRowW (HandSHeadRun.topDef R.prog 29) [] fun f vs => PySem.call f vs) : R.Holds :=
  HandSHeadRun.head_any (r := R) (q := view R.prog [29]) (H := hk) (ob := ob) (M := 20000) (loose := loose) (d := HandSHeadRun.topDef R.prog 29) (kwd := []) ob_eq
    (by kernel_rfl) (fun s => by kernel_rfl) run (by kernel_rfl) (by kernel_rfl) (by kernel_rfl) (by rfl) said (by decide +kernel) ⟨rfl, rfl, rfl, rfl, rfl, by decide +kernel⟩ hw call
open PySem PySem.W PySem.Calls PyProof.Rows in
set_option maxRecDepth 100000 in
set_option maxHeartbeats 0 in
theorem lawH (hw : R.toRowW.promised) (call : WalkO (view R.prog [29]) loose (XL (view R.prog [29]) []) hk.says R.toRowW (HandSHeadRun.topDef R.prog 29) [] fun f vs => PySem.call f vs) : PySem.Challenge.rw_strongbit_k08_errors_made.Holds := by
  w_on; o_law
  exact headH (by assumption) hw call
end K08
set_option Elab.async false
set_option linter.all false
set_option maxRecDepth 100000
set_option maxHeartbeats 4000000
namespace K08
open PySem PySem.Spec PyProof.Rows L2 DL
open ClX (CRead CVal)
local macro_rules | `(tactic| walk_at "d1") => `(tactic| first | ((with_reducible apply i_var); exact rfl) | ((with_reducible apply i_gtup); exact rfl) | ((with_reducible apply i_augI); exact rfl) | ((with_reducible apply i_ixT); exact rfl) | ((with_reducible apply i_ixL); exact rfl) | with_reducible refine i_seq ?_ | with_reducible refine i_asg ?_ | with_reducible refine i_gname ?_ | with_reducible refine i_c ?_ | with_reducible refine i_op ?_ | with_reducible refine i_cb ?_ | with_reducible refine i_cons ?_ | with_reducible refine i_nil ?_ | with_reducible refine i_expr ?_ | with_reducible refine i_ret ?_ | with_reducible refine i_retN ?_ | with_reducible refine i_next ?_ | with_reducible refine i_for ?_ | with_reducible refine i_par ?_ | with_reducible refine i_test ?_ | with_reducible refine i_tup ?_ | with_reducible refine i_lst ?_ | ((with_reducible refine i_sz ?_ ?_); (focus exact Nat.le_of_ble_eq_true rfl)) | with_reducible refine i_lstO ?_ | with_reducible refine i_break ?_ | with_reducible refine i_cont ?_ | with_reducible refine i_gnil ?_ | with_reducible refine i_gcons ?_ | with_reducible refine i_tru ?_ | with_reducible refine i_and ?_ | with_reducible refine i_or ?_ | with_reducible refine i_not ?_ | with_reducible refine i_andV ?_ | with_reducible refine i_orV ?_ | with_reducible refine i_notV ?_ | with_reducible refine i_neg ?_ | with_reducible refine i_chain ?_ | with_reducible refine i_call ?_ | with_reducible refine i_callK ?_ | with_reducible refine i_append ?_ | with_reducible refine i_gsub ?_ | with_reducible refine i_sl ?_ | with_reducible refine i_slT ?_ | with_reducible refine i_slL ?_ | with_reducible refine i_oN ?_ | with_reducible refine i_oS ?_ | with_reducible refine i_lc ?_ | with_reducible refine i_lc2 ?_ | with_reducible refine i_lc2O ?_ | with_reducible refine i_lcN ?_ | with_reducible refine i_lcO ?_ | with_reducible refine i_yes ?_ | with_reducible refine i_listRg1 ?_ | with_reducible refine i_rg1 ?_ | with_reducible refine i_rg2 ?_ | with_reducible refine i_seqI ?_ | with_reducible refine i_seqT ?_ | with_reducible refine i_seqL ?_ | with_reducible refine i_lt ?_ | with_reducible refine i_le ?_ | with_reducible refine i_gt ?_ | with_reducible refine i_ge ?_ | with_reducible refine i_sub ?_ | with_reducible refine i_addI ?_ | with_reducible refine i_int ?_ | with_reducible refine i_intb ?_ | with_reducible refine i_abs ?_ | with_reducible refine i_min2 ?_ | with_reducible refine i_max2 ?_ | with_reducible refine i_isN ?_ | with_reducible refine i_notN ?_ | with_reducible refine i_lenL ?_ | with_reducible refine i_lenT ?_ | ((with_reducible apply i_ixO); (focus (first | assumption | exact setO_same | (rw [setO_ne (by assumption)]; first | assumption | exact setO_same))); exact rfl) | ((with_reducible apply i_lenO); (focus (first | assumption | exact setO_same | (rw [setO_ne (by assumption)]; first | assumption | exact setO_same)))) | ((with_reducible apply i_appK); (focus (first | assumption | exact setO_same | (rw [setO_ne (by assumption)]; first | assumption | exact setO_same)))) | ((with_reducible apply i_subK); (focus (first | assumption | exact setO_same | (rw [setO_ne (by assumption)]; first | assumption | exact setO_same))); exact rfl) | ((with_reducible apply i_slO); (focus (first | assumption | exact setO_same | (rw [setO_ne (by assumption)]; first | assumption | exact setO_same)))) | ((with_reducible apply i_seqO); (focus (first | assumption | exact setO_same | (rw [setO_ne (by assumption)]; first | assumption | exact setO_same)))) | ((with_reducible apply i_appK2); (focus (first | assumption | exact setO_same | (rw [setO_ne (by assumption)]; first | assumption | exact setO_same)))) | with_reducible refine i_ice ?_ | with_reducible refine i_iceL ?_ | ((with_reducible apply i_iceK); (focus (first | assumption | exact setO_same | (rw [setO_ne (by assumption)]; first | assumption | exact setO_same)))) | with_reducible refine i_fld ?_ | ((with_reducible apply i_fldK); (focus (first | assumption | exact setO_same | (rw [setO_ne (by assumption)]; first | assumption | exact setO_same))); exact rfl) | with_reducible refine i_sfld ?_ | with_reducible refine i_make ?_ | with_reducible refine i_callK0 ?_ | with_reducible refine i_enum2 ?_ | with_reducible refine i_enumL ?_ | with_reducible refine i_enumT ?_ | with_reducible refine i_par3 ?_ | with_reducible refine i_dsp2 ?_ | ((with_reducible apply i_isi (b := true)); exact rfl; exact rfl; exact rfl) | ((with_reducible apply i_isi (b := false)); exact rfl; exact rfl; exact rfl) | with_reducible refine i_eqI ?_ | with_reducible refine i_neI ?_ | with_reducible refine i_truB ?_ | ((with_reducible apply i_fldI); exact rfl) | with_reducible refine i_iceI ?_ | with_reducible refine i_join ?_ | with_reducible refine i_dict0 ?_ | with_reducible refine i_isiI ?_ | with_reducible refine i_ownIn ?_ | with_reducible refine i_ownEq ?_ | with_reducible refine i_ownLen ?_ | with_reducible refine i_ownStr ?_ | with_reducible refine i_strS ?_ | with_reducible refine i_fmt ?_ | with_reducible refine i_pop ?_ | with_reducible refine i_rem ?_ | with_reducible refine i_listRg2 ?_ | with_reducible refine i_listRg2O ?_ | ((with_reducible apply i_popK); (focus (first | assumption | exact setO_same | (rw [setO_ne (by assumption)]; first | assumption | exact setO_same)))) | with_reducible refine i_raise ?_ | with_reducible refine i_tryAs ?_ | with_reducible refine i_xf ?_ | ((with_reducible apply i_xfK); exact rfl) | with_reducible refine i_js ?_ | with_reducible refine i_js0 ?_ | with_reducible refine i_makeK0 ?_ | with_reducible refine i_own ?_ | with_reducible refine i_ownT ?_ | with_reducible refine i_lenZ ?_ | with_reducible refine i_sortZ ?_ | with_reducible refine i_sortZT ?_ | with_reducible refine i_setL ?_ | with_reducible refine i_setLT ?_ | with_reducible refine i_sc ?_ | with_reducible refine i_scT ?_ | with_reducible refine i_setQ ?_ | with_reducible refine i_sc2 ?_ | with_reducible refine i_lenB ?_ | with_reducible refine i_bl ?_ | with_reducible refine i_tm ?_ | with_reducible refine i_lcnt ?_ | with_reducible refine i_setTI ?_ | with_reducible refine i_setMT ?_ | ((with_reducible apply i_augL); exact rfl) | with_reducible refine i_scB ?_ | with_reducible refine i_key ?_ | with_reducible refine i_revL ?_ | with_reducible refine i_revT ?_ | with_reducible refine i_zip ?_ | with_reducible refine i_ltAI ?_ | with_reducible refine i_ltAS ?_ | with_reducible refine i_inRg1 ?_ | with_reducible refine i_inRg2 ?_ | with_reducible refine i_listRg1O ?_ | with_reducible refine i_tryM ?_ | with_reducible refine i_tryN ?_ | with_reducible refine i_upd ?_ | with_reducible refine i_mat ?_ | with_reducible refine i_matK ?_ | with_reducible refine i_mc0 ?_ | ((with_reducible apply i_mcY); (focus exact rfl)) | ((with_reducible apply i_mcN); (focus exact Nat.ne_of_beq_eq_false rfl)) | with_reducible refine i_ltT ?_ | with_reducible refine i_xi ?_ | with_reducible refine i_split ?_ | with_reducible refine i_count ?_ | with_reducible refine i_m0 ?_ | with_reducible refine i_m0K ?_ | with_reducible refine i_starA ?_ | with_reducible refine i_cm ?_ | with_reducible refine i_cmK ?_ | ((with_reducible apply i_makeL); exact rfl) | with_reducible refine i_int2I ?_ | with_reducible refine i_int2B ?_ | with_reducible refine i_clear ?_ | ((with_reducible apply i_clearK); (focus (first | assumption | exact setO_same | (rw [setO_ne (by assumption)]; first | assumption | exact setO_same)))) | with_reducible refine i_meth ?_ | with_reducible refine i_methM ?_ | ((with_reducible apply i_methKwO); (focus (first | assumption | exact setO_same | (rw [setO_ne (by assumption)]; first | assumption | exact setO_same))); exact rfl) | with_reducible refine i_extend ?_ | with_reducible refine i_lam ?_ | with_reducible refine i_dput ?_ | with_reducible refine i_dict0N ?_ | with_reducible refine i_dict1 ?_ | with_reducible refine i_disp2 ?_ | with_reducible refine i_disp3 ?_ | with_reducible refine i_dispN ?_ | with_reducible refine i_goC ?_ | ((with_reducible apply i_goK); exact rfl) | with_reducible refine i_goN ?_ | with_reducible refine i_setd ?_ | with_reducible refine i_idxL ?_ | with_reducible refine i_ixLK ?_ | with_reducible refine i_dc ?_ | with_reducible refine i_dcN ?_ | with_reducible refine i_isB ?_ | with_reducible refine i_notB ?_ | with_reducible refine i_dct ?_ | with_reducible refine i_dctN ?_ | with_reducible refine i_ckw ?_ | with_reducible refine i_iceA ?_ | with_reducible refine i_get2 ?_ | with_reducible refine i_get1 ?_ | with_reducible refine i_prop ?_ | with_reducible refine i_propI ?_ | ((with_reducible apply i_methI); exact rfl) | ((with_reducible apply i_methO); (focus (first | assumption | exact setO_same | (rw [setO_ne (by assumption)]; first | assumption | exact setO_same))); exact rfl))
local macro_rules | `(tactic| walk_at "dl") => `(tactic| repeat (walk_at "d1"))
local macro_rules | `(tactic| walk_at "dw") => `(tactic| repeat (first | with_reducible refine i_if ?_ | with_reducible refine i_ifE ?_ | walk_at "d1"))
structure Txt (K : Frag) (mg : Str → Option Value) : Prop where
  etab : ETab K
  ex_BadCommand : ExCB K (He.ga K "BadCommand") (He.ma K (He.ga K "BadCommand") "__init__")
  xf_BadCommand : XfC K (He.ga K "BadCommand")
  ex_BadDeed : ExCB K (He.ga K "BadDeed") (He.ma K (He.ga K "BadDeed") "__init__")
  xf_BadDeed : XfC K (He.ga K "BadDeed")
  ex_BadEnd : ExCB K (He.ga K "BadEnd") (He.ma K (He.ga K "BadEnd") "__init__")
  xf_BadEnd : XfC K (He.ga K "BadEnd")
  ex_BadFault : ExCB K (He.ga K "BadFault") (He.ma K (He.ga K "BadFault") "__init__")
  xf_BadFault : XfC K (He.ga K "BadFault")
  ex_BadFrame : ExCB K (He.ga K "BadFrame") (He.ma K (He.ga K "BadFrame") "__init__")
  xf_BadFrame : XfC K (He.ga K "BadFrame")
  ex_BadText : ExCB K (He.ga K "BadText") (He.ma K (He.ga K "BadText") "__init__")
  xf_BadText : XfC K (He.ga K "BadText")
  ex_Endless : ExCB K (He.ga K "Endless") (He.ma K (He.ga K "Endless") "__init__")
  xf_Endless : XfC K (He.ga K "Endless")
  ex_NoName : ExCB K (He.ga K "NoName") (He.ma K (He.ga K "NoName") "__init__")
  xf_NoName : XfC K (He.ga K "NoName")
  ex_NoOutcome : ExCB K (He.ga K "NoOutcome") (He.ma K (He.ga K "NoOutcome") "__init__")
  xf_NoOutcome : XfC K (He.ga K "NoOutcome")
  ex_NoPromise : ExCB K (He.ga K "NoPromise") (He.ma K (He.ga K "NoPromise") "__init__")
  xf_NoPromise : XfC K (He.ga K "NoPromise")
  ex_NoStation : ExCB K (He.ga K "NoStation") (He.ma K (He.ga K "NoStation") "__init__")
  xf_NoStation : XfC K (He.ga K "NoStation")
  ex_Taken : ExCB K (He.ga K "Taken") (He.ma K (He.ga K "Taken") "__init__")
  xf_Taken : XfC K (He.ga K "Taken")
  ex_TooMany : ExCB K (He.ga K "TooMany") (He.ma K (He.ga K "TooMany") "__init__")
  xf_TooMany : XfC K (He.ga K "TooMany")
  e0_NoHearer : Ex0 K (He.ga K "NoHearer")
  e0_NoLine : Ex0 K (He.ga K "NoLine")
  e0_NothingToUndo : Ex0 K (He.ga K "NothingToUndo")
  e0_NothingWaits : Ex0 K (He.ga K "NothingWaits")
  e0_Unbounded : Ex0 K (He.ga K "Unbounded")
  e0_Unsound : Ex0 K (He.ga K "Unsound")
  b_ArithmeticError : mg "ArithmeticError" = none
  b_IndexError : mg "IndexError" = none
  b_KeyError : mg "KeyError" = none
  b_LookupError : mg "LookupError" = none
  b_OverflowError : mg "OverflowError" = none
  b_RuntimeError : mg "RuntimeError" = none
  b_TypeError : mg "TypeError" = none
  b_ValueError : mg "ValueError" = none
  b_ZeroDivisionError : mg "ZeroDivisionError" = none
  b_abs : mg "abs" = none
  b_enumerate : mg "enumerate" = none
  b_int : mg "int" = none
  b_isinstance : mg "isinstance" = none
  b_len : mg "len" = none
  b_max : mg "max" = none
  b_min : mg "min" = none
  b_range : mg "range" = none
  b_repr : mg "repr" = none
  g_BadCommand : mg "BadCommand" = some (.ref (He.ga K "BadCommand"))
  g_BadDeed : mg "BadDeed" = some (.ref (He.ga K "BadDeed"))
  g_BadEnd : mg "BadEnd" = some (.ref (He.ga K "BadEnd"))
  g_BadFault : mg "BadFault" = some (.ref (He.ga K "BadFault"))
  g_BadFrame : mg "BadFrame" = some (.ref (He.ga K "BadFrame"))
  g_BadText : mg "BadText" = some (.ref (He.ga K "BadText"))
  g_Endless : mg "Endless" = some (.ref (He.ga K "Endless"))
  g_NoHearer : mg "NoHearer" = some (.ref (He.ga K "NoHearer"))
  g_NoLine : mg "NoLine" = some (.ref (He.ga K "NoLine"))
  g_NoName : mg "NoName" = some (.ref (He.ga K "NoName"))
  g_NoOutcome : mg "NoOutcome" = some (.ref (He.ga K "NoOutcome"))
  g_NoPromise : mg "NoPromise" = some (.ref (He.ga K "NoPromise"))
  g_NoStation : mg "NoStation" = some (.ref (He.ga K "NoStation"))
  g_NothingToUndo : mg "NothingToUndo" = some (.ref (He.ga K "NothingToUndo"))
  g_NothingWaits : mg "NothingWaits" = some (.ref (He.ga K "NothingWaits"))
  g_Taken : mg "Taken" = some (.ref (He.ga K "Taken"))
  g_TooMany : mg "TooMany" = some (.ref (He.ga K "TooMany"))
  g_Unbounded : mg "Unbounded" = some (.ref (He.ga K "Unbounded"))
  g_Unsound : mg "Unsound" = some (.ref (He.ga K "Unsound"))
  g_law_any : mg "_law_any" = some (.ref (He.ga K "_law_any"))
  g_law_bag : mg "_law_bag" = some (.ref (He.ga K "_law_bag"))
  g_law_base : mg "_law_base" = some (.ref (He.ga K "_law_base"))
  g_law_family : mg "_law_family" = some (.ref (He.ga K "_law_family"))
  g_law_fields : mg "_law_fields" = some (.ref (He.ga K "_law_fields"))
  g_law_made : mg "_law_made" = some (.ref (He.ga K "_law_made"))
  g_law_seconds : mg "_law_seconds" = some (.ref (He.ga K "_law_seconds"))
  g_law_take : mg "_law_take" = some (.ref (He.ga K "_law_take"))
  n_BadCommand_command : NoAttr K (He.ga K "BadCommand") "command"
  n_BadDeed_index : NoAttr K (He.ga K "BadDeed") "index"
  n_BadEnd_part : NoAttr K (He.ga K "BadEnd") "part"
  n_BadEnd_row : NoAttr K (He.ga K "BadEnd") "row"
  n_BadFault_bit : NoAttr K (He.ga K "BadFault") "bit"
  n_BadFault_station : NoAttr K (He.ga K "BadFault") "station"
  n_BadFrame_frame : NoAttr K (He.ga K "BadFrame") "frame"
  n_BadText_text : NoAttr K (He.ga K "BadText") "text"
  n_Endless_bit : NoAttr K (He.ga K "Endless") "bit"
  n_Endless_ring : NoAttr K (He.ga K "Endless") "ring"
  n_NoName_name : NoAttr K (He.ga K "NoName") "name"
  n_NoOutcome_outcome : NoAttr K (He.ga K "NoOutcome") "outcome"
  n_NoPromise_promise : NoAttr K (He.ga K "NoPromise") "promise"
  n_NoStation_station : NoAttr K (He.ga K "NoStation") "station"
  n_Taken_frame : NoAttr K (He.ga K "Taken") "frame"
  n_TooMany_limit : NoAttr K (He.ga K "TooMany") "limit"
  sm : SmOk K
abbrev N_BadEnd___init__ : List Str := ["self", "part", "row"]
abbrev P_BadEnd___init__ : List Str := ["self", "part", "row"]
theorem sc_BadEnd___init__ : FnScope N_BadEnd___init__ P_BadEnd___init__ (defScope s_BadEnd___init__) := ⟨rfl, rfl, rfl, by decide +kernel, rfl, by decide +kernel, by decide +kernel⟩
theorem bd_BadEnd___init__ : Bd0 "__init__" "BadEnd.__init__" s_BadEnd___init__ P_BadEnd___init__ := fun _ _ _ _ _ _ us hl => match us, hl with | [_, _, _], _ => rfl
theorem bk_BadEnd___init___row_part : BdK "__init__" "BadEnd.__init__" s_BadEnd___init__ P_BadEnd___init__ 1 ["row", "part"] [0, 2, 1] := fun _ _ _ _ _ _ us ws h1 h2 => match us, ws, h1, h2 with | [_], [_, _], _, _ => rfl
abbrev Fn_BadEnd___init__ (P : Program) (w : World) (K : Frag) (mg : Str → Option Value) (base : Heap) : Prop := ExW2 P w K mg base (He.ga K "BadEnd") "part" "row" (He.ma K (He.ga K "BadEnd") "__init__")
theorem ok_BadEnd___init__ {P : Program} {w : World} {K : Frag} {mg : Str → Option Value} {base : Heap} (F : HasD K "__init__" "BadEnd.__init__" s_BadEnd___init__ [] [] (He.ma K (He.ga K "BadEnd") "__init__")) (T : Txt K mg) : Fn_BadEnd___init__ P w K mg base := exW2_E F sc_BadEnd___init__ bd_BadEnd___init__ bk_BadEnd___init___row_part T.ex_BadEnd.T T.n_BadEnd_part T.n_BadEnd_row rfl (fun _ => rfl) (fun _ => rfl)
abbrev N_BadFault___init__ : List Str := ["self", "bit", "station"]
abbrev P_BadFault___init__ : List Str := ["self", "bit", "station"]
theorem sc_BadFault___init__ : FnScope N_BadFault___init__ P_BadFault___init__ (defScope s_BadFault___init__) := ⟨rfl, rfl, rfl, by decide +kernel, rfl, by decide +kernel, by decide +kernel⟩
theorem bd_BadFault___init__ : Bd0 "__init__" "BadFault.__init__" s_BadFault___init__ P_BadFault___init__ := fun _ _ _ _ _ _ us hl => match us, hl with | [_, _, _], _ => rfl
theorem bk_BadFault___init___station_bit : BdK "__init__" "BadFault.__init__" s_BadFault___init__ P_BadFault___init__ 1 ["station", "bit"] [0, 2, 1] := fun _ _ _ _ _ _ us ws h1 h2 => match us, ws, h1, h2 with | [_], [_, _], _, _ => rfl
abbrev Fn_BadFault___init__ (P : Program) (w : World) (K : Frag) (mg : Str → Option Value) (base : Heap) : Prop := ExW2 P w K mg base (He.ga K "BadFault") "bit" "station" (He.ma K (He.ga K "BadFault") "__init__")
theorem ok_BadFault___init__ {P : Program} {w : World} {K : Frag} {mg : Str → Option Value} {base : Heap} (F : HasD K "__init__" "BadFault.__init__" s_BadFault___init__ [] [] (He.ma K (He.ga K "BadFault") "__init__")) (T : Txt K mg) : Fn_BadFault___init__ P w K mg base := exW2_E F sc_BadFault___init__ bd_BadFault___init__ bk_BadFault___init___station_bit T.ex_BadFault.T T.n_BadFault_bit T.n_BadFault_station rfl (fun _ => rfl) (fun _ => rfl)
abbrev N_BadFrame___init__ : List Str := ["self", "frame"]
abbrev P_BadFrame___init__ : List Str := ["self", "frame"]
theorem sc_BadFrame___init__ : FnScope N_BadFrame___init__ P_BadFrame___init__ (defScope s_BadFrame___init__) := ⟨rfl, rfl, rfl, by decide +kernel, rfl, by decide +kernel, by decide +kernel⟩
theorem bd_BadFrame___init__ : Bd0 "__init__" "BadFrame.__init__" s_BadFrame___init__ P_BadFrame___init__ := fun _ _ _ _ _ _ us hl => match us, hl with | [_, _], _ => rfl
theorem bk_BadFrame___init___frame : BdK "__init__" "BadFrame.__init__" s_BadFrame___init__ P_BadFrame___init__ 1 ["frame"] [0, 1] := fun _ _ _ _ _ _ us ws h1 h2 => match us, ws, h1, h2 with | [_], [_], _, _ => rfl
abbrev Fn_BadFrame___init__ (P : Program) (w : World) (K : Frag) (mg : Str → Option Value) (base : Heap) : Prop := ExW1 P w K mg base (He.ga K "BadFrame") "frame" (He.ma K (He.ga K "BadFrame") "__init__")
theorem ok_BadFrame___init__ {P : Program} {w : World} {K : Frag} {mg : Str → Option Value} {base : Heap} (F : HasD K "__init__" "BadFrame.__init__" s_BadFrame___init__ [] [] (He.ma K (He.ga K "BadFrame") "__init__")) (T : Txt K mg) : Fn_BadFrame___init__ P w K mg base := exW1_E F sc_BadFrame___init__ bd_BadFrame___init__ bk_BadFrame___init___frame T.ex_BadFrame.T T.n_BadFrame_frame rfl (fun _ => rfl)
abbrev N_BadText___init__ : List Str := ["self", "text"]
abbrev P_BadText___init__ : List Str := ["self", "text"]
theorem sc_BadText___init__ : FnScope N_BadText___init__ P_BadText___init__ (defScope s_BadText___init__) := ⟨rfl, rfl, rfl, by decide +kernel, rfl, by decide +kernel, by decide +kernel⟩
theorem bd_BadText___init__ : Bd0 "__init__" "BadText.__init__" s_BadText___init__ P_BadText___init__ := fun _ _ _ _ _ _ us hl => match us, hl with | [_, _], _ => rfl
theorem bk_BadText___init___text : BdK "__init__" "BadText.__init__" s_BadText___init__ P_BadText___init__ 1 ["text"] [0, 1] := fun _ _ _ _ _ _ us ws h1 h2 => match us, ws, h1, h2 with | [_], [_], _, _ => rfl
abbrev Fn_BadText___init__ (P : Program) (w : World) (K : Frag) (mg : Str → Option Value) (base : Heap) : Prop := ExW1 P w K mg base (He.ga K "BadText") "text" (He.ma K (He.ga K "BadText") "__init__")
theorem ok_BadText___init__ {P : Program} {w : World} {K : Frag} {mg : Str → Option Value} {base : Heap} (F : HasD K "__init__" "BadText.__init__" s_BadText___init__ [] [] (He.ma K (He.ga K "BadText") "__init__")) (T : Txt K mg) : Fn_BadText___init__ P w K mg base := exW1_E F sc_BadText___init__ bd_BadText___init__ bk_BadText___init___text T.ex_BadText.T T.n_BadText_text rfl (fun _ => rfl)
abbrev N_BadCommand___init__ : List Str := ["self", "command"]
abbrev P_BadCommand___init__ : List Str := ["self", "command"]
theorem sc_BadCommand___init__ : FnScope N_BadCommand___init__ P_BadCommand___init__ (defScope s_BadCommand___init__) := ⟨rfl, rfl, rfl, by decide +kernel, rfl, by decide +kernel, by decide +kernel⟩
theorem bd_BadCommand___init__ : Bd0 "__init__" "BadCommand.__init__" s_BadCommand___init__ P_BadCommand___init__ := fun _ _ _ _ _ _ us hl => match us, hl with | [_, _], _ => rfl
theorem bk_BadCommand___init___command : BdK "__init__" "BadCommand.__init__" s_BadCommand___init__ P_BadCommand___init__ 1 ["command"] [0, 1] := fun _ _ _ _ _ _ us ws h1 h2 => match us, ws, h1, h2 with | [_], [_], _, _ => rfl
abbrev Fn_BadCommand___init__ (P : Program) (w : World) (K : Frag) (mg : Str → Option Value) (base : Heap) : Prop := ExW1 P w K mg base (He.ga K "BadCommand") "command" (He.ma K (He.ga K "BadCommand") "__init__")
theorem ok_BadCommand___init__ {P : Program} {w : World} {K : Frag} {mg : Str → Option Value} {base : Heap} (F : HasD K "__init__" "BadCommand.__init__" s_BadCommand___init__ [] [] (He.ma K (He.ga K "BadCommand") "__init__")) (T : Txt K mg) : Fn_BadCommand___init__ P w K mg base := exW1_E F sc_BadCommand___init__ bd_BadCommand___init__ bk_BadCommand___init___command T.ex_BadCommand.T T.n_BadCommand_command rfl (fun _ => rfl)
abbrev N_NoPromise___init__ : List Str := ["self", "promise"]
abbrev P_NoPromise___init__ : List Str := ["self", "promise"]
theorem sc_NoPromise___init__ : FnScope N_NoPromise___init__ P_NoPromise___init__ (defScope s_NoPromise___init__) := ⟨rfl, rfl, rfl, by decide +kernel, rfl, by decide +kernel, by decide +kernel⟩
theorem bd_NoPromise___init__ : Bd0 "__init__" "NoPromise.__init__" s_NoPromise___init__ P_NoPromise___init__ := fun _ _ _ _ _ _ us hl => match us, hl with | [_, _], _ => rfl
theorem bk_NoPromise___init___promise : BdK "__init__" "NoPromise.__init__" s_NoPromise___init__ P_NoPromise___init__ 1 ["promise"] [0, 1] := fun _ _ _ _ _ _ us ws h1 h2 => match us, ws, h1, h2 with | [_], [_], _, _ => rfl
abbrev Fn_NoPromise___init__ (P : Program) (w : World) (K : Frag) (mg : Str → Option Value) (base : Heap) : Prop := ExW1 P w K mg base (He.ga K "NoPromise") "promise" (He.ma K (He.ga K "NoPromise") "__init__")
theorem ok_NoPromise___init__ {P : Program} {w : World} {K : Frag} {mg : Str → Option Value} {base : Heap} (F : HasD K "__init__" "NoPromise.__init__" s_NoPromise___init__ [] [] (He.ma K (He.ga K "NoPromise") "__init__")) (T : Txt K mg) : Fn_NoPromise___init__ P w K mg base := exW1_E F sc_NoPromise___init__ bd_NoPromise___init__ bk_NoPromise___init___promise T.ex_NoPromise.T T.n_NoPromise_promise rfl (fun _ => rfl)
abbrev N_NoStation___init__ : List Str := ["self", "station"]
abbrev P_NoStation___init__ : List Str := ["self", "station"]
theorem sc_NoStation___init__ : FnScope N_NoStation___init__ P_NoStation___init__ (defScope s_NoStation___init__) := ⟨rfl, rfl, rfl, by decide +kernel, rfl, by decide +kernel, by decide +kernel⟩
theorem bd_NoStation___init__ : Bd0 "__init__" "NoStation.__init__" s_NoStation___init__ P_NoStation___init__ := fun _ _ _ _ _ _ us hl => match us, hl with | [_, _], _ => rfl
theorem bk_NoStation___init___station : BdK "__init__" "NoStation.__init__" s_NoStation___init__ P_NoStation___init__ 1 ["station"] [0, 1] := fun _ _ _ _ _ _ us ws h1 h2 => match us, ws, h1, h2 with | [_], [_], _, _ => rfl
abbrev Fn_NoStation___init__ (P : Program) (w : World) (K : Frag) (mg : Str → Option Value) (base : Heap) : Prop := ExW1 P w K mg base (He.ga K "NoStation") "station" (He.ma K (He.ga K "NoStation") "__init__")
theorem ok_NoStation___init__ {P : Program} {w : World} {K : Frag} {mg : Str → Option Value} {base : Heap} (F : HasD K "__init__" "NoStation.__init__" s_NoStation___init__ [] [] (He.ma K (He.ga K "NoStation") "__init__")) (T : Txt K mg) : Fn_NoStation___init__ P w K mg base := exW1_E F sc_NoStation___init__ bd_NoStation___init__ bk_NoStation___init___station T.ex_NoStation.T T.n_NoStation_station rfl (fun _ => rfl)
abbrev N_NoName___init__ : List Str := ["self", "name"]
abbrev P_NoName___init__ : List Str := ["self", "name"]
theorem sc_NoName___init__ : FnScope N_NoName___init__ P_NoName___init__ (defScope s_NoName___init__) := ⟨rfl, rfl, rfl, by decide +kernel, rfl, by decide +kernel, by decide +kernel⟩
theorem bd_NoName___init__ : Bd0 "__init__" "NoName.__init__" s_NoName___init__ P_NoName___init__ := fun _ _ _ _ _ _ us hl => match us, hl with | [_, _], _ => rfl
theorem bk_NoName___init___name : BdK "__init__" "NoName.__init__" s_NoName___init__ P_NoName___init__ 1 ["name"] [0, 1] := fun _ _ _ _ _ _ us ws h1 h2 => match us, ws, h1, h2 with | [_], [_], _, _ => rfl
abbrev Fn_NoName___init__ (P : Program) (w : World) (K : Frag) (mg : Str → Option Value) (base : Heap) : Prop := ExW1 P w K mg base (He.ga K "NoName") "name" (He.ma K (He.ga K "NoName") "__init__")
theorem ok_NoName___init__ {P : Program} {w : World} {K : Frag} {mg : Str → Option Value} {base : Heap} (F : HasD K "__init__" "NoName.__init__" s_NoName___init__ [] [] (He.ma K (He.ga K "NoName") "__init__")) (T : Txt K mg) : Fn_NoName___init__ P w K mg base := exW1_E F sc_NoName___init__ bd_NoName___init__ bk_NoName___init___name T.ex_NoName.T T.n_NoName_name rfl (fun _ => rfl)
abbrev N_NoOutcome___init__ : List Str := ["self", "outcome"]
abbrev P_NoOutcome___init__ : List Str := ["self", "outcome"]
theorem sc_NoOutcome___init__ : FnScope N_NoOutcome___init__ P_NoOutcome___init__ (defScope s_NoOutcome___init__) := ⟨rfl, rfl, rfl, by decide +kernel, rfl, by decide +kernel, by decide +kernel⟩
theorem bd_NoOutcome___init__ : Bd0 "__init__" "NoOutcome.__init__" s_NoOutcome___init__ P_NoOutcome___init__ := fun _ _ _ _ _ _ us hl => match us, hl with | [_, _], _ => rfl
theorem bk_NoOutcome___init___outcome : BdK "__init__" "NoOutcome.__init__" s_NoOutcome___init__ P_NoOutcome___init__ 1 ["outcome"] [0, 1] := fun _ _ _ _ _ _ us ws h1 h2 => match us, ws, h1, h2 with | [_], [_], _, _ => rfl
abbrev Fn_NoOutcome___init__ (P : Program) (w : World) (K : Frag) (mg : Str → Option Value) (base : Heap) : Prop := ExW1 P w K mg base (He.ga K "NoOutcome") "outcome" (He.ma K (He.ga K "NoOutcome") "__init__")
theorem ok_NoOutcome___init__ {P : Program} {w : World} {K : Frag} {mg : Str → Option Value} {base : Heap} (F : HasD K "__init__" "NoOutcome.__init__" s_NoOutcome___init__ [] [] (He.ma K (He.ga K "NoOutcome") "__init__")) (T : Txt K mg) : Fn_NoOutcome___init__ P w K mg base := exW1_E F sc_NoOutcome___init__ bd_NoOutcome___init__ bk_NoOutcome___init___outcome T.ex_NoOutcome.T T.n_NoOutcome_outcome rfl (fun _ => rfl)
abbrev N_BadDeed___init__ : List Str := ["self", "index"]
abbrev P_BadDeed___init__ : List Str := ["self", "index"]
theorem sc_BadDeed___init__ : FnScope N_BadDeed___init__ P_BadDeed___init__ (defScope s_BadDeed___init__) := ⟨rfl, rfl, rfl, by decide +kernel, rfl, by decide +kernel, by decide +kernel⟩
theorem bd_BadDeed___init__ : Bd0 "__init__" "BadDeed.__init__" s_BadDeed___init__ P_BadDeed___init__ := fun _ _ _ _ _ _ us hl => match us, hl with | [_, _], _ => rfl
theorem bk_BadDeed___init___index : BdK "__init__" "BadDeed.__init__" s_BadDeed___init__ P_BadDeed___init__ 1 ["index"] [0, 1] := fun _ _ _ _ _ _ us ws h1 h2 => match us, ws, h1, h2 with | [_], [_], _, _ => rfl
abbrev Fn_BadDeed___init__ (P : Program) (w : World) (K : Frag) (mg : Str → Option Value) (base : Heap) : Prop := ExW1 P w K mg base (He.ga K "BadDeed") "index" (He.ma K (He.ga K "BadDeed") "__init__")
theorem ok_BadDeed___init__ {P : Program} {w : World} {K : Frag} {mg : Str → Option Value} {base : Heap} (F : HasD K "__init__" "BadDeed.__init__" s_BadDeed___init__ [] [] (He.ma K (He.ga K "BadDeed") "__init__")) (T : Txt K mg) : Fn_BadDeed___init__ P w K mg base := exW1_E F sc_BadDeed___init__ bd_BadDeed___init__ bk_BadDeed___init___index T.ex_BadDeed.T T.n_BadDeed_index rfl (fun _ => rfl)
abbrev N_Endless___init__ : List Str := ["self", "bit", "ring"]
abbrev P_Endless___init__ : List Str := ["self", "bit", "ring"]
theorem sc_Endless___init__ : FnScope N_Endless___init__ P_Endless___init__ (defScope s_Endless___init__) := ⟨rfl, rfl, rfl, by decide +kernel, rfl, by decide +kernel, by decide +kernel⟩
theorem bd_Endless___init__ : Bd0 "__init__" "Endless.__init__" s_Endless___init__ P_Endless___init__ := fun _ _ _ _ _ _ us hl => match us, hl with | [_, _, _], _ => rfl
theorem bk_Endless___init___ring_bit : BdK "__init__" "Endless.__init__" s_Endless___init__ P_Endless___init__ 1 ["ring", "bit"] [0, 2, 1] := fun _ _ _ _ _ _ us ws h1 h2 => match us, ws, h1, h2 with | [_], [_, _], _, _ => rfl
abbrev Fn_Endless___init__ (P : Program) (w : World) (K : Frag) (mg : Str → Option Value) (base : Heap) : Prop := ExW2 P w K mg base (He.ga K "Endless") "bit" "ring" (He.ma K (He.ga K "Endless") "__init__")
theorem ok_Endless___init__ {P : Program} {w : World} {K : Frag} {mg : Str → Option Value} {base : Heap} (F : HasD K "__init__" "Endless.__init__" s_Endless___init__ [] [] (He.ma K (He.ga K "Endless") "__init__")) (T : Txt K mg) : Fn_Endless___init__ P w K mg base := exW2_E F sc_Endless___init__ bd_Endless___init__ bk_Endless___init___ring_bit T.ex_Endless.T T.n_Endless_bit T.n_Endless_ring rfl (fun _ => rfl) (fun _ => rfl)
abbrev N_TooMany___init__ : List Str := ["self", "limit"]
abbrev P_TooMany___init__ : List Str := ["self", "limit"]
theorem sc_TooMany___init__ : FnScope N_TooMany___init__ P_TooMany___init__ (defScope s_TooMany___init__) := ⟨rfl, rfl, rfl, by decide +kernel, rfl, by decide +kernel, by decide +kernel⟩
theorem bd_TooMany___init__ : Bd0 "__init__" "TooMany.__init__" s_TooMany___init__ P_TooMany___init__ := fun _ _ _ _ _ _ us hl => match us, hl with | [_, _], _ => rfl
theorem bk_TooMany___init___limit : BdK "__init__" "TooMany.__init__" s_TooMany___init__ P_TooMany___init__ 1 ["limit"] [0, 1] := fun _ _ _ _ _ _ us ws h1 h2 => match us, ws, h1, h2 with | [_], [_], _, _ => rfl
abbrev Fn_TooMany___init__ (P : Program) (w : World) (K : Frag) (mg : Str → Option Value) (base : Heap) : Prop := ExW1 P w K mg base (He.ga K "TooMany") "limit" (He.ma K (He.ga K "TooMany") "__init__")
theorem ok_TooMany___init__ {P : Program} {w : World} {K : Frag} {mg : Str → Option Value} {base : Heap} (F : HasD K "__init__" "TooMany.__init__" s_TooMany___init__ [] [] (He.ma K (He.ga K "TooMany") "__init__")) (T : Txt K mg) : Fn_TooMany___init__ P w K mg base := exW1_E F sc_TooMany___init__ bd_TooMany___init__ bk_TooMany___init___limit T.ex_TooMany.T T.n_TooMany_limit rfl (fun _ => rfl)
abbrev N_Taken___init__ : List Str := ["self", "frame"]
abbrev P_Taken___init__ : List Str := ["self", "frame"]
theorem sc_Taken___init__ : FnScope N_Taken___init__ P_Taken___init__ (defScope s_Taken___init__) := ⟨rfl, rfl, rfl, by decide +kernel, rfl, by decide +kernel, by decide +kernel⟩
theorem bd_Taken___init__ : Bd0 "__init__" "Taken.__init__" s_Taken___init__ P_Taken___init__ := fun _ _ _ _ _ _ us hl => match us, hl with | [_, _], _ => rfl
theorem bk_Taken___init___frame : BdK "__init__" "Taken.__init__" s_Taken___init__ P_Taken___init__ 1 ["frame"] [0, 1] := fun _ _ _ _ _ _ us ws h1 h2 => match us, ws, h1, h2 with | [_], [_], _, _ => rfl
abbrev Fn_Taken___init__ (P : Program) (w : World) (K : Frag) (mg : Str → Option Value) (base : Heap) : Prop := ExW1 P w K mg base (He.ga K "Taken") "frame" (He.ma K (He.ga K "Taken") "__init__")
theorem ok_Taken___init__ {P : Program} {w : World} {K : Frag} {mg : Str → Option Value} {base : Heap} (F : HasD K "__init__" "Taken.__init__" s_Taken___init__ [] [] (He.ma K (He.ga K "Taken") "__init__")) (T : Txt K mg) : Fn_Taken___init__ P w K mg base := exW1_E F sc_Taken___init__ bd_Taken___init__ bk_Taken___init___frame T.ex_Taken.T T.n_Taken_frame rfl (fun _ => rfl)
section
variable {P : Program} {w : World} {K : Frag} {mg : Str → Option Value} {base : Heap}
abbrev f_law_take : DF := f_take
abbrev f_law_bag : DF := f_bag
abbrev N_law_take : List Str := ["_law_bag_here", "_law_many", "_law_digit", "_law_mixed"]
abbrev P_law_take : List Str := ["_law_bag_here", "_law_many"]
theorem sc_law_take : FnScope N_law_take P_law_take (defScope s_law_take) := ⟨rfl, rfl, rfl, by decide +kernel, rfl, by decide +kernel, by decide +kernel⟩
theorem bd_law_take : Bd0 "_law_take" "_law_take" s_law_take P_law_take := fun _ _ _ _ _ _ us hl => match us, hl with | [_, _], _ => rfl
abbrev Fn_law_take (P : Program) (w : World) (K : Frag) (mg : Str → Option Value) (base : Heap) : Prop := Fn P w K mg base "_law_take" "_law_take" s_law_take [] [] P_law_take 2 1 f_law_take (He.ga K "_law_take")
theorem ok_law_take {P : Program} {w : World} {K : Frag} {mg : Str → Option Value} {base : Heap} (F : HasD K "_law_take" "_law_take" s_law_take [] [] (He.ga K "_law_take")) (T : Txt K mg) : Fn_law_take P w K mg base := by
  have sc := sc_law_take
  refine fn_E (k := 0) F sc rfl fun cdv A outer s H E O0 H0 F0 ds O q xx hl hf S => ⟨_,
      (ds_cons (ds_if (st_gt S (so_ix S (de_var (pv 0)) de_int (fun _ _ => rfl)) de_int)
       (ds_cons (ds_set (ps_set (i := 2) sc.nd rfl (by first | exact Or.inl rfl | exact Or.inr rfl) (so_mod S (so_int S rfl T.b_int (da_cons (so_ix S (de_var (pv 0)) de_int (fun _ _ => rfl)) da_nil)) (de_var (pv 1)))))
       (ds_cons (ds_asg (ps_asg (so_fdiv S (so_ix S (de_var (pv 0)) de_int (fun _ _ => rfl)) (de_var (pv 1))) (dg_sub (pg_sub (de_var (pv 0)) de_int set_list))))
       (ds_one (ds_ret (de_var (pv 2))))))
       ds_nil)
      (ds_cons (ds_asg (ps_asg (so_add S (so_ix S (de_var (pv 0)) de_int (fun _ _ => rfl)) de_int) (dg_sub (pg_sub (de_var (pv 0)) de_int set_list))))
      (ds_cons (ds_set (ps_set (i := 3) sc.nd rfl (by first | exact Or.inl rfl | exact Or.inr rfl) (so_mod S (so_int S rfl T.b_int (da_cons (so_pow S (so_add S (so_ix S (de_var (pv 0)) de_int (fun _ _ => rfl)) (so_mul S de_int (so_ix S (de_var (pv 0)) de_int (fun _ _ => rfl)))) de_int) da_nil)) de_int)))
      (ds_cons (ds_set (ps_set (i := 3) sc.nd rfl (by first | exact Or.inl rfl | exact Or.inr rfl) (so_mod S (so_int S rfl T.b_int (da_cons (so_pow S (so_add S (de_var (pv 3)) (so_mul S de_int (so_ix S (de_var (pv 0)) de_int (fun _ _ => rfl)))) de_int) da_nil)) de_int)))
      (ds_one (ds_ret (so_mod S (so_fdiv S (de_var (pv 3)) de_int) (de_var (pv 1)))))))))
      , ?_⟩
  obtain ⟨p, n, m, rfl, ⟨a, b, c, hp, h2, h3, h4, h5⟩, h6, h0, h1, hq⟩ := hf
  walk_at "dw"
  refine if_d (fun ha => ?_) (fun ha => ?_)
  · walk_at "dl"
    refine i_mod h0 ?_
    walk_at "dl"
    refine i_fdiv ⟨h0, by omega⟩ ?_
    walk_at "dl"
    exact rt_same (hq _ _ (Int.emod_nonneg _ (by omega)) (Int.emod_lt_of_pos _ h0) ⟨_, _, _, setO_same, h2, h3, h4, by omega⟩)
  · walk_at "dl"
    refine i_mulI (.inl (by omega)) ?_
    walk_at "dl"
    have hpos : 0 ≤ b + 1000003 * (c + 1) := by omega
    have hb : (b + 1000003 * (c + 1)).natAbs < 2 ^ 91 := by omega
    refine i_pow (powW (m := 91) hb (by decide) (by decide) (by decide)) ?_
    walk_at "dl"
    refine i_mod (by decide) ?_
    generalize hx : (b + 1000003 * (c + 1)) ^ (3 : Int).toNat % 2305843009213693921 = x
    have hx1 : 0 ≤ x := by subst hx; exact Int.emod_nonneg _ (by decide)
    have hx2 : x < 2305843009213693921 := by subst hx; exact Int.emod_lt_of_pos _ (by decide)
    walk_at "dl"
    refine i_mulI (.inl (by omega)) ?_
    walk_at "dl"
    refine i_pow (powW (m := 91) (by omega) (by decide) (by decide) (by decide)) ?_
    walk_at "dl"
    refine i_mod (by decide) ?_
    walk_at "dl"
    refine i_fdiv ⟨by decide, by decide⟩ ?_
    walk_at "dl"
    refine i_mod h0 ?_
    exact rt_same (hq _ _ (Int.emod_nonneg _ (by omega)) (Int.emod_lt_of_pos _ h0) ⟨_, _, _, setO_same, h2, h3, by omega, by omega⟩)
abbrev N_law_bag : List Str := ["_law_script", "_law_at", "_law_cell", "_law_great"]
abbrev P_law_bag : List Str := ["_law_script", "_law_at"]
theorem sc_law_bag : FnScope N_law_bag P_law_bag (defScope s_law_bag) := ⟨rfl, rfl, rfl, by decide +kernel, rfl, by decide +kernel, by decide +kernel⟩
theorem bd_law_bag : Bd0 "_law_bag" "_law_bag" s_law_bag P_law_bag := fun _ _ _ _ _ _ us hl => match us, hl with | [_, _], _ => rfl
abbrev Fn_law_bag (P : Program) (w : World) (K : Frag) (mg : Str → Option Value) (base : Heap) : Prop := Fn P w K mg base "_law_bag" "_law_bag" s_law_bag [] [] P_law_bag 2 1 f_law_bag (He.ga K "_law_bag")
theorem ok_law_bag {P : Program} {w : World} {K : Frag} {mg : Str → Option Value} {base : Heap} (F : HasD K "_law_bag" "_law_bag" s_law_bag [] [] (He.ga K "_law_bag")) (T : Txt K mg) : Fn_law_bag P w K mg base := by
  have sc := sc_law_bag
  refine fn_E (k := 0) F sc rfl fun cdv A outer s H E O0 H0 F0 ds O q xx hl hf S => ⟨_,
      (ds_cons (ds_set (ps_set (i := 2) sc.nd rfl (by first | exact Or.inl rfl | exact Or.inr rfl) (de_if (st_lt S (de_var (pv 1)) (so_len S rfl T.b_len (da_cons (de_var (pv 0)) da_nil))) (so_ix S (de_var (pv 0)) (de_var (pv 1)) (fun _ _ => rfl)) de_int)))
      (ds_cons (ds_set (ps_set (i := 3) sc.nd rfl (by first | exact Or.inl rfl | exact Or.inr rfl) (de_if (st_ge S (so_abs S rfl T.b_abs (da_cons (de_var (pv 2)) da_nil)) (so_pow S de_int de_int)) (so_abs S rfl T.b_abs (da_cons (de_var (pv 2)) da_nil)) de_int)))
      (ds_one (ds_ret (de_lstO (da_cons (de_var (pv 3)) (da_cons (so_add S (so_add S (so_mul S (so_mod S (so_int S rfl T.b_int (da_cons (de_var (pv 2)) da_nil)) de_int) de_int) (so_mul S de_int (de_var (pv 1)))) de_int) (da_cons de_int da_nil))))))))
      , ?_⟩
  obtain ⟨ns, at_, rfl, h0, h1, hq⟩ := hf
  walk_at "dl"
  refine join (fun d => ∃ c : Int, d = .int c) ?_ fun q' hq' => ?_
  case refine_2 =>
    walk_at "dw"
    refine if_d (fun ha => ?_) (fun ha => ?_)
    · obtain ⟨d, e1, e⟩ := atI_in h0 ha
      obtain ⟨c, _, rfl⟩ := map_get e1
      walk_at "dl"
      exact i_ixL e (hq' _ ⟨_, rfl⟩)
    · walk_at "dl"
      exact hq' _ ⟨_, rfl⟩
  rintro _ ⟨cell, rfl⟩
  walk_at "dl"
  refine join (fun d => ∃ c : Int, d = .int c) ?_ fun q' hq' => ?_
  case refine_2 =>
    walk_at "dw"
    refine i_pow (powW (m := 40) (by decide) (by decide) (by decide) (by decide)) ?_
    walk_at "dl"
    refine if_d (fun ha => ?_) (fun ha => ?_)
    · walk_at "dl"
      exact hq' _ ⟨_, rfl⟩
    · walk_at "dl"
      exact hq' _ ⟨_, rfl⟩
  rintro _ ⟨dig, rfl⟩
  walk_at "dl"
  refine i_mod (by decide) ?_
  have hx1 : 0 ≤ cell % 2305843009213693951 := Int.emod_nonneg _ (by decide)
  have hx2 : cell % 2305843009213693951 < 2305843009213693951 := Int.emod_lt_of_pos _ (by decide)
  generalize cell % 2305843009213693951 = x at hx1 hx2 ⊢
  walk_at "dl"
  refine i_mulI (.inr (by omega)) ?_
  walk_at "dl"
  refine i_mulI (.inl (by omega)) ?_
  walk_at "dl"
  exact fun p hp => rt_same (hq p _ hp ⟨_, _, _, setO_same, by omega, by omega, by decide, by decide⟩)
end
end K08
set_option Elab.async false
set_option linter.all false
set_option maxRecDepth 100000
set_option maxHeartbeats 4000000
namespace K08
open PySem PySem.Spec PyProof.Rows L2 DL
open ClX (CRead CVal)
local macro_rules | `(tactic| walk_at "d1") => `(tactic| first | ((with_reducible apply i_var); exact rfl) | ((with_reducible apply i_gtup); exact rfl) | ((with_reducible apply i_augI); exact rfl) | ((with_reducible apply i_ixT); exact rfl) | ((with_reducible apply i_ixL); exact rfl) | with_reducible refine i_seq ?_ | with_reducible refine i_asg ?_ | with_reducible refine i_gname ?_ | with_reducible refine i_c ?_ | with_reducible refine i_op ?_ | with_reducible refine i_cb ?_ | with_reducible refine i_cons ?_ | with_reducible refine i_nil ?_ | with_reducible refine i_expr ?_ | with_reducible refine i_ret ?_ | with_reducible refine i_retN ?_ | with_reducible refine i_next ?_ | with_reducible refine i_for ?_ | with_reducible refine i_par ?_ | with_reducible refine i_test ?_ | with_reducible refine i_tup ?_ | with_reducible refine i_lst ?_ | ((with_reducible refine i_sz ?_ ?_); (focus exact Nat.le_of_ble_eq_true rfl)) | with_reducible refine i_lstO ?_ | with_reducible refine i_break ?_ | with_reducible refine i_cont ?_ | with_reducible refine i_gnil ?_ | with_reducible refine i_gcons ?_ | with_reducible refine i_tru ?_ | with_reducible refine i_and ?_ | with_reducible refine i_or ?_ | with_reducible refine i_not ?_ | with_reducible refine i_andV ?_ | with_reducible refine i_orV ?_ | with_reducible refine i_notV ?_ | with_reducible refine i_neg ?_ | with_reducible refine i_chain ?_ | with_reducible refine i_call ?_ | with_reducible refine i_callK ?_ | with_reducible refine i_append ?_ | with_reducible refine i_gsub ?_ | with_reducible refine i_sl ?_ | with_reducible refine i_slT ?_ | with_reducible refine i_slL ?_ | with_reducible refine i_oN ?_ | with_reducible refine i_oS ?_ | with_reducible refine i_lc ?_ | with_reducible refine i_lc2 ?_ | with_reducible refine i_lc2O ?_ | with_reducible refine i_lcN ?_ | with_reducible refine i_lcO ?_ | with_reducible refine i_yes ?_ | with_reducible refine i_listRg1 ?_ | with_reducible refine i_rg1 ?_ | with_reducible refine i_rg2 ?_ | with_reducible refine i_seqI ?_ | with_reducible refine i_seqT ?_ | with_reducible refine i_seqL ?_ | with_reducible refine i_lt ?_ | with_reducible refine i_le ?_ | with_reducible refine i_gt ?_ | with_reducible refine i_ge ?_ | with_reducible refine i_sub ?_ | with_reducible refine i_addI ?_ | with_reducible refine i_int ?_ | with_reducible refine i_intb ?_ | with_reducible refine i_abs ?_ | with_reducible refine i_min2 ?_ | with_reducible refine i_max2 ?_ | with_reducible refine i_isN ?_ | with_reducible refine i_notN ?_ | with_reducible refine i_lenL ?_ | with_reducible refine i_lenT ?_ | ((with_reducible apply i_ixO); (focus (first | assumption | exact setO_same | (rw [setO_ne (by assumption)]; first | assumption | exact setO_same))); exact rfl) | ((with_reducible apply i_lenO); (focus (first | assumption | exact setO_same | (rw [setO_ne (by assumption)]; first | assumption | exact setO_same)))) | ((with_reducible apply i_appK); (focus (first | assumption | exact setO_same | (rw [setO_ne (by assumption)]; first | assumption | exact setO_same)))) | ((with_reducible apply i_subK); (focus (first | assumption | exact setO_same | (rw [setO_ne (by assumption)]; first | assumption | exact setO_same))); exact rfl) | ((with_reducible apply i_slO); (focus (first | assumption | exact setO_same | (rw [setO_ne (by assumption)]; first | assumption | exact setO_same)))) | ((with_reducible apply i_seqO); (focus (first | assumption | exact setO_same | (rw [setO_ne (by assumption)]; first | assumption | exact setO_same)))) | ((with_reducible apply i_appK2); (focus (first | assumption | exact setO_same | (rw [setO_ne (by assumption)]; first | assumption | exact setO_same)))) | with_reducible refine i_ice ?_ | with_reducible refine i_iceL ?_ | ((with_reducible apply i_iceK); (focus (first | assumption | exact setO_same | (rw [setO_ne (by assumption)]; first | assumption | exact setO_same)))) | with_reducible refine i_fld ?_ | ((with_reducible apply i_fldK); (focus (first | assumption | exact setO_same | (rw [setO_ne (by assumption)]; first | assumption | exact setO_same))); exact rfl) | with_reducible refine i_sfld ?_ | with_reducible refine i_make ?_ | with_reducible refine i_callK0 ?_ | with_reducible refine i_enum2 ?_ | with_reducible refine i_enumL ?_ | with_reducible refine i_enumT ?_ | with_reducible refine i_par3 ?_ | with_reducible refine i_dsp2 ?_ | ((with_reducible apply i_isi (b := true)); exact rfl; exact rfl; exact rfl) | ((with_reducible apply i_isi (b := false)); exact rfl; exact rfl; exact rfl) | with_reducible refine i_eqI ?_ | with_reducible refine i_neI ?_ | with_reducible refine i_truB ?_ | ((with_reducible apply i_fldI); exact rfl) | with_reducible refine i_iceI ?_ | with_reducible refine i_join ?_ | with_reducible refine i_dict0 ?_ | with_reducible refine i_isiI ?_ | with_reducible refine i_ownIn ?_ | with_reducible refine i_ownEq ?_ | with_reducible refine i_ownLen ?_ | with_reducible refine i_ownStr ?_ | with_reducible refine i_strS ?_ | with_reducible refine i_fmt ?_ | with_reducible refine i_pop ?_ | with_reducible refine i_rem ?_ | with_reducible refine i_listRg2 ?_ | with_reducible refine i_listRg2O ?_ | ((with_reducible apply i_popK); (focus (first | assumption | exact setO_same | (rw [setO_ne (by assumption)]; first | assumption | exact setO_same)))) | with_reducible refine i_raise ?_ | with_reducible refine i_tryAs ?_ | with_reducible refine i_xf ?_ | ((with_reducible apply i_xfK); exact rfl) | with_reducible refine i_js ?_ | with_reducible refine i_js0 ?_ | with_reducible refine i_makeK0 ?_ | with_reducible refine i_own ?_ | with_reducible refine i_ownT ?_ | with_reducible refine i_lenZ ?_ | with_reducible refine i_sortZ ?_ | with_reducible refine i_sortZT ?_ | with_reducible refine i_setL ?_ | with_reducible refine i_setLT ?_ | with_reducible refine i_sc ?_ | with_reducible refine i_scT ?_ | with_reducible refine i_setQ ?_ | with_reducible refine i_sc2 ?_ | with_reducible refine i_lenB ?_ | with_reducible refine i_bl ?_ | with_reducible refine i_tm ?_ | with_reducible refine i_lcnt ?_ | with_reducible refine i_setTI ?_ | with_reducible refine i_setMT ?_ | ((with_reducible apply i_augL); exact rfl) | with_reducible refine i_scB ?_ | with_reducible refine i_key ?_ | with_reducible refine i_revL ?_ | with_reducible refine i_revT ?_ | with_reducible refine i_zip ?_ | with_reducible refine i_ltAI ?_ | with_reducible refine i_ltAS ?_ | with_reducible refine i_inRg1 ?_ | with_reducible refine i_inRg2 ?_ | with_reducible refine i_listRg1O ?_ | with_reducible refine i_tryM ?_ | with_reducible refine i_tryN ?_ | with_reducible refine i_upd ?_ | with_reducible refine i_mat ?_ | with_reducible refine i_matK ?_ | with_reducible refine i_mc0 ?_ | ((with_reducible apply i_mcY); (focus exact rfl)) | ((with_reducible apply i_mcN); (focus exact Nat.ne_of_beq_eq_false rfl)) | with_reducible refine i_ltT ?_ | with_reducible refine i_xi ?_ | with_reducible refine i_split ?_ | with_reducible refine i_count ?_ | with_reducible refine i_m0 ?_ | with_reducible refine i_m0K ?_ | with_reducible refine i_starA ?_ | with_reducible refine i_cm ?_ | with_reducible refine i_cmK ?_ | ((with_reducible apply i_makeL); exact rfl) | with_reducible refine i_int2I ?_ | with_reducible refine i_int2B ?_ | with_reducible refine i_clear ?_ | ((with_reducible apply i_clearK); (focus (first | assumption | exact setO_same | (rw [setO_ne (by assumption)]; first | assumption | exact setO_same)))) | with_reducible refine i_meth ?_ | with_reducible refine i_methM ?_ | ((with_reducible apply i_methKwO); (focus (first | assumption | exact setO_same | (rw [setO_ne (by assumption)]; first | assumption | exact setO_same))); exact rfl) | with_reducible refine i_extend ?_ | with_reducible refine i_lam ?_ | with_reducible refine i_dput ?_ | with_reducible refine i_dict0N ?_ | with_reducible refine i_dict1 ?_ | with_reducible refine i_disp2 ?_ | with_reducible refine i_disp3 ?_ | with_reducible refine i_dispN ?_ | with_reducible refine i_goC ?_ | ((with_reducible apply i_goK); exact rfl) | with_reducible refine i_goN ?_ | with_reducible refine i_setd ?_ | with_reducible refine i_idxL ?_ | with_reducible refine i_ixLK ?_ | with_reducible refine i_dc ?_ | with_reducible refine i_dcN ?_ | with_reducible refine i_isB ?_ | with_reducible refine i_notB ?_ | with_reducible refine i_dct ?_ | with_reducible refine i_dctN ?_ | with_reducible refine i_ckw ?_ | with_reducible refine i_iceA ?_ | with_reducible refine i_get2 ?_ | with_reducible refine i_get1 ?_ | with_reducible refine i_prop ?_ | with_reducible refine i_propI ?_ | ((with_reducible apply i_methI); exact rfl) | ((with_reducible apply i_methO); (focus (first | assumption | exact setO_same | (rw [setO_ne (by assumption)]; first | assumption | exact setO_same))); exact rfl))
local macro_rules | `(tactic| walk_at "dl") => `(tactic| repeat (walk_at "d1"))
local macro_rules | `(tactic| walk_at "dw") => `(tactic| repeat (first | with_reducible refine i_if ?_ | with_reducible refine i_ifE ?_ | walk_at "d1"))
section
variable {P : Program} {w : World} {K : Frag} {mg : Str → Option Value} {base : Heap}
/-- any value of the law -/
def anyL (pd : Addr) : List D := [.non, .bl true, .int 0, .int (-7), .int 1000000000000000000000000000000000000000, .str "", .str "all", .tup [.int 0, .int 1], .lst [], .lst [.str "a", .non], .ref pd, .tup [.str "once", .int 3, .int 1], .tup [.int 1, .str "lost", .str "taken"]]
def f_law_any : DF := fun ds O q _ => ∃ (p : Addr) (m : Int), ds = [.ref p] ∧ Bag O p m ∧ m < 2 ^ 38 ∧ ∀ (d : D) (pd : Addr) (O' : Ow), Ex p O O' → O pd = none → Bag O' p (m + 1) → O' pd = some (.dK []) → d ∈ anyL pd → q d O'
abbrev N_law_any : List Str := ["_law_bag_here", "_law_some"]
abbrev P_law_any : List Str := ["_law_bag_here"]
theorem sc_law_any : FnScope N_law_any P_law_any (defScope s_law_any) := ⟨rfl, rfl, rfl, by decide +kernel, rfl, by decide +kernel, by decide +kernel⟩
theorem bd_law_any : Bd0 "_law_any" "_law_any" s_law_any P_law_any := fun _ _ _ _ _ _ us hl => match us, hl with | [_], _ => rfl
abbrev Fn_law_any (P : Program) (w : World) (K : Frag) (mg : Str → Option Value) (base : Heap) : Prop := Fn P w K mg base "_law_any" "_law_any" s_law_any [] [] P_law_any 1 2 f_law_any (He.ga K "_law_any")
structure C_law_any (P : Program) (w : World) (K : Frag) (mg : Str → Option Value) (base : Heap) : Prop where
  law_take : Fn_law_take P w K mg base
theorem ok_law_any {P : Program} {w : World} {K : Frag} {mg : Str → Option Value} {base : Heap} (F : HasD K "_law_any" "_law_any" s_law_any [] [] (He.ga K "_law_any")) (T : Txt K mg) (C : C_law_any P w K mg base) : Fn_law_any P w K mg base := by
  have sc := sc_law_any
  refine fn_E (k := 1) F sc rfl fun cdv A outer s H E O0 H0 F0 ds O q xx hl hf S => ⟨_,
      (ds_cons (ds_set (ps_set (i := 1) sc.nd rfl (by first | exact Or.inl rfl | exact Or.inr rfl) (de_lst (da_cons de_non (da_cons de_bl (da_cons de_int (da_cons (so_neg S de_int) (da_cons (so_pow S de_int de_int) (da_cons de_str (da_cons de_str (da_cons (de_tup (da_cons de_int (da_cons de_int da_nil))) (da_cons (de_lst da_nil) (da_cons (de_lst (da_cons de_str (da_cons de_non da_nil))) (da_cons so_dict0 (da_cons (de_tup (da_cons de_str (da_cons de_int (da_cons de_int da_nil)))) (da_cons (de_tup (da_cons de_int (da_cons de_str (da_cons de_str da_nil)))) da_nil))))))))))))))))
      (ds_one (ds_ret (so_ix S (de_var (pv 1)) (so_callF S C.law_take (by decide) T.g_law_take bd_law_take rfl (da_cons (de_var (pv 0)) (da_cons de_int da_nil))) (fun _ _ => rfl)))))
      , ?_⟩
  obtain ⟨p, m, rfl, hb, hm, hq⟩ := hf
  walk_at "dl"
  refine i_pow (powW (m := 40) (by decide) (by decide) (by decide) (by decide)) ?_
  walk_at "dl"
  intro pd hpd
  walk_at "dl"
  have hb1 := hb.other (o := .dK []) hpd
  have hne : p ≠ pd := hb.ne hpd
  refine ⟨rfl, p, 13, _, rfl, hb1, by omega, by decide, by decide, fun z o hz0 hz1 hb2 => ?_⟩
  obtain ⟨d, e1, e2⟩ := atI_in (ds := anyL pd) hz0 hz1
  refine i_ixL e2 ?_
  refine rt_same (hq d pd _ ?_ hpd hb2 (by rw [setO_ne hne.symm]; exact setO_same) (List.mem_of_getElem? e1))
  exact (Ex.refl.mine hpd).set
def Held (K : Frag) (O : Ow) (l : List (Addr × Str)) : Prop := ∀ x ∈ l, ExcAt O x.1 (He.ga K x.2)
theorem Held.nil {K : Frag} {O : Ow} : Held K O [] := fun x h => by cases h
theorem Held.snoc {K : Frag} {O O' : Ow} {l : List (Addr × Str)} {a : Addr} {n : Str} (h : Held K O l) (s : SubO O O') (e : ExcAt O' a (He.ga K n)) : Held K O' (l ++ [(a, n)]) := fun x hx => by
  rcases List.mem_append.mp hx with hx | hx
  · exact (h x hx).sub s
  · rw [List.mem_singleton.mp hx]; exact e
def f_law_family (K : Frag) : DF := fun ds O q _ => ∃ (a : Addr) (i : Nat) (p : Str × List String), ds = [.ref a] ∧ exFam[i]? = some p ∧ ExcAt O a (He.ga K p.1) ∧ q (.lst ((List.range 19).map fun j => D.bl (decide (i = j)))) O
abbrev N_law_family : List Str := ["_law_e", "_law_found"]
abbrev P_law_family : List Str := ["_law_e"]
theorem sc_law_family : FnScope N_law_family P_law_family (defScope s_law_family) := ⟨rfl, rfl, rfl, by decide +kernel, rfl, by decide +kernel, by decide +kernel⟩
theorem bd_law_family : Bd0 "_law_family" "_law_family" s_law_family P_law_family := fun _ _ _ _ _ _ us hl => match us, hl with | [_], _ => rfl
abbrev Fn_law_family (P : Program) (w : World) (K : Frag) (mg : Str → Option Value) (base : Heap) : Prop := Fn P w K mg base "_law_family" "_law_family" s_law_family [] [] P_law_family 1 1 (f_law_family K) (He.ga K "_law_family")
theorem ok_law_family {P : Program} {w : World} {K : Frag} {mg : Str → Option Value} {base : Heap} (F : HasD K "_law_family" "_law_family" s_law_family [] [] (He.ga K "_law_family")) (T : Txt K mg) : Fn_law_family P w K mg base := by
  have sc := sc_law_family
  refine fn_E (k := 0) F sc rfl fun cdv A outer s H E O0 H0 F0 ds O q xx hl hf S => ⟨_,
      (ds_cons (ds_set (ps_set (i := 1) sc.nd rfl (by first | exact Or.inl rfl | exact Or.inr rfl) (de_lst (da_cons (so_isXK (K := K) rfl S rfl T.b_isinstance (da_cons (de_var (pv 0)) (da_cons (so_gc (v := .ref (He.ga K "BadEnd")) rfl ⟨_, T.g_BadEnd, rfl⟩ (fun _ => .ref _)) da_nil))) (da_cons (so_isXK (K := K) rfl S rfl T.b_isinstance (da_cons (de_var (pv 0)) (da_cons (so_gc (v := .ref (He.ga K "BadFault")) rfl ⟨_, T.g_BadFault, rfl⟩ (fun _ => .ref _)) da_nil))) (da_cons (so_isXK (K := K) rfl S rfl T.b_isinstance (da_cons (de_var (pv 0)) (da_cons (so_gc (v := .ref (He.ga K "BadFrame")) rfl ⟨_, T.g_BadFrame, rfl⟩ (fun _ => .ref _)) da_nil))) (da_cons (so_isXK (K := K) rfl S rfl T.b_isinstance (da_cons (de_var (pv 0)) (da_cons (so_gc (v := .ref (He.ga K "BadText")) rfl ⟨_, T.g_BadText, rfl⟩ (fun _ => .ref _)) da_nil))) da_nil)))))))
      (ds_cons (ds_set (ps_set (i := 1) sc.nd rfl (by first | exact Or.inl rfl | exact Or.inr rfl) (so_add S (de_var (pv 1)) (de_lst (da_cons (so_isXK (K := K) rfl S rfl T.b_isinstance (da_cons (de_var (pv 0)) (da_cons (so_gc (v := .ref (He.ga K "BadCommand")) rfl ⟨_, T.g_BadCommand, rfl⟩ (fun _ => .ref _)) da_nil))) (da_cons (so_isXK (K := K) rfl S rfl T.b_isinstance (da_cons (de_var (pv 0)) (da_cons (so_gc (v := .ref (He.ga K "NoPromise")) rfl ⟨_, T.g_NoPromise, rfl⟩ (fun _ => .ref _)) da_nil))) (da_cons (so_isXK (K := K) rfl S rfl T.b_isinstance (da_cons (de_var (pv 0)) (da_cons (so_gc (v := .ref (He.ga K "NoStation")) rfl ⟨_, T.g_NoStation, rfl⟩ (fun _ => .ref _)) da_nil))) da_nil)))))))
      (ds_cons (ds_set (ps_set (i := 1) sc.nd rfl (by first | exact Or.inl rfl | exact Or.inr rfl) (so_add S (de_var (pv 1)) (de_lst (da_cons (so_isXK (K := K) rfl S rfl T.b_isinstance (da_cons (de_var (pv 0)) (da_cons (so_gc (v := .ref (He.ga K "NoName")) rfl ⟨_, T.g_NoName, rfl⟩ (fun _ => .ref _)) da_nil))) (da_cons (so_isXK (K := K) rfl S rfl T.b_isinstance (da_cons (de_var (pv 0)) (da_cons (so_gc (v := .ref (He.ga K "NoOutcome")) rfl ⟨_, T.g_NoOutcome, rfl⟩ (fun _ => .ref _)) da_nil))) (da_cons (so_isXK (K := K) rfl S rfl T.b_isinstance (da_cons (de_var (pv 0)) (da_cons (so_gc (v := .ref (He.ga K "NothingToUndo")) rfl ⟨_, T.g_NothingToUndo, rfl⟩ (fun _ => .ref _)) da_nil))) da_nil)))))))
      (ds_cons (ds_set (ps_set (i := 1) sc.nd rfl (by first | exact Or.inl rfl | exact Or.inr rfl) (so_add S (de_var (pv 1)) (de_lst (da_cons (so_isXK (K := K) rfl S rfl T.b_isinstance (da_cons (de_var (pv 0)) (da_cons (so_gc (v := .ref (He.ga K "BadDeed")) rfl ⟨_, T.g_BadDeed, rfl⟩ (fun _ => .ref _)) da_nil))) (da_cons (so_isXK (K := K) rfl S rfl T.b_isinstance (da_cons (de_var (pv 0)) (da_cons (so_gc (v := .ref (He.ga K "Endless")) rfl ⟨_, T.g_Endless, rfl⟩ (fun _ => .ref _)) da_nil))) (da_cons (so_isXK (K := K) rfl S rfl T.b_isinstance (da_cons (de_var (pv 0)) (da_cons (so_gc (v := .ref (He.ga K "NothingWaits")) rfl ⟨_, T.g_NothingWaits, rfl⟩ (fun _ => .ref _)) da_nil))) da_nil)))))))
      (ds_cons (ds_set (ps_set (i := 1) sc.nd rfl (by first | exact Or.inl rfl | exact Or.inr rfl) (so_add S (de_var (pv 1)) (de_lst (da_cons (so_isXK (K := K) rfl S rfl T.b_isinstance (da_cons (de_var (pv 0)) (da_cons (so_gc (v := .ref (He.ga K "NoHearer")) rfl ⟨_, T.g_NoHearer, rfl⟩ (fun _ => .ref _)) da_nil))) (da_cons (so_isXK (K := K) rfl S rfl T.b_isinstance (da_cons (de_var (pv 0)) (da_cons (so_gc (v := .ref (He.ga K "NoLine")) rfl ⟨_, T.g_NoLine, rfl⟩ (fun _ => .ref _)) da_nil))) da_nil))))))
      (ds_cons (ds_set (ps_set (i := 1) sc.nd rfl (by first | exact Or.inl rfl | exact Or.inr rfl) (so_add S (de_var (pv 1)) (de_lst (da_cons (so_isXK (K := K) rfl S rfl T.b_isinstance (da_cons (de_var (pv 0)) (da_cons (so_gc (v := .ref (He.ga K "TooMany")) rfl ⟨_, T.g_TooMany, rfl⟩ (fun _ => .ref _)) da_nil))) (da_cons (so_isXK (K := K) rfl S rfl T.b_isinstance (da_cons (de_var (pv 0)) (da_cons (so_gc (v := .ref (He.ga K "Unsound")) rfl ⟨_, T.g_Unsound, rfl⟩ (fun _ => .ref _)) da_nil))) (da_cons (so_isXK (K := K) rfl S rfl T.b_isinstance (da_cons (de_var (pv 0)) (da_cons (so_gc (v := .ref (He.ga K "Unbounded")) rfl ⟨_, T.g_Unbounded, rfl⟩ (fun _ => .ref _)) da_nil))) (da_cons (so_isXK (K := K) rfl S rfl T.b_isinstance (da_cons (de_var (pv 0)) (da_cons (so_gc (v := .ref (He.ga K "Taken")) rfl ⟨_, T.g_Taken, rfl⟩ (fun _ => .ref _)) da_nil))) da_nil))))))))
      (ds_one (ds_ret (de_var (pv 1))))))))))
      , ?_⟩
  obtain ⟨a, i, p, rfl, hi, hx, hq⟩ := hf
  have hp := List.mem_of_getElem? hi
  walk_at "dl"
  refine i_isXR hx (T.etab.xc p hp) (T.etab.own i 0 p _ hi rfl) ?_
  walk_at "dl"
  refine i_isXR hx (T.etab.xc p hp) (T.etab.own i 1 p _ hi rfl) ?_
  walk_at "dl"
  refine i_isXR hx (T.etab.xc p hp) (T.etab.own i 2 p _ hi rfl) ?_
  walk_at "dl"
  refine i_isXR hx (T.etab.xc p hp) (T.etab.own i 3 p _ hi rfl) ?_
  walk_at "dl"
  refine i_isXR hx (T.etab.xc p hp) (T.etab.own i 4 p _ hi rfl) ?_
  walk_at "dl"
  refine i_isXR hx (T.etab.xc p hp) (T.etab.own i 5 p _ hi rfl) ?_
  walk_at "dl"
  refine i_isXR hx (T.etab.xc p hp) (T.etab.own i 6 p _ hi rfl) ?_
  walk_at "dl"
  refine i_addL (Nat.le_of_ble_eq_true rfl) ?_
  walk_at "dl"
  refine i_isXR hx (T.etab.xc p hp) (T.etab.own i 7 p _ hi rfl) ?_
  walk_at "dl"
  refine i_isXR hx (T.etab.xc p hp) (T.etab.own i 8 p _ hi rfl) ?_
  walk_at "dl"
  refine i_isXR hx (T.etab.xc p hp) (T.etab.own i 9 p _ hi rfl) ?_
  walk_at "dl"
  refine i_addL (Nat.le_of_ble_eq_true rfl) ?_
  walk_at "dl"
  refine i_isXR hx (T.etab.xc p hp) (T.etab.own i 10 p _ hi rfl) ?_
  walk_at "dl"
  refine i_isXR hx (T.etab.xc p hp) (T.etab.own i 11 p _ hi rfl) ?_
  walk_at "dl"
  refine i_isXR hx (T.etab.xc p hp) (T.etab.own i 12 p _ hi rfl) ?_
  walk_at "dl"
  refine i_addL (Nat.le_of_ble_eq_true rfl) ?_
  walk_at "dl"
  refine i_isXR hx (T.etab.xc p hp) (T.etab.own i 13 p _ hi rfl) ?_
  walk_at "dl"
  refine i_isXR hx (T.etab.xc p hp) (T.etab.own i 14 p _ hi rfl) ?_
  walk_at "dl"
  refine i_addL (Nat.le_of_ble_eq_true rfl) ?_
  walk_at "dl"
  refine i_isXR hx (T.etab.xc p hp) (T.etab.own i 15 p _ hi rfl) ?_
  walk_at "dl"
  refine i_isXR hx (T.etab.xc p hp) (T.etab.own i 16 p _ hi rfl) ?_
  walk_at "dl"
  refine i_isXR hx (T.etab.xc p hp) (T.etab.own i 17 p _ hi rfl) ?_
  walk_at "dl"
  refine i_isXR hx (T.etab.xc p hp) (T.etab.own i 18 p _ hi rfl) ?_
  walk_at "dl"
  refine i_addL (Nat.le_of_ble_eq_true rfl) ?_
  walk_at "dl"
  exact rt_same hq
theorem joinE {t : DTT} {a b : DTE} {env : DL.Env} {O : Ow} {q : DQ} (v : D) (h : ∀ k : DQ, k v O → dIfE t a b env O k) (hq : q v O) : dIfE t a b env O q := h q hq
theorem one_true {b0 b1 b2 b3 : Bool} (h : [b0, b1, b2, b3].count true = 1) : ∃ j, [b0, b1, b2, b3][j]? = some true ∧ (∀ m, m < j → [b0, b1, b2, b3][m]? = some false) ∧ [b0, b1, b2, b3].idxOf true = j := by
  revert h
  cases b0 <;> cases b1 <;> cases b2 <;> cases b3 <;> intro h <;> first | exact absurd h (by decide) | exact ⟨0, rfl, by decide, rfl⟩ | exact ⟨1, rfl, by decide, rfl⟩ | exact ⟨2, rfl, by decide, rfl⟩ | exact ⟨3, rfl, by decide, rfl⟩
theorem i_ixB {s : Addr} {bs : List Bool} {j : Nat} {O : Ow} {q : DQ} (hs : O s = some (.lst (bs.map D.bl))) (hj : bs[j]? = some true) (hno : ∀ m, m < j → bs[m]? = some false) (h : q (.int (j : Nat)) O) : ixK2 s q [.bl true] O := by
  obtain ⟨h1, h2, h3⟩ := pds_bls bs
  refine ⟨.bool true, _, j, .bool true, asP_own hs h1, asP_pd rfl, by simp only [SeqAt.shaped, PyData.canLay0, PyData.depth, h2, h3]; decide, by decide +kernel, ?_, by decide +kernel, fun m z' hm hz => ?_, h⟩
  · rw [pys_map, List.getElem?_map, List.getElem?_map, hj]; rfl
  · rw [pys_map, List.getElem?_map, List.getElem?_map, hno m hm] at hz
    cases hz
    decide +kernel
def baseOf (l : List String) : Str := if l.contains "KeyError" then "key" else if l.contains "IndexError" then "index" else if l.contains "LookupError" then "lookup" else if l.contains "OverflowError" then "overflow" else if l.contains "ZeroDivisionError" then "zero" else
  if [l.contains "ValueError", l.contains "RuntimeError", l.contains "ArithmeticError", l.contains "TypeError"].count true = 1 then (["value", "runtime", "arithmetic", "kind"] : List Str).getD ([l.contains "ValueError", l.contains "RuntimeError", l.contains "ArithmeticError", l.contains "TypeError"].idxOf true) "" else "several"
def f_law_base (K : Frag) : DF := fun ds O q _ => ∃ (a : Addr) (p : Str × List String), ds = [.ref a] ∧ p ∈ exFam ∧ ExcAt O a (He.ga K p.1) ∧ ∀ O', SubO O O' → q (.str (baseOf p.2)) O'
abbrev N_law_base : List Str := ["_law_e", "_law_words", "_law_found"]
abbrev P_law_base : List Str := ["_law_e"]
theorem sc_law_base : FnScope N_law_base P_law_base (defScope s_law_base) := ⟨rfl, rfl, rfl, by decide +kernel, rfl, by decide +kernel, by decide +kernel⟩
theorem bd_law_base : Bd0 "_law_base" "_law_base" s_law_base P_law_base := fun _ _ _ _ _ _ us hl => match us, hl with | [_], _ => rfl
abbrev Fn_law_base (P : Program) (w : World) (K : Frag) (mg : Str → Option Value) (base : Heap) : Prop := Fn P w K mg base "_law_base" "_law_base" s_law_base [] [] P_law_base 1 1 (f_law_base K) (He.ga K "_law_base")
theorem ok_law_base {P : Program} {w : World} {K : Frag} {mg : Str → Option Value} {base : Heap} (F : HasD K "_law_base" "_law_base" s_law_base [] [] (He.ga K "_law_base")) (T : Txt K mg) : Fn_law_base P w K mg base := by
  have sc := sc_law_base
  refine fn_E (k := 0) F sc rfl fun cdv A outer s H E O0 H0 F0 ds O q xx hl hf S => ⟨_,
      (ds_cons (ds_if (st_tru S (so_isXK (K := K) rfl S rfl T.b_isinstance (da_cons (de_var (pv 0)) (da_cons (so_ty (n := "KeyError") rfl T.b_KeyError) da_nil))))
       (ds_one (ds_ret de_str))
       ds_nil)
      (ds_cons (ds_if (st_tru S (so_isXK (K := K) rfl S rfl T.b_isinstance (da_cons (de_var (pv 0)) (da_cons (so_ty (n := "IndexError") rfl T.b_IndexError) da_nil))))
       (ds_one (ds_ret de_str))
       ds_nil)
      (ds_cons (ds_if (st_tru S (so_isXK (K := K) rfl S rfl T.b_isinstance (da_cons (de_var (pv 0)) (da_cons (so_ty (n := "LookupError") rfl T.b_LookupError) da_nil))))
       (ds_one (ds_ret de_str))
       ds_nil)
      (ds_cons (ds_if (st_tru S (so_isXK (K := K) rfl S rfl T.b_isinstance (da_cons (de_var (pv 0)) (da_cons (so_ty (n := "OverflowError") rfl T.b_OverflowError) da_nil))))
       (ds_one (ds_ret de_str))
       ds_nil)
      (ds_cons (ds_if (st_tru S (so_isXK (K := K) rfl S rfl T.b_isinstance (da_cons (de_var (pv 0)) (da_cons (so_ty (n := "ZeroDivisionError") rfl T.b_ZeroDivisionError) da_nil))))
       (ds_one (ds_ret de_str))
       ds_nil)
      (ds_cons (ds_set (ps_set (i := 1) sc.nd rfl (by first | exact Or.inl rfl | exact Or.inr rfl) (de_lst (da_cons de_str (da_cons de_str (da_cons de_str (da_cons de_str da_nil)))))))
      (ds_cons (ds_set (ps_set (i := 2) sc.nd rfl (by first | exact Or.inl rfl | exact Or.inr rfl) (de_lstO (da_cons (so_isXK (K := K) rfl S rfl T.b_isinstance (da_cons (de_var (pv 0)) (da_cons (so_ty (n := "ValueError") rfl T.b_ValueError) da_nil))) (da_cons (so_isXK (K := K) rfl S rfl T.b_isinstance (da_cons (de_var (pv 0)) (da_cons (so_ty (n := "RuntimeError") rfl T.b_RuntimeError) da_nil))) (da_cons (so_isXK (K := K) rfl S rfl T.b_isinstance (da_cons (de_var (pv 0)) (da_cons (so_ty (n := "ArithmeticError") rfl T.b_ArithmeticError) da_nil))) da_nil))))))
      (ds_cons (ds_expr (so_append S (de_var (pv 2)) (da_cons (so_isXK (K := K) rfl S rfl T.b_isinstance (da_cons (de_var (pv 0)) (da_cons (so_ty (n := "TypeError") rfl T.b_TypeError) da_nil))) da_nil)))
      (ds_one (ds_ret (de_if (st_eq S (so_lcntB S (de_var (pv 2)) de_bl) de_int) (so_ix S (de_var (pv 1)) (so_idxO S (de_var (pv 2)) (da_cons de_bl da_nil)) (fun _ _ => rfl)) de_str)))))))))))
      , ?_⟩
  obtain ⟨a, p, rfl, hp, hx, hq⟩ := hf
  have hxc := T.etab.xc p hp
  have ht : ∀ n ∈ exTys, PySem.W.kitOne K (.ref (He.ga K p.1)) (.type n) = some (p.2.contains n) := fun n hn => T.etab.ty p hp n hn
  unfold baseOf at hq
  walk_at "dw"
  refine i_isXT hx hxc (ht "KeyError" (by decide +kernel)) ?_
  refine ⟨_, rfl, ?_⟩
  cases h0 : p.2.contains "KeyError" with
  | true =>
    rw [h0, if_pos rfl] at hq
    refine iteT ?_
    walk_at "dl"
    exact rt_same (hq _ (.refl _))
  | false =>
  rw [h0, if_neg (by decide)] at hq
  refine iteF ?_
  refine i_next ?_
  walk_at "dw"
  refine i_isXT hx hxc (ht "IndexError" (by decide +kernel)) ?_
  refine ⟨_, rfl, ?_⟩
  cases h1 : p.2.contains "IndexError" with
  | true =>
    rw [h1, if_pos rfl] at hq
    refine iteT ?_
    walk_at "dl"
    exact rt_same (hq _ (.refl _))
  | false =>
  rw [h1, if_neg (by decide)] at hq
  refine iteF ?_
  refine i_next ?_
  walk_at "dw"
  refine i_isXT hx hxc (ht "LookupError" (by decide +kernel)) ?_
  refine ⟨_, rfl, ?_⟩
  cases h2 : p.2.contains "LookupError" with
  | true =>
    rw [h2, if_pos rfl] at hq
    refine iteT ?_
    walk_at "dl"
    exact rt_same (hq _ (.refl _))
  | false =>
  rw [h2, if_neg (by decide)] at hq
  refine iteF ?_
  refine i_next ?_
  walk_at "dw"
  refine i_isXT hx hxc (ht "OverflowError" (by decide +kernel)) ?_
  refine ⟨_, rfl, ?_⟩
  cases h3 : p.2.contains "OverflowError" with
  | true =>
    rw [h3, if_pos rfl] at hq
    refine iteT ?_
    walk_at "dl"
    exact rt_same (hq _ (.refl _))
  | false =>
  rw [h3, if_neg (by decide)] at hq
  refine iteF ?_
  refine i_next ?_
  walk_at "dw"
  refine i_isXT hx hxc (ht "ZeroDivisionError" (by decide +kernel)) ?_
  refine ⟨_, rfl, ?_⟩
  cases h4 : p.2.contains "ZeroDivisionError" with
  | true =>
    rw [h4, if_pos rfl] at hq
    refine iteT ?_
    walk_at "dl"
    exact rt_same (hq _ (.refl _))
  | false =>
  rw [h4, if_neg (by decide)] at hq
  refine iteF ?_
  refine i_next ?_
  walk_at "dl"
  refine i_isXT hx hxc (ht "ValueError" (by decide +kernel)) ?_
  walk_at "dl"
  refine i_isXT hx hxc (ht "RuntimeError" (by decide +kernel)) ?_
  walk_at "dl"
  refine i_isXT hx hxc (ht "ArithmeticError" (by decide +kernel)) ?_
  generalize p.2.contains "ValueError" = b6 at hq
  generalize p.2.contains "RuntimeError" = b7 at hq
  generalize p.2.contains "ArithmeticError" = b8 at hq
  walk_at "dl"
  intro pf hpf
  walk_at "dl"
  have hx2 := hx.sub (SubO.fresh (o := .lst [D.bl b6, D.bl b7, D.bl b8]) hpf)
  refine i_isXT hx2 hxc (ht "TypeError" (by decide +kernel)) ?_
  generalize p.2.contains "TypeError" = b9 at hq
  walk_at "dl"
  · exact Nat.lt_of_lt_of_le (show 3 < 100000 by decide) (line_ok (Nat.le_refl _))
  walk_at "dl"
  refine joinE (.str (if [b6, b7, b8, b9].count true = 1 then (["value", "runtime", "arithmetic", "kind"] : List Str).getD ([b6, b7, b8, b9].idxOf true) "" else "several")) (fun q' hq' => ?_) ?_
  · walk_at "dw"
    refine i_lcntB ?_
    walk_at "dw"
    refine i_lcB setO_same ?_
    walk_at "dw"
    refine i_lcB2 (bs := [b6, b7, b8, b9]) setO_same ?_
    walk_at "dw"
    refine if_d (fun h => ?_) (fun h => ?_)
    · have h1 : [b6, b7, b8, b9].count true = 1 := by omega
      rw [if_pos h1] at hq'
      obtain ⟨j, hj, hno, hw⟩ := one_true h1
      walk_at "dl"
      refine i_idxO ?_
      walk_at "dl"
      refine i_ixK setO_same ?_
      walk_at "dl"
      refine i_ixB (bs := [b6, b7, b8, b9]) setO_same hj hno ?_
      rw [hw] at hq'
      refine i_ixL (d := .str ((["value", "runtime", "arithmetic", "kind"] : List Str).getD j "")) ?_ ?_
      · have : j < 4 := (List.getElem?_eq_some_iff.mp hj).1
        refine atI_nat (j := j) ?_
        have hc : j = 0 ∨ j = 1 ∨ j = 2 ∨ j = 3 := by omega
        rcases hc with rfl | rfl | rfl | rfl <;> rfl
      · exact hq'
    · have h1 : ¬ [b6, b7, b8, b9].count true = 1 := by omega
      rw [if_neg h1] at hq'
      walk_at "dl"
      exact hq'
  rw [setO_setO]
  exact ⟨_, .refl _, hq _ (.fresh hpf)⟩
def words19 : List Str := ["value", "value", "value", "value", "value", "value", "key", "key", "lookup", "lookup", "index", "runtime", "runtime", "runtime", "runtime", "overflow", "arithmetic", "arithmetic", "kind"]
def f_law_made (K : Frag) : DF := fun ds O q _ => ∃ one other, ds = [one, other] ∧ ∀ (as : List Addr) (O' : Ow), as.length = 19 → SubO O O' → Held K O' (as.zip (exFam.map (·.1))) → q (.lst ((as.zip words19).map fun x => D.tup [.ref x.1, .str x.2])) O'
abbrev N_law_made : List Str := ["_law_one", "_law_other", "_law_found"]
abbrev P_law_made : List Str := ["_law_one", "_law_other"]
theorem sc_law_made : FnScope N_law_made P_law_made (defScope s_law_made) := ⟨rfl, rfl, rfl, by decide +kernel, rfl, by decide +kernel, by decide +kernel⟩
theorem bd_law_made : Bd0 "_law_made" "_law_made" s_law_made P_law_made := fun _ _ _ _ _ _ us hl => match us, hl with | [_, _], _ => rfl
abbrev Fn_law_made (P : Program) (w : World) (K : Frag) (mg : Str → Option Value) (base : Heap) : Prop := Fn P w K mg base "_law_made" "_law_made" s_law_made [] [] P_law_made 2 3 (f_law_made K) (He.ga K "_law_made")
structure C_law_made (P : Program) (w : World) (K : Frag) (mg : Str → Option Value) (base : Heap) : Prop where
  BadCommand___init__ : Fn_BadCommand___init__ P w K mg base
  BadDeed___init__ : Fn_BadDeed___init__ P w K mg base
  BadEnd___init__ : Fn_BadEnd___init__ P w K mg base
  BadFault___init__ : Fn_BadFault___init__ P w K mg base
  BadFrame___init__ : Fn_BadFrame___init__ P w K mg base
  BadText___init__ : Fn_BadText___init__ P w K mg base
  Endless___init__ : Fn_Endless___init__ P w K mg base
  NoName___init__ : Fn_NoName___init__ P w K mg base
  NoOutcome___init__ : Fn_NoOutcome___init__ P w K mg base
  NoPromise___init__ : Fn_NoPromise___init__ P w K mg base
  NoStation___init__ : Fn_NoStation___init__ P w K mg base
  Taken___init__ : Fn_Taken___init__ P w K mg base
  TooMany___init__ : Fn_TooMany___init__ P w K mg base
theorem ok_law_made {P : Program} {w : World} {K : Frag} {mg : Str → Option Value} {base : Heap} (F : HasD K "_law_made" "_law_made" s_law_made [] [] (He.ga K "_law_made")) (T : Txt K mg) (C : C_law_made P w K mg base) : Fn_law_made P w K mg base := by
  have sc := sc_law_made
  refine fn_E (k := 2) F sc rfl fun cdv A outer s H E O0 H0 F0 ds O q xx hl hf S => ⟨_,
      (ds_cons (ds_set (ps_set (i := 2) sc.nd rfl (by first | exact Or.inl rfl | exact Or.inr rfl) (de_lst (da_cons (de_tup (da_cons (de_exV2 S (by decide) T.ex_BadEnd C.BadEnd___init__ T.g_BadEnd rfl (da_cons (de_var (pv 0)) (da_cons (de_var (pv 1)) da_nil))) (da_cons de_str da_nil))) (da_cons (de_tup (da_cons (de_exV2 S (by decide) T.ex_BadFault C.BadFault___init__ T.g_BadFault rfl (da_cons (de_var (pv 0)) (da_cons (de_var (pv 1)) da_nil))) (da_cons de_str da_nil))) (da_cons (de_tup (da_cons (de_exV1 S (by decide) T.ex_BadFrame C.BadFrame___init__ T.g_BadFrame rfl (da_cons (de_var (pv 0)) da_nil)) (da_cons de_str da_nil))) da_nil))))))
      (ds_cons (ds_set (ps_set (i := 2) sc.nd rfl (by first | exact Or.inl rfl | exact Or.inr rfl) (so_add S (de_var (pv 2)) (de_lst (da_cons (de_tup (da_cons (de_exV1 S (by decide) T.ex_BadText C.BadText___init__ T.g_BadText rfl (da_cons (de_var (pv 0)) da_nil)) (da_cons de_str da_nil))) (da_cons (de_tup (da_cons (de_exV1 S (by decide) T.ex_BadCommand C.BadCommand___init__ T.g_BadCommand rfl (da_cons (de_var (pv 0)) da_nil)) (da_cons de_str da_nil))) (da_cons (de_tup (da_cons (de_exV1 S (by decide) T.ex_NoPromise C.NoPromise___init__ T.g_NoPromise rfl (da_cons (de_var (pv 0)) da_nil)) (da_cons de_str da_nil))) da_nil)))))))
      (ds_cons (ds_set (ps_set (i := 2) sc.nd rfl (by first | exact Or.inl rfl | exact Or.inr rfl) (so_add S (de_var (pv 2)) (de_lst (da_cons (de_tup (da_cons (de_exV1 S (by decide) T.ex_NoStation C.NoStation___init__ T.g_NoStation rfl (da_cons (de_var (pv 0)) da_nil)) (da_cons de_str da_nil))) (da_cons (de_tup (da_cons (de_exV1 S (by decide) T.ex_NoName C.NoName___init__ T.g_NoName rfl (da_cons (de_var (pv 0)) da_nil)) (da_cons de_str da_nil))) (da_cons (de_tup (da_cons (de_exV1 S (by decide) T.ex_NoOutcome C.NoOutcome___init__ T.g_NoOutcome rfl (da_cons (de_var (pv 0)) da_nil)) (da_cons de_str da_nil))) da_nil)))))))
      (ds_cons (ds_set (ps_set (i := 2) sc.nd rfl (by first | exact Or.inl rfl | exact Or.inr rfl) (so_add S (de_var (pv 2)) (de_lst (da_cons (de_tup (da_cons (de_ex0 S T.e0_NothingToUndo T.g_NothingToUndo rfl) (da_cons de_str da_nil))) (da_cons (de_tup (da_cons (de_exV1 S (by decide) T.ex_BadDeed C.BadDeed___init__ T.g_BadDeed rfl (da_cons (de_var (pv 0)) da_nil)) (da_cons de_str da_nil))) (da_cons (de_tup (da_cons (de_exV2 S (by decide) T.ex_Endless C.Endless___init__ T.g_Endless rfl (da_cons (de_var (pv 0)) (da_cons (de_var (pv 1)) da_nil))) (da_cons de_str da_nil))) da_nil)))))))
      (ds_cons (ds_set (ps_set (i := 2) sc.nd rfl (by first | exact Or.inl rfl | exact Or.inr rfl) (so_add S (de_var (pv 2)) (de_lst (da_cons (de_tup (da_cons (de_ex0 S T.e0_NothingWaits T.g_NothingWaits rfl) (da_cons de_str da_nil))) (da_cons (de_tup (da_cons (de_ex0 S T.e0_NoHearer T.g_NoHearer rfl) (da_cons de_str da_nil))) (da_cons (de_tup (da_cons (de_ex0 S T.e0_NoLine T.g_NoLine rfl) (da_cons de_str da_nil))) da_nil)))))))
      (ds_cons (ds_set (ps_set (i := 2) sc.nd rfl (by first | exact Or.inl rfl | exact Or.inr rfl) (so_add S (de_var (pv 2)) (de_lst (da_cons (de_tup (da_cons (de_exV1 S (by decide) T.ex_TooMany C.TooMany___init__ T.g_TooMany rfl (da_cons (de_var (pv 0)) da_nil)) (da_cons de_str da_nil))) (da_cons (de_tup (da_cons (de_ex0 S T.e0_Unsound T.g_Unsound rfl) (da_cons de_str da_nil))) (da_cons (de_tup (da_cons (de_ex0 S T.e0_Unbounded T.g_Unbounded rfl) (da_cons de_str da_nil))) da_nil)))))))
      (ds_one (ds_ret (so_add S (de_var (pv 2)) (de_lst (da_cons (de_tup (da_cons (de_exV1 S (by decide) T.ex_Taken C.Taken___init__ T.g_Taken rfl (da_cons (de_var (pv 0)) da_nil)) (da_cons de_str da_nil))) da_nil)))))))))))
      , ?_⟩
  obtain ⟨one, other, rfl, hq⟩ := hf
  have H : Held K O [] := .nil
  have Q : SubO O O := .refl _
  walk_at "dl"
  refine i_exV ?_
  walk_at "dl"
  refine ⟨rfl, fun a0 O0 n0 s0 h0 => ?_⟩
  have H := H.snoc s0 h0
  have Q := Q.trans s0
  walk_at "dl"
  refine i_exV ?_
  walk_at "dl"
  refine ⟨rfl, fun a1 O1 n1 s1 h1 => ?_⟩
  have H := H.snoc s1 h1
  have Q := Q.trans s1
  walk_at "dl"
  refine i_exV ?_
  walk_at "dl"
  refine ⟨rfl, fun a2 O2 n2 s2 h2 => ?_⟩
  have H := H.snoc s2 h2
  have Q := Q.trans s2
  walk_at "dl"
  refine i_exV ?_
  walk_at "dl"
  refine ⟨rfl, fun a3 O3 n3 s3 h3 => ?_⟩
  have H := H.snoc s3 h3
  have Q := Q.trans s3
  walk_at "dl"
  refine i_exV ?_
  walk_at "dl"
  refine ⟨rfl, fun a4 O4 n4 s4 h4 => ?_⟩
  have H := H.snoc s4 h4
  have Q := Q.trans s4
  walk_at "dl"
  refine i_exV ?_
  walk_at "dl"
  refine ⟨rfl, fun a5 O5 n5 s5 h5 => ?_⟩
  have H := H.snoc s5 h5
  have Q := Q.trans s5
  walk_at "dl"
  refine i_addL (Nat.le_of_ble_eq_true rfl) ?_
  walk_at "dl"
  refine i_exV ?_
  walk_at "dl"
  refine ⟨rfl, fun a6 O6 n6 s6 h6 => ?_⟩
  have H := H.snoc s6 h6
  have Q := Q.trans s6
  walk_at "dl"
  refine i_exV ?_
  walk_at "dl"
  refine ⟨rfl, fun a7 O7 n7 s7 h7 => ?_⟩
  have H := H.snoc s7 h7
  have Q := Q.trans s7
  walk_at "dl"
  refine i_exV ?_
  walk_at "dl"
  refine ⟨rfl, fun a8 O8 n8 s8 h8 => ?_⟩
  have H := H.snoc s8 h8
  have Q := Q.trans s8
  walk_at "dl"
  refine i_addL (Nat.le_of_ble_eq_true rfl) ?_
  walk_at "dl"
  refine i_ex0 fun a9 O9 n9 s9 h9 => ?_
  have H := H.snoc s9 h9
  have Q := Q.trans s9
  walk_at "dl"
  refine i_exV ?_
  walk_at "dl"
  refine ⟨rfl, fun a10 O10 n10 s10 h10 => ?_⟩
  have H := H.snoc s10 h10
  have Q := Q.trans s10
  walk_at "dl"
  refine i_exV ?_
  walk_at "dl"
  refine ⟨rfl, fun a11 O11 n11 s11 h11 => ?_⟩
  have H := H.snoc s11 h11
  have Q := Q.trans s11
  walk_at "dl"
  refine i_addL (Nat.le_of_ble_eq_true rfl) ?_
  walk_at "dl"
  refine i_ex0 fun a12 O12 n12 s12 h12 => ?_
  have H := H.snoc s12 h12
  have Q := Q.trans s12
  walk_at "dl"
  refine i_ex0 fun a13 O13 n13 s13 h13 => ?_
  have H := H.snoc s13 h13
  have Q := Q.trans s13
  walk_at "dl"
  refine i_ex0 fun a14 O14 n14 s14 h14 => ?_
  have H := H.snoc s14 h14
  have Q := Q.trans s14
  walk_at "dl"
  refine i_addL (Nat.le_of_ble_eq_true rfl) ?_
  walk_at "dl"
  refine i_exV ?_
  walk_at "dl"
  refine ⟨rfl, fun a15 O15 n15 s15 h15 => ?_⟩
  have H := H.snoc s15 h15
  have Q := Q.trans s15
  walk_at "dl"
  refine i_ex0 fun a16 O16 n16 s16 h16 => ?_
  have H := H.snoc s16 h16
  have Q := Q.trans s16
  walk_at "dl"
  refine i_ex0 fun a17 O17 n17 s17 h17 => ?_
  have H := H.snoc s17 h17
  have Q := Q.trans s17
  walk_at "dl"
  refine i_addL (Nat.le_of_ble_eq_true rfl) ?_
  walk_at "dl"
  refine i_exV ?_
  walk_at "dl"
  refine ⟨rfl, fun a18 O18 n18 s18 h18 => ?_⟩
  have H := H.snoc s18 h18
  have Q := Q.trans s18
  walk_at "dl"
  refine i_addL (Nat.le_of_ble_eq_true rfl) ?_
  walk_at "dl"
  exact rt_same (hq [a0, a1, a2, a3, a4, a5, a6, a7, a8, a9, a10, a11, a12, a13, a14, a15, a16, a17, a18] O18 rfl Q H)
def f_law_fields : DF := fun ds O q _ => ∃ one other, ds = [one, other] ∧ q (.lst (List.replicate 26 one)) O
abbrev N_law_fields : List Str := ["_law_one", "_law_other", "_law_found"]
abbrev P_law_fields : List Str := ["_law_one", "_law_other"]
theorem sc_law_fields : FnScope N_law_fields P_law_fields (defScope s_law_fields) := ⟨rfl, rfl, rfl, by decide +kernel, rfl, by decide +kernel, by decide +kernel⟩
theorem bd_law_fields : Bd0 "_law_fields" "_law_fields" s_law_fields P_law_fields := fun _ _ _ _ _ _ us hl => match us, hl with | [_, _], _ => rfl
abbrev Fn_law_fields (P : Program) (w : World) (K : Frag) (mg : Str → Option Value) (base : Heap) : Prop := Fn P w K mg base "_law_fields" "_law_fields" s_law_fields [] [] P_law_fields 2 3 f_law_fields (He.ga K "_law_fields")
structure C_law_fields (P : Program) (w : World) (K : Frag) (mg : Str → Option Value) (base : Heap) : Prop where
  BadCommand___init__ : Fn_BadCommand___init__ P w K mg base
  BadDeed___init__ : Fn_BadDeed___init__ P w K mg base
  BadEnd___init__ : Fn_BadEnd___init__ P w K mg base
  BadFault___init__ : Fn_BadFault___init__ P w K mg base
  BadFrame___init__ : Fn_BadFrame___init__ P w K mg base
  BadText___init__ : Fn_BadText___init__ P w K mg base
  Endless___init__ : Fn_Endless___init__ P w K mg base
  NoName___init__ : Fn_NoName___init__ P w K mg base
  NoOutcome___init__ : Fn_NoOutcome___init__ P w K mg base
  NoPromise___init__ : Fn_NoPromise___init__ P w K mg base
  NoStation___init__ : Fn_NoStation___init__ P w K mg base
  Taken___init__ : Fn_Taken___init__ P w K mg base
  TooMany___init__ : Fn_TooMany___init__ P w K mg base
theorem ok_law_fields {P : Program} {w : World} {K : Frag} {mg : Str → Option Value} {base : Heap} (F : HasD K "_law_fields" "_law_fields" s_law_fields [] [] (He.ga K "_law_fields")) (T : Txt K mg) (C : C_law_fields P w K mg base) : Fn_law_fields P w K mg base := by
  have sc := sc_law_fields
  refine fn_E (k := 2) F sc rfl fun cdv A outer s H E O0 H0 F0 ds O q xx hl hf S => ⟨_,
      (ds_cons (ds_set (ps_set (i := 2) sc.nd rfl (by first | exact Or.inl rfl | exact Or.inr rfl) (de_lst (da_cons (de_exG2 (i := 0) S (by decide) T.ex_BadEnd T.xf_BadEnd T.n_BadEnd_part C.BadEnd___init__ T.g_BadEnd rfl (da_cons (de_var (pv 0)) (da_cons (de_var (pv 1)) da_nil)) (fun _ _ => rfl)) (da_cons (de_exG2 (i := 0) S (by decide) T.ex_BadFault T.xf_BadFault T.n_BadFault_bit C.BadFault___init__ T.g_BadFault rfl (da_cons (de_var (pv 0)) (da_cons (de_var (pv 1)) da_nil)) (fun _ _ => rfl)) (da_cons (de_exG1 S (by decide) T.ex_BadFrame T.xf_BadFrame T.n_BadFrame_frame C.BadFrame___init__ T.g_BadFrame rfl (da_cons (de_var (pv 0)) da_nil)) (da_cons (de_exG1 S (by decide) T.ex_BadText T.xf_BadText T.n_BadText_text C.BadText___init__ T.g_BadText rfl (da_cons (de_var (pv 0)) da_nil)) da_nil)))))))
      (ds_cons (ds_set (ps_set (i := 2) sc.nd rfl (by first | exact Or.inl rfl | exact Or.inr rfl) (so_add S (de_var (pv 2)) (de_lst (da_cons (de_exG1 S (by decide) T.ex_BadCommand T.xf_BadCommand T.n_BadCommand_command C.BadCommand___init__ T.g_BadCommand rfl (da_cons (de_var (pv 0)) da_nil)) (da_cons (de_exG1 S (by decide) T.ex_NoPromise T.xf_NoPromise T.n_NoPromise_promise C.NoPromise___init__ T.g_NoPromise rfl (da_cons (de_var (pv 0)) da_nil)) (da_cons (de_exG1 S (by decide) T.ex_NoStation T.xf_NoStation T.n_NoStation_station C.NoStation___init__ T.g_NoStation rfl (da_cons (de_var (pv 0)) da_nil)) (da_cons (de_exG1 S (by decide) T.ex_NoName T.xf_NoName T.n_NoName_name C.NoName___init__ T.g_NoName rfl (da_cons (de_var (pv 0)) da_nil)) da_nil))))))))
      (ds_cons (ds_set (ps_set (i := 2) sc.nd rfl (by first | exact Or.inl rfl | exact Or.inr rfl) (so_add S (de_var (pv 2)) (de_lst (da_cons (de_exG1 S (by decide) T.ex_NoOutcome T.xf_NoOutcome T.n_NoOutcome_outcome C.NoOutcome___init__ T.g_NoOutcome rfl (da_cons (de_var (pv 0)) da_nil)) (da_cons (de_exG1 S (by decide) T.ex_BadDeed T.xf_BadDeed T.n_BadDeed_index C.BadDeed___init__ T.g_BadDeed rfl (da_cons (de_var (pv 0)) da_nil)) (da_cons (de_exG2 (i := 0) S (by decide) T.ex_Endless T.xf_Endless T.n_Endless_bit C.Endless___init__ T.g_Endless rfl (da_cons (de_var (pv 0)) (da_cons (de_var (pv 1)) da_nil)) (fun _ _ => rfl)) (da_cons (de_exG1 S (by decide) T.ex_TooMany T.xf_TooMany T.n_TooMany_limit C.TooMany___init__ T.g_TooMany rfl (da_cons (de_var (pv 0)) da_nil)) da_nil))))))))
      (ds_cons (ds_set (ps_set (i := 2) sc.nd rfl (by first | exact Or.inl rfl | exact Or.inr rfl) (so_add S (de_var (pv 2)) (de_lst (da_cons (de_exG1 S (by decide) T.ex_Taken T.xf_Taken T.n_Taken_frame C.Taken___init__ T.g_Taken rfl (da_cons (de_var (pv 0)) da_nil)) (da_cons (de_exK2 (i := 1) S (by decide) T.ex_BadEnd T.xf_BadEnd T.n_BadEnd_part C.BadEnd___init__ T.g_BadEnd rfl (dk_cons (de_var (pv 1)) (dk_cons (de_var (pv 0)) dk_nil)) (fun _ _ => rfl)) (da_cons (de_exK2 (i := 1) S (by decide) T.ex_BadFault T.xf_BadFault T.n_BadFault_bit C.BadFault___init__ T.g_BadFault rfl (dk_cons (de_var (pv 1)) (dk_cons (de_var (pv 0)) dk_nil)) (fun _ _ => rfl)) da_nil)))))))
      (ds_cons (ds_set (ps_set (i := 2) sc.nd rfl (by first | exact Or.inl rfl | exact Or.inr rfl) (so_add S (de_var (pv 2)) (de_lst (da_cons (de_exK2 (i := 1) S (by decide) T.ex_Endless T.xf_Endless T.n_Endless_bit C.Endless___init__ T.g_Endless rfl (dk_cons (de_var (pv 1)) (dk_cons (de_var (pv 0)) dk_nil)) (fun _ _ => rfl)) (da_cons (de_exK1 S (by decide) T.ex_BadFrame T.xf_BadFrame T.n_BadFrame_frame C.BadFrame___init__ T.g_BadFrame rfl (dk_cons (de_var (pv 0)) dk_nil)) (da_cons (de_exK1 S (by decide) T.ex_BadText T.xf_BadText T.n_BadText_text C.BadText___init__ T.g_BadText rfl (dk_cons (de_var (pv 0)) dk_nil)) da_nil)))))))
      (ds_cons (ds_set (ps_set (i := 2) sc.nd rfl (by first | exact Or.inl rfl | exact Or.inr rfl) (so_add S (de_var (pv 2)) (de_lst (da_cons (de_exK1 S (by decide) T.ex_BadCommand T.xf_BadCommand T.n_BadCommand_command C.BadCommand___init__ T.g_BadCommand rfl (dk_cons (de_var (pv 0)) dk_nil)) (da_cons (de_exK1 S (by decide) T.ex_NoPromise T.xf_NoPromise T.n_NoPromise_promise C.NoPromise___init__ T.g_NoPromise rfl (dk_cons (de_var (pv 0)) dk_nil)) (da_cons (de_exK1 S (by decide) T.ex_Taken T.xf_Taken T.n_Taken_frame C.Taken___init__ T.g_Taken rfl (dk_cons (de_var (pv 0)) dk_nil)) da_nil)))))))
      (ds_cons (ds_set (ps_set (i := 2) sc.nd rfl (by first | exact Or.inl rfl | exact Or.inr rfl) (so_add S (de_var (pv 2)) (de_lst (da_cons (de_exK1 S (by decide) T.ex_NoStation T.xf_NoStation T.n_NoStation_station C.NoStation___init__ T.g_NoStation rfl (dk_cons (de_var (pv 0)) dk_nil)) (da_cons (de_exK1 S (by decide) T.ex_NoName T.xf_NoName T.n_NoName_name C.NoName___init__ T.g_NoName rfl (dk_cons (de_var (pv 0)) dk_nil)) (da_cons (de_exK1 S (by decide) T.ex_NoOutcome T.xf_NoOutcome T.n_NoOutcome_outcome C.NoOutcome___init__ T.g_NoOutcome rfl (dk_cons (de_var (pv 0)) dk_nil)) da_nil)))))))
      (ds_one (ds_ret (so_add S (de_var (pv 2)) (de_lst (da_cons (de_exK1 S (by decide) T.ex_BadDeed T.xf_BadDeed T.n_BadDeed_index C.BadDeed___init__ T.g_BadDeed rfl (dk_cons (de_var (pv 0)) dk_nil)) (da_cons (de_exK1 S (by decide) T.ex_TooMany T.xf_TooMany T.n_TooMany_limit C.TooMany___init__ T.g_TooMany rfl (dk_cons (de_var (pv 0)) dk_nil)) da_nil)))))))))))))
      , ?_⟩
  obtain ⟨one, other, rfl, hq⟩ := hf
  walk_at "dl"
  refine i_exG ?_
  walk_at "dl"
  refine ⟨rfl, _, rfl, ?_⟩
  walk_at "dl"
  refine i_exG ?_
  walk_at "dl"
  refine ⟨rfl, _, rfl, ?_⟩
  walk_at "dl"
  refine i_exG ?_
  walk_at "dl"
  refine ⟨rfl, _, rfl, ?_⟩
  walk_at "dl"
  refine i_exG ?_
  walk_at "dl"
  refine ⟨rfl, _, rfl, ?_⟩
  walk_at "dl"
  refine i_exG ?_
  walk_at "dl"
  refine ⟨rfl, _, rfl, ?_⟩
  walk_at "dl"
  refine i_exG ?_
  walk_at "dl"
  refine ⟨rfl, _, rfl, ?_⟩
  walk_at "dl"
  refine i_exG ?_
  walk_at "dl"
  refine ⟨rfl, _, rfl, ?_⟩
  walk_at "dl"
  refine i_exG ?_
  walk_at "dl"
  refine ⟨rfl, _, rfl, ?_⟩
  walk_at "dl"
  refine i_addL (Nat.le_of_ble_eq_true rfl) ?_
  walk_at "dl"
  refine i_exG ?_
  walk_at "dl"
  refine ⟨rfl, _, rfl, ?_⟩
  walk_at "dl"
  refine i_exG ?_
  walk_at "dl"
  refine ⟨rfl, _, rfl, ?_⟩
  walk_at "dl"
  refine i_exG ?_
  walk_at "dl"
  refine ⟨rfl, _, rfl, ?_⟩
  walk_at "dl"
  refine i_exG ?_
  walk_at "dl"
  refine ⟨rfl, _, rfl, ?_⟩
  walk_at "dl"
  refine i_addL (Nat.le_of_ble_eq_true rfl) ?_
  walk_at "dl"
  refine i_exG ?_
  walk_at "dl"
  refine ⟨rfl, _, rfl, ?_⟩
  walk_at "dl"
  refine i_exG ?_
  walk_at "dl"
  refine ⟨rfl, _, rfl, ?_⟩
  walk_at "dl"
  refine i_exG ?_
  walk_at "dl"
  refine ⟨rfl, _, rfl, ?_⟩
  walk_at "dl"
  refine i_addL (Nat.le_of_ble_eq_true rfl) ?_
  walk_at "dl"
  refine i_exG ?_
  walk_at "dl"
  refine ⟨rfl, _, rfl, ?_⟩
  walk_at "dl"
  refine i_exG ?_
  walk_at "dl"
  refine ⟨rfl, _, rfl, ?_⟩
  walk_at "dl"
  refine i_exG ?_
  walk_at "dl"
  refine ⟨rfl, _, rfl, ?_⟩
  walk_at "dl"
  refine i_addL (Nat.le_of_ble_eq_true rfl) ?_
  walk_at "dl"
  refine i_exG ?_
  walk_at "dl"
  refine ⟨rfl, _, rfl, ?_⟩
  walk_at "dl"
  refine i_exG ?_
  walk_at "dl"
  refine ⟨rfl, _, rfl, ?_⟩
  walk_at "dl"
  refine i_exG ?_
  walk_at "dl"
  refine ⟨rfl, _, rfl, ?_⟩
  walk_at "dl"
  refine i_addL (Nat.le_of_ble_eq_true rfl) ?_
  walk_at "dl"
  refine i_exG ?_
  walk_at "dl"
  refine ⟨rfl, _, rfl, ?_⟩
  walk_at "dl"
  refine i_exG ?_
  walk_at "dl"
  refine ⟨rfl, _, rfl, ?_⟩
  walk_at "dl"
  refine i_exG ?_
  walk_at "dl"
  refine ⟨rfl, _, rfl, ?_⟩
  walk_at "dl"
  refine i_addL (Nat.le_of_ble_eq_true rfl) ?_
  walk_at "dl"
  refine i_exG ?_
  walk_at "dl"
  refine ⟨rfl, _, rfl, ?_⟩
  walk_at "dl"
  refine i_exG ?_
  walk_at "dl"
  refine ⟨rfl, _, rfl, ?_⟩
  walk_at "dl"
  refine i_addL (Nat.le_of_ble_eq_true rfl) ?_
  walk_at "dl"
  exact rt_same hq
def f_law_seconds : DF := fun ds O q _ => ∃ one other, ds = [one, other] ∧ q (.lst (List.replicate 6 other)) O
abbrev N_law_seconds : List Str := ["_law_one", "_law_other", "_law_found"]
abbrev P_law_seconds : List Str := ["_law_one", "_law_other"]
theorem sc_law_seconds : FnScope N_law_seconds P_law_seconds (defScope s_law_seconds) := ⟨rfl, rfl, rfl, by decide +kernel, rfl, by decide +kernel, by decide +kernel⟩
theorem bd_law_seconds : Bd0 "_law_seconds" "_law_seconds" s_law_seconds P_law_seconds := fun _ _ _ _ _ _ us hl => match us, hl with | [_, _], _ => rfl
abbrev Fn_law_seconds (P : Program) (w : World) (K : Frag) (mg : Str → Option Value) (base : Heap) : Prop := Fn P w K mg base "_law_seconds" "_law_seconds" s_law_seconds [] [] P_law_seconds 2 3 f_law_seconds (He.ga K "_law_seconds")
structure C_law_seconds (P : Program) (w : World) (K : Frag) (mg : Str → Option Value) (base : Heap) : Prop where
  BadEnd___init__ : Fn_BadEnd___init__ P w K mg base
  BadFault___init__ : Fn_BadFault___init__ P w K mg base
  Endless___init__ : Fn_Endless___init__ P w K mg base
theorem ok_law_seconds {P : Program} {w : World} {K : Frag} {mg : Str → Option Value} {base : Heap} (F : HasD K "_law_seconds" "_law_seconds" s_law_seconds [] [] (He.ga K "_law_seconds")) (T : Txt K mg) (C : C_law_seconds P w K mg base) : Fn_law_seconds P w K mg base := by
  have sc := sc_law_seconds
  refine fn_E (k := 2) F sc rfl fun cdv A outer s H E O0 H0 F0 ds O q xx hl hf S => ⟨_,
      (ds_cons (ds_set (ps_set (i := 2) sc.nd rfl (by first | exact Or.inl rfl | exact Or.inr rfl) (de_lst (da_cons (de_exG2 (i := 1) S (by decide) T.ex_BadEnd T.xf_BadEnd T.n_BadEnd_row C.BadEnd___init__ T.g_BadEnd rfl (da_cons (de_var (pv 0)) (da_cons (de_var (pv 1)) da_nil)) (fun _ _ => rfl)) (da_cons (de_exG2 (i := 1) S (by decide) T.ex_BadFault T.xf_BadFault T.n_BadFault_station C.BadFault___init__ T.g_BadFault rfl (da_cons (de_var (pv 0)) (da_cons (de_var (pv 1)) da_nil)) (fun _ _ => rfl)) (da_cons (de_exG2 (i := 1) S (by decide) T.ex_Endless T.xf_Endless T.n_Endless_ring C.Endless___init__ T.g_Endless rfl (da_cons (de_var (pv 0)) (da_cons (de_var (pv 1)) da_nil)) (fun _ _ => rfl)) da_nil))))))
      (ds_cons (ds_set (ps_set (i := 2) sc.nd rfl (by first | exact Or.inl rfl | exact Or.inr rfl) (so_add S (de_var (pv 2)) (de_lst (da_cons (de_exK2 (i := 0) S (by decide) T.ex_BadEnd T.xf_BadEnd T.n_BadEnd_row C.BadEnd___init__ T.g_BadEnd rfl (dk_cons (de_var (pv 1)) (dk_cons (de_var (pv 0)) dk_nil)) (fun _ _ => rfl)) (da_cons (de_exK2 (i := 0) S (by decide) T.ex_BadFault T.xf_BadFault T.n_BadFault_station C.BadFault___init__ T.g_BadFault rfl (dk_cons (de_var (pv 1)) (dk_cons (de_var (pv 0)) dk_nil)) (fun _ _ => rfl)) da_nil))))))
      (ds_one (ds_ret (so_add S (de_var (pv 2)) (de_lst (da_cons (de_exK2 (i := 0) S (by decide) T.ex_Endless T.xf_Endless T.n_Endless_ring C.Endless___init__ T.g_Endless rfl (dk_cons (de_var (pv 1)) (dk_cons (de_var (pv 0)) dk_nil)) (fun _ _ => rfl)) da_nil)))))))
      , ?_⟩
  obtain ⟨one, other, rfl, hq⟩ := hf
  walk_at "dl"
  refine i_exG ?_
  walk_at "dl"
  refine ⟨rfl, _, rfl, ?_⟩
  walk_at "dl"
  refine i_exG ?_
  walk_at "dl"
  refine ⟨rfl, _, rfl, ?_⟩
  walk_at "dl"
  refine i_exG ?_
  walk_at "dl"
  refine ⟨rfl, _, rfl, ?_⟩
  walk_at "dl"
  refine i_exG ?_
  walk_at "dl"
  refine ⟨rfl, _, rfl, ?_⟩
  walk_at "dl"
  refine i_exG ?_
  walk_at "dl"
  refine ⟨rfl, _, rfl, ?_⟩
  walk_at "dl"
  refine i_addL (Nat.le_of_ble_eq_true rfl) ?_
  walk_at "dl"
  refine i_exG ?_
  walk_at "dl"
  refine ⟨rfl, _, rfl, ?_⟩
  walk_at "dl"
  refine i_addL (Nat.le_of_ble_eq_true rfl) ?_
  walk_at "dl"
  exact rt_same hq
def anyP : List PyData := (anyL 0).map fun d => match d with
  | .ref _ => .dict []
  | d => py d
theorem any_asE {O : Ow} {pd : Addr} {d : D} (h : d ∈ anyL pd) (e : O pd = some (.dK [])) : ∃ a ∈ anyP, asE O d = some a := by
  simp only [anyL, List.mem_cons, List.not_mem_nil, or_false] at h
  rcases h with rfl | rfl | rfl | rfl | rfl | rfl | rfl | rfl | rfl | rfl | rfl | rfl | rfl
  · exact ⟨_, List.mem_of_getElem? (i := 0) rfl, asE_pd rfl⟩
  · exact ⟨_, List.mem_of_getElem? (i := 1) rfl, asE_pd rfl⟩
  · exact ⟨_, List.mem_of_getElem? (i := 2) rfl, asE_pd rfl⟩
  · exact ⟨_, List.mem_of_getElem? (i := 3) rfl, asE_pd rfl⟩
  · exact ⟨_, List.mem_of_getElem? (i := 4) rfl, asE_pd rfl⟩
  · exact ⟨_, List.mem_of_getElem? (i := 5) rfl, asE_pd rfl⟩
  · exact ⟨_, List.mem_of_getElem? (i := 6) rfl, asE_pd rfl⟩
  · exact ⟨_, List.mem_of_getElem? (i := 7) rfl, asE_pd rfl⟩
  · exact ⟨_, List.mem_of_getElem? (i := 8) rfl, asE_pd rfl⟩
  · exact ⟨_, List.mem_of_getElem? (i := 9) rfl, asE_pd rfl⟩
  · exact ⟨_, List.mem_of_getElem? (i := 10) rfl, by simp only [asE, e]⟩
  · exact ⟨_, List.mem_of_getElem? (i := 11) rfl, asE_pd rfl⟩
  · exact ⟨_, List.mem_of_getElem? (i := 12) rfl, asE_pd rfl⟩
theorem asEs_rep {O : Ow} {d : D} {a : PyData} (h : asE O d = some a) : ∀ n : Nat, asEs O (List.replicate n d) = some (List.replicate n a)
  | 0 => rfl
  | n + 1 => by
    rw [List.replicate_succ, List.replicate_succ]
    simp only [asEs, h, asEs_rep h n]
theorem any_shP : ∀ a ∈ anyP, shP a 60 3 = true := by decide +kernel
theorem rep_sh {a : PyData} (h : a ∈ anyP) (n : Nat) (hn : n ≤ 30) : ShP (.list (List.replicate n a)) 2000 4 := by
  have := ShP.list (as := List.replicate n a) (m := 60) (k := 3) fun b hb => by rw [(List.mem_replicate.mp hb).2]; exact shP_ok (any_shP a h)
  refine this.mono ?_ (Nat.le_refl _)
  rw [List.length_replicate]
  omega
theorem asE_rep {O : Ow} {d : D} {a : PyData} (h : asE O d = some a) (n : Nat) : asE O (.lst (List.replicate n d)) = some (.list (List.replicate n a)) := by
  simp only [asE, asEs_rep h n, Option.map_some]
theorem spots : ∀ i, i < 19 → (List.range 19).map (fun j => decide (i = j)) = (zs 0 19).map fun (m : Int) => decide (m = ((i : Nat) : Int)) := by decide +kernel
theorem good_bls (bs : List Bool) : good (.lst (bs.map D.bl)) = true := good_lstI fun d hd => by
  obtain ⟨b, _, rfl⟩ := List.mem_map.mp hd
  exact ⟨good_bl b, by simp [py, PyData.depth]⟩
theorem base_words : ∀ i, i < 19 → (exFam[i]?).map (fun p => baseOf p.2) = words19[i]? := by decide +kernel
theorem words_good : ∀ s ∈ words19, strGood s = true := by decide +kernel
def f_law : DF := fun ds O q _ => ∃ ns : List Int, ds = [.lst (ns.map D.int)] ∧ ns.length ≤ 63 ∧ ∀ O', q (.bl true) O'
abbrev N_law : List Str := ["_law_script", "_law_k", "_law_bag_here", "_law_turn", "_law_one", "_law_other", "_law_at", "_law_e", "_law_base_here", "_law_spot"]
abbrev P_law : List Str := ["_law_script"]
theorem sc_law : FnScope N_law P_law (defScope s_law) := ⟨rfl, rfl, rfl, by decide +kernel, rfl, by decide +kernel, by decide +kernel⟩
abbrev Fn_law (P : Program) (w : World) (K : Frag) (mg : Str → Option Value) (base : Heap) : Prop := Fn P w K mg base "law" "law" s_law [] [] P_law 1 4 f_law (He.ga K "law")
structure C_law (P : Program) (w : World) (K : Frag) (mg : Str → Option Value) (base : Heap) : Prop where
  law_any : Fn_law_any P w K mg base
  law_bag : Fn_law_bag P w K mg base
  law_base : Fn_law_base P w K mg base
  law_family : Fn_law_family P w K mg base
  law_fields : Fn_law_fields P w K mg base
  law_made : Fn_law_made P w K mg base
  law_seconds : Fn_law_seconds P w K mg base
theorem ok_law {P : Program} {w : World} {K : Frag} {mg : Str → Option Value} {base : Heap} (F : HasD K "law" "law" s_law [] [] (He.ga K "law")) (T : Txt K mg) (C : C_law P w K mg base) : Fn_law P w K mg base := by
  have sc := sc_law
  refine fn_E (k := 3) F sc rfl fun cdv A outer s H E O0 H0 F0 ds O q xx hl hf S => ⟨_,
      (ds_cons (ds_for (ps_for S.po rfl (di_range1 rfl T.b_range (da_cons (so_max2 S rfl rfl T.b_max (da_cons de_int (da_cons (so_min2 S rfl rfl T.b_min (da_cons de_int (da_cons (so_len S rfl T.b_len (da_cons (de_var (pv 0)) da_nil)) da_nil))) da_nil))) da_nil)) (dg_name (pg_name (i := 1) sc.nd rfl (by first | exact Or.inl rfl | exact Or.inr rfl)))
       (ds_cons (ds_set (ps_set (i := 2) sc.nd rfl (by first | exact Or.inl rfl | exact Or.inr rfl) (so_callF S C.law_bag (by decide) T.g_law_bag bd_law_bag rfl (da_cons (de_var (pv 0)) (da_cons (de_var (pv 1)) da_nil)))))
       (ds_one (ds_for (ps_for S.po rfl (di_range1 rfl T.b_range (da_cons de_int da_nil)) (dg_name (pg_name (i := 3) sc.nd rfl (by first | exact Or.inl rfl | exact Or.inr rfl)))
        (ds_cons (ds_par (ps_par (i := 4) (j := 5) rfl sc.nd rfl rfl (by decide) rfl rfl (da_cons (so_callF S C.law_any (by decide) T.g_law_any bd_law_any rfl (da_cons (de_var (pv 2)) da_nil)) (da_cons (so_callF S C.law_any (by decide) T.g_law_any bd_law_any rfl (da_cons (de_var (pv 2)) da_nil)) da_nil)) (by rfl)))
        (ds_cons (ds_for (ps_for S.po rfl (di_enum S rfl T.b_enumerate (so_callF S C.law_made (by decide) T.g_law_made bd_law_made rfl (da_cons (de_var (pv 4)) (da_cons (de_var (pv 5)) da_nil)))) (dg_tup rfl rfl (dgs_cons (dg_name (pg_name (i := 6) sc.nd rfl (by first | exact Or.inl rfl | exact Or.inr rfl))) (dgs_cons (dg_tup rfl rfl (dgs_cons (dg_name (pg_name (i := 7) sc.nd rfl (by first | exact Or.inl rfl | exact Or.inr rfl))) (dgs_cons (dg_name (pg_name (i := 8) sc.nd rfl (by first | exact Or.inl rfl | exact Or.inr rfl))) dgs_nil))) dgs_nil)))
         (ds_one (ds_if (PW.pt (dw_or (st_ne S (so_callF S C.law_family (by decide) T.g_law_family bd_law_family rfl (da_cons (de_var (pv 7)) da_nil)) (de_lc (simG_name (vs := [9]) (i := 9) (by decide)) (pe_lc (own := [("_law_spot", 9)]) (g := (gName 9)) rfl sc.nd (di_range1 rfl T.b_range (da_cons de_int da_nil)) (blkOk_by (own := [("_law_spot", 9)]) (N := N_law) (sc := defScope s_law) (by decide +kernel)) (fun _ _ _ _ _ => (pg_name (i := 9) sc.nd rfl (by first | exact Or.inl rfl | exact Or.inr rfl))) (fun _ _ _ _ _ => dts_nil) (fun _ _ _ _ _ => (so_eq S.blk (de_var (pv 9)) (de_var (pv 6))))))) (dw_or1 (st_ne S (so_callF S C.law_base (by decide) T.g_law_base bd_law_base rfl (da_cons (de_var (pv 7)) da_nil)) (de_var (pv 8))))))
          (ds_one (ds_ret de_bl))
          ds_nil))))
        (ds_one (ds_if (PW.pt (dw_or (st_ne S (so_reprE S T.sm rfl T.b_repr (da_cons (so_callF S C.law_fields (by decide) T.g_law_fields bd_law_fields rfl (da_cons (de_var (pv 4)) (da_cons (de_var (pv 5)) da_nil))) da_nil)) (so_reprE S T.sm rfl T.b_repr (da_cons (so_rep S (de_lstO (da_cons (de_var (pv 4)) da_nil)) de_int) da_nil))) (dw_or1 (st_ne S (so_reprE S T.sm rfl T.b_repr (da_cons (so_callF S C.law_seconds (by decide) T.g_law_seconds bd_law_seconds rfl (da_cons (de_var (pv 4)) (da_cons (de_var (pv 5)) da_nil))) da_nil)) (so_reprE S T.sm rfl T.b_repr (da_cons (so_rep S (de_lstO (da_cons (de_var (pv 5)) da_nil)) de_int) da_nil))))))
         (ds_one (ds_ret de_bl))
         ds_nil))))))))))
      (ds_one (ds_ret de_bl)))
      , ?_⟩
  obtain ⟨ns, rfl, h0, hq⟩ := hf
  walk_at "dl"
  generalize hm : (if (if ((ns.map D.int).length : Int) < 3 then ((ns.map D.int).length : Int) else 3) > 1 then (if ((ns.map D.int).length : Int) < 3 then ((ns.map D.int).length : Int) else 3) else 1) = mm
  have hm3 : 0 ≤ mm ∧ mm ≤ 3 := by
    subst hm
    split <;> split <;> omega
  refine ⟨⟨by omega, by omega⟩, ?_⟩
  rw [rgD_zs]
  refine forGo_inv (fun i env O' => ∃ x1 x2 x3 x4 x5 x6 x7 x8 : Option D, env = [some (.lst (ns.map D.int)), x1, x2, x3, x4, x5, x6, x7, x8, none])
    ⟨_, _, _, _, _, _, _, _, rfl⟩ (fun _ _ _ _ _ => trivial) ?_ ?_
  · rintro N i y env O' hy ⟨x1, x2, x3, x4, x5, x6, x7, x8, rfl⟩ hN
    obtain ⟨b, hb, rfl⟩ := map_get hy
    obtain ⟨hb0, hb1⟩ := zs_mem (List.mem_of_getElem? hb)
    walk_at "dl"
    refine ⟨rfl, ns, b, rfl, hb0, by omega, fun p o hp hbag => ?_⟩
    generalize setO O' p o = O1 at hbag ⊢
    walk_at "dl"
    dsimp only [List.set]
    refine ⟨⟨by decide, by decide⟩, ?_⟩
    rw [rgD_zs]
    refine forGo_inv (fun j env O' => ∃ x3 x4 x5 x6 x7 x8 : Option D, env = [some (.lst (ns.map D.int)), some (.int b), some (.ref p), x3, x4, x5, x6, x7, x8, none] ∧ Bag O' p (1000 * j))
      ⟨_, _, _, _, _, _, rfl, by simpa using hbag⟩ (fun _ _ _ _ _ => trivial) ?_ ?_
    · rintro N2 j y2 env O2 hy2 ⟨z3, z4, z5, z6, z7, z8, rfl, hbj⟩ hN2
      obtain ⟨c, hc, rfl⟩ := map_get hy2
      have hj : j < 3 := by
        have := (List.getElem?_eq_some_iff.mp hc).1
        rw [zs_len] at this
        omega
      walk_at "dl"
      dsimp only [List.set]
      refine ⟨rfl, p, _, rfl, hbj, by omega, fun one p1 O3 X1 np1 hb2 e1 hone => ?_⟩
      walk_at "dl"
      refine ⟨rfl, p, _, rfl, hb2, by omega, fun other p2 O4 X2 np2 hb3 e2 hother => ?_⟩
      walk_at "dl"
      dsimp only [List.set]
      refine ⟨rfl, one, other, rfl, fun as O5 hal hs5 hH => ?_⟩
      walk_at "dl"
      have hal' : (as.zip words19).length = 19 := by rw [List.length_zip, hal]; rfl
      refine forGo_inv (fun i env O2 => ∃ z6 z7 z8 : Option D, env = [some (.lst (ns.map D.int)), some (.int b), some (.ref p), some (.int c), some one, some other, z6, z7, z8, none] ∧ SubO O5 O2)
        ⟨_, _, _, rfl, .refl _⟩ (fun _ _ _ _ _ => trivial) ?_ ?_
      · rintro N3 i3 y3 env O6 hy3 ⟨w6, w7, w8, rfl, hs6⟩ hN3
        rw [enumD_get, List.getElem?_map] at hy3
        cases ez : (as.zip words19)[i3]? with
        | none => rw [ez] at hy3; cases hy3
        | some az =>
        rw [ez] at hy3
        cases hy3
        obtain ⟨a3, s3⟩ := az
        have hi3 : i3 < 19 := by
          have := (List.getElem?_eq_some_iff.mp ez).1
          omega
        obtain ⟨ea, es⟩ := List.getElem?_zip_eq_some.mp ez
        obtain ⟨p3, hp3⟩ : ∃ p3, exFam[i3]? = some p3 := ⟨_, List.getElem?_eq_getElem (show i3 < exFam.length from hi3)⟩
        have hex : ExcAt O6 a3 (He.ga K p3.1) := (hH (a3, p3.1) (List.mem_of_getElem? (i := i3) (List.getElem?_zip_eq_some.mpr ⟨ea, by rw [List.getElem?_map, hp3]; rfl⟩))).sub hs6
        have hbw := base_words i3 hi3
        rw [hp3, es] at hbw
        have hbw : baseOf p3.2 = s3 := Option.some.inj hbw
        walk_at "dl"
        dsimp only [List.set]
        walk_at "dw"
        refine ⟨rfl, a3, i3, p3, rfl, hp3, hex, ?_⟩
        walk_at "dl"
        refine ⟨⟨by decide, by decide⟩, ?_, ?_⟩
        · rw [rgD_zs, List.length_map, zs_len]
          exact line_ok (by decide)
        rw [rgD_zs]
        refine lcGo_mpA D.int (fun (m : Int) => D.bl (decide (m = ((i3 : Nat) : Int)))) trivial (fun m hm k z hk => ?_) ?_
        · walk_at "dl"
          refine iteT ?_
          walk_at "dl"
          exact hk _ (.refl _)
        have eL : (List.range 19).map (fun j => D.bl (decide (i3 = j))) = ((zs 0 19).map fun (m : Int) => decide (m = ((i3 : Nat) : Int))).map D.bl := by
          rw [← spots i3 hi3, List.map_map]
          rfl
        have eR : (zs 0 19).map (fun (m : Int) => D.bl (decide (m = ((i3 : Nat) : Int)))) = ((zs 0 19).map fun (m : Int) => decide (m = ((i3 : Nat) : Int))).map D.bl := by
          rw [List.map_map]
          rfl
        rw [eL, eR]
        refine i_neT (good_bls _) (good_bls _) (eqv_refl (good_pd (good_bls _))) ?_
        refine iteF ?_
        walk_at "dw"
        refine ⟨rfl, a3, p3, rfl, List.mem_of_getElem? hp3, hex, fun O7 s7 => ?_⟩
        rw [hbw]
        walk_at "dl"
        refine i_neStr rfl (words_good s3 (List.mem_of_getElem? es)) ?_
        refine iteF ?_
        walk_at "dl"
        exact hN3 _ _ _ (.refl _) ⟨_, _, _, rfl, hs6.trans s7⟩
      · rintro env O6 ⟨w6, w7, w8, rfl, hs6⟩
        have hb5 : Bag O6 p (1000 * ((j + 1 : Nat) : Int)) := by
          obtain ⟨k1, k2, k3, k4, k5, k6, k7, k8⟩ := hb3
          exact ⟨k1, k2, k3, hs6 _ _ (hs5 _ _ k4), k5, k6, k7, by omega⟩
        obtain ⟨a1, ha1, ea1⟩ := any_asE hone (hs6 _ _ (hs5 _ _ (X2.at (hbj.off np1) e1)))
        obtain ⟨a2, ha2, ea2⟩ := any_asE hother (hs6 _ _ (hs5 _ _ e2))
        have S1 := rep_sh ha1 26 (by decide)
        have S2 := rep_sh ha2 6 (by decide)
        walk_at "dw"
        refine ⟨rfl, one, other, rfl, ?_⟩
        walk_at "dl"
        refine i_reprE (asE_rep ea1 26) (S1.shE (by decide) (by decide)) ?_
        walk_at "dl"
        intro r1 hr1
        walk_at "dl"
        refine i_rep setO_same (by decide) (Nat.le_of_ble_eq_true rfl) ?_
        rw [flat_one]
        walk_at "dl"
        refine i_reprE (asE_mono (.fresh hr1) (asE_rep ea1 26)) (S1.shE (by decide) (by decide)) ?_
        refine i_neStr rfl S1.good ?_
        refine iteF ?_
        walk_at "dw"
        refine ⟨rfl, one, other, rfl, ?_⟩
        walk_at "dl"
        refine i_reprE (asE_mono (.fresh hr1) (asE_rep ea2 6)) (S2.shE (by decide) (by decide)) ?_
        walk_at "dl"
        intro r2 hr2
        walk_at "dl"
        refine i_rep setO_same (by decide) (Nat.le_of_ble_eq_true rfl) ?_
        rw [flat_one]
        walk_at "dl"
        refine i_reprE (asE_mono (.fresh hr2) (asE_mono (.fresh hr1) (asE_rep ea2 6))) (S2.shE (by decide) (by decide)) ?_
        refine i_neStr rfl S2.good ?_
        refine iteF ?_
        walk_at "dl"
        exact hN2 _ _ _ ((SubO.fresh hr1).trans (.fresh hr2)) ⟨_, _, _, _, _, _, rfl, hb5⟩
    · rintro env O' ⟨z3, z4, z5, z6, z7, z8, rfl, hbj⟩
      exact hN _ _ _ (.refl _) ⟨_, _, _, _, _, _, _, _, rfl⟩
  · rintro env O' ⟨x1, x2, x3, x4, x5, x6, x7, x8, rfl⟩
    walk_at "dl"
    exact rt_same (hq _)
end
end K08
set_option Elab.async false
set_option linter.all false
set_option maxRecDepth 100000
set_option maxHeartbeats 4000000
namespace K08
open PySem PySem.Spec PyProof.Rows L2 DL
open ClX (CRead CVal)
theorem facts {P : Program} {w : World} {K : PySem.W.Frag} {h : Heap} {mg : Str → Option Value} {f : Addr} (X : K.In h) (G : h.Ns mainGlobals mg) (hfa : mg ("law" : Str) = some (.ref f)) (c : SaysX fas fns K) :
    ∃ fd : FuncData, (∀ (s : Shared) (v : Value), BindsTo s fd ⟨[v], []⟩ [("_law_script", v)]) ∧ ∀ base : Heap, K.In base → base.Ns mainGlobals mg → FnG P w K mg base (L2.CX P w) 4 f fd P_law (spD K 1 f_law) := by
  have F_BadEnd___init__ : HasD K "__init__" "BadEnd.__init__" s_BadEnd___init__ [] [] (He.ma K (He.ga K "BadEnd") "__init__") := c.def_ 0 (z := dd_BadEnd___init__) rfl
  have F_BadFault___init__ : HasD K "__init__" "BadFault.__init__" s_BadFault___init__ [] [] (He.ma K (He.ga K "BadFault") "__init__") := c.def_ 1 (z := dd_BadFault___init__) rfl
  have F_BadFrame___init__ : HasD K "__init__" "BadFrame.__init__" s_BadFrame___init__ [] [] (He.ma K (He.ga K "BadFrame") "__init__") := c.def_ 2 (z := dd_BadFrame___init__) rfl
  have F_BadText___init__ : HasD K "__init__" "BadText.__init__" s_BadText___init__ [] [] (He.ma K (He.ga K "BadText") "__init__") := c.def_ 3 (z := dd_BadText___init__) rfl
  have F_BadCommand___init__ : HasD K "__init__" "BadCommand.__init__" s_BadCommand___init__ [] [] (He.ma K (He.ga K "BadCommand") "__init__") := c.def_ 4 (z := dd_BadCommand___init__) rfl
  have F_NoPromise___init__ : HasD K "__init__" "NoPromise.__init__" s_NoPromise___init__ [] [] (He.ma K (He.ga K "NoPromise") "__init__") := c.def_ 5 (z := dd_NoPromise___init__) rfl
  have F_NoStation___init__ : HasD K "__init__" "NoStation.__init__" s_NoStation___init__ [] [] (He.ma K (He.ga K "NoStation") "__init__") := c.def_ 6 (z := dd_NoStation___init__) rfl
  have F_NoName___init__ : HasD K "__init__" "NoName.__init__" s_NoName___init__ [] [] (He.ma K (He.ga K "NoName") "__init__") := c.def_ 7 (z := dd_NoName___init__) rfl
  have F_NoOutcome___init__ : HasD K "__init__" "NoOutcome.__init__" s_NoOutcome___init__ [] [] (He.ma K (He.ga K "NoOutcome") "__init__") := c.def_ 8 (z := dd_NoOutcome___init__) rfl
  have F_BadDeed___init__ : HasD K "__init__" "BadDeed.__init__" s_BadDeed___init__ [] [] (He.ma K (He.ga K "BadDeed") "__init__") := c.def_ 9 (z := dd_BadDeed___init__) rfl
  have F_Endless___init__ : HasD K "__init__" "Endless.__init__" s_Endless___init__ [] [] (He.ma K (He.ga K "Endless") "__init__") := c.def_ 10 (z := dd_Endless___init__) rfl
  have F_TooMany___init__ : HasD K "__init__" "TooMany.__init__" s_TooMany___init__ [] [] (He.ma K (He.ga K "TooMany") "__init__") := c.def_ 11 (z := dd_TooMany___init__) rfl
  have F_Taken___init__ : HasD K "__init__" "Taken.__init__" s_Taken___init__ [] [] (He.ma K (He.ga K "Taken") "__init__") := c.def_ 12 (z := dd_Taken___init__) rfl
  have F_law_take : HasD K "_law_take" "_law_take" s_law_take [] [] (He.ga K "_law_take") := c.def_ 13 (z := dd_law_take) rfl
  have F_law_bag : HasD K "_law_bag" "_law_bag" s_law_bag [] [] (He.ga K "_law_bag") := c.def_ 14 (z := dd_law_bag) rfl
  have F_law_any : HasD K "_law_any" "_law_any" s_law_any [] [] (He.ga K "_law_any") := c.def_ 15 (z := dd_law_any) rfl
  have F_law_family : HasD K "_law_family" "_law_family" s_law_family [] [] (He.ga K "_law_family") := c.def_ 16 (z := dd_law_family) rfl
  have F_law_base : HasD K "_law_base" "_law_base" s_law_base [] [] (He.ga K "_law_base") := c.def_ 17 (z := dd_law_base) rfl
  have F_law_made : HasD K "_law_made" "_law_made" s_law_made [] [] (He.ga K "_law_made") := c.def_ 18 (z := dd_law_made) rfl
  have F_law_fields : HasD K "_law_fields" "_law_fields" s_law_fields [] [] (He.ga K "_law_fields") := c.def_ 19 (z := dd_law_fields) rfl
  have F_law_seconds : HasD K "_law_seconds" "_law_seconds" s_law_seconds [] [] (He.ga K "_law_seconds") := c.def_ 20 (z := dd_law_seconds) rfl
  have F_law : HasD K "law" "law" s_law [] [] (He.ga K "law") := c.def_ 21 (z := dd_law) rfl
  have e := hfa.symm.trans (He.glo_ok X G (x := "law") (c.fact 82 (f := gloB "law") rfl))
  cases e
  have T : Txt K mg := ⟨etabB_ok (c.fact 0 (f := etabB) rfl),
    (excBB_ok (c.fact 1 (f := excBB "BadCommand") rfl)).1,
    (excBB_ok (c.fact 1 (f := excBB "BadCommand") rfl)).2,
    (excBB_ok (c.fact 2 (f := excBB "BadDeed") rfl)).1,
    (excBB_ok (c.fact 2 (f := excBB "BadDeed") rfl)).2,
    (excBB_ok (c.fact 3 (f := excBB "BadEnd") rfl)).1,
    (excBB_ok (c.fact 3 (f := excBB "BadEnd") rfl)).2,
    (excBB_ok (c.fact 4 (f := excBB "BadFault") rfl)).1,
    (excBB_ok (c.fact 4 (f := excBB "BadFault") rfl)).2,
    (excBB_ok (c.fact 5 (f := excBB "BadFrame") rfl)).1,
    (excBB_ok (c.fact 5 (f := excBB "BadFrame") rfl)).2,
    (excBB_ok (c.fact 6 (f := excBB "BadText") rfl)).1,
    (excBB_ok (c.fact 6 (f := excBB "BadText") rfl)).2,
    (excBB_ok (c.fact 7 (f := excBB "Endless") rfl)).1,
    (excBB_ok (c.fact 7 (f := excBB "Endless") rfl)).2,
    (excBB_ok (c.fact 8 (f := excBB "NoName") rfl)).1,
    (excBB_ok (c.fact 8 (f := excBB "NoName") rfl)).2,
    (excBB_ok (c.fact 9 (f := excBB "NoOutcome") rfl)).1,
    (excBB_ok (c.fact 9 (f := excBB "NoOutcome") rfl)).2,
    (excBB_ok (c.fact 10 (f := excBB "NoPromise") rfl)).1,
    (excBB_ok (c.fact 10 (f := excBB "NoPromise") rfl)).2,
    (excBB_ok (c.fact 11 (f := excBB "NoStation") rfl)).1,
    (excBB_ok (c.fact 11 (f := excBB "NoStation") rfl)).2,
    (excBB_ok (c.fact 12 (f := excBB "Taken") rfl)).1,
    (excBB_ok (c.fact 12 (f := excBB "Taken") rfl)).2,
    (excBB_ok (c.fact 13 (f := excBB "TooMany") rfl)).1,
    (excBB_ok (c.fact 13 (f := excBB "TooMany") rfl)).2,
    ex0B_ok (c.fact 14 (f := ex0B "NoHearer") rfl),
    ex0B_ok (c.fact 15 (f := ex0B "NoLine") rfl),
    ex0B_ok (c.fact 16 (f := ex0B "NothingToUndo") rfl),
    ex0B_ok (c.fact 17 (f := ex0B "NothingWaits") rfl),
    ex0B_ok (c.fact 18 (f := ex0B "Unbounded") rfl),
    ex0B_ok (c.fact 19 (f := ex0B "Unsound") rfl),
    He.free_ok X G (x := "ArithmeticError") (c.fact 20 (f := freeB "ArithmeticError") rfl),
    He.free_ok X G (x := "IndexError") (c.fact 21 (f := freeB "IndexError") rfl),
    He.free_ok X G (x := "KeyError") (c.fact 22 (f := freeB "KeyError") rfl),
    He.free_ok X G (x := "LookupError") (c.fact 23 (f := freeB "LookupError") rfl),
    He.free_ok X G (x := "OverflowError") (c.fact 24 (f := freeB "OverflowError") rfl),
    He.free_ok X G (x := "RuntimeError") (c.fact 25 (f := freeB "RuntimeError") rfl),
    He.free_ok X G (x := "TypeError") (c.fact 26 (f := freeB "TypeError") rfl),
    He.free_ok X G (x := "ValueError") (c.fact 27 (f := freeB "ValueError") rfl),
    He.free_ok X G (x := "ZeroDivisionError") (c.fact 28 (f := freeB "ZeroDivisionError") rfl),
    He.free_ok X G (x := "abs") (c.fact 29 (f := freeB "abs") rfl),
    He.free_ok X G (x := "enumerate") (c.fact 30 (f := freeB "enumerate") rfl),
    He.free_ok X G (x := "int") (c.fact 31 (f := freeB "int") rfl),
    He.free_ok X G (x := "isinstance") (c.fact 32 (f := freeB "isinstance") rfl),
    He.free_ok X G (x := "len") (c.fact 33 (f := freeB "len") rfl),
    He.free_ok X G (x := "max") (c.fact 34 (f := freeB "max") rfl),
    He.free_ok X G (x := "min") (c.fact 35 (f := freeB "min") rfl),
    He.free_ok X G (x := "range") (c.fact 36 (f := freeB "range") rfl),
    He.free_ok X G (x := "repr") (c.fact 37 (f := freeB "repr") rfl),
    He.glo_ok X G (x := "BadCommand") (c.fact 38 (f := gloB "BadCommand") rfl),
    He.glo_ok X G (x := "BadDeed") (c.fact 39 (f := gloB "BadDeed") rfl),
    He.glo_ok X G (x := "BadEnd") (c.fact 40 (f := gloB "BadEnd") rfl),
    He.glo_ok X G (x := "BadFault") (c.fact 41 (f := gloB "BadFault") rfl),
    He.glo_ok X G (x := "BadFrame") (c.fact 42 (f := gloB "BadFrame") rfl),
    He.glo_ok X G (x := "BadText") (c.fact 43 (f := gloB "BadText") rfl),
    He.glo_ok X G (x := "Endless") (c.fact 44 (f := gloB "Endless") rfl),
    He.glo_ok X G (x := "NoHearer") (c.fact 45 (f := gloB "NoHearer") rfl),
    He.glo_ok X G (x := "NoLine") (c.fact 46 (f := gloB "NoLine") rfl),
    He.glo_ok X G (x := "NoName") (c.fact 47 (f := gloB "NoName") rfl),
    He.glo_ok X G (x := "NoOutcome") (c.fact 48 (f := gloB "NoOutcome") rfl),
    He.glo_ok X G (x := "NoPromise") (c.fact 49 (f := gloB "NoPromise") rfl),
    He.glo_ok X G (x := "NoStation") (c.fact 50 (f := gloB "NoStation") rfl),
    He.glo_ok X G (x := "NothingToUndo") (c.fact 51 (f := gloB "NothingToUndo") rfl),
    He.glo_ok X G (x := "NothingWaits") (c.fact 52 (f := gloB "NothingWaits") rfl),
    He.glo_ok X G (x := "Taken") (c.fact 53 (f := gloB "Taken") rfl),
    He.glo_ok X G (x := "TooMany") (c.fact 54 (f := gloB "TooMany") rfl),
    He.glo_ok X G (x := "Unbounded") (c.fact 55 (f := gloB "Unbounded") rfl),
    He.glo_ok X G (x := "Unsound") (c.fact 56 (f := gloB "Unsound") rfl),
    He.glo_ok X G (x := "_law_any") (c.fact 57 (f := gloB "_law_any") rfl),
    He.glo_ok X G (x := "_law_bag") (c.fact 58 (f := gloB "_law_bag") rfl),
    He.glo_ok X G (x := "_law_base") (c.fact 59 (f := gloB "_law_base") rfl),
    He.glo_ok X G (x := "_law_family") (c.fact 60 (f := gloB "_law_family") rfl),
    He.glo_ok X G (x := "_law_fields") (c.fact 61 (f := gloB "_law_fields") rfl),
    He.glo_ok X G (x := "_law_made") (c.fact 62 (f := gloB "_law_made") rfl),
    He.glo_ok X G (x := "_law_seconds") (c.fact 63 (f := gloB "_law_seconds") rfl),
    He.glo_ok X G (x := "_law_take") (c.fact 64 (f := gloB "_law_take") rfl),
    He.noat_ok (x := "BadCommand") (f := "command") (c.fact 65 (f := noatB "BadCommand" "command") rfl),
    He.noat_ok (x := "BadDeed") (f := "index") (c.fact 66 (f := noatB "BadDeed" "index") rfl),
    He.noat_ok (x := "BadEnd") (f := "part") (c.fact 67 (f := noatB "BadEnd" "part") rfl),
    He.noat_ok (x := "BadEnd") (f := "row") (c.fact 68 (f := noatB "BadEnd" "row") rfl),
    He.noat_ok (x := "BadFault") (f := "bit") (c.fact 69 (f := noatB "BadFault" "bit") rfl),
    He.noat_ok (x := "BadFault") (f := "station") (c.fact 70 (f := noatB "BadFault" "station") rfl),
    He.noat_ok (x := "BadFrame") (f := "frame") (c.fact 71 (f := noatB "BadFrame" "frame") rfl),
    He.noat_ok (x := "BadText") (f := "text") (c.fact 72 (f := noatB "BadText" "text") rfl),
    He.noat_ok (x := "Endless") (f := "bit") (c.fact 73 (f := noatB "Endless" "bit") rfl),
    He.noat_ok (x := "Endless") (f := "ring") (c.fact 74 (f := noatB "Endless" "ring") rfl),
    He.noat_ok (x := "NoName") (f := "name") (c.fact 75 (f := noatB "NoName" "name") rfl),
    He.noat_ok (x := "NoOutcome") (f := "outcome") (c.fact 76 (f := noatB "NoOutcome" "outcome") rfl),
    He.noat_ok (x := "NoPromise") (f := "promise") (c.fact 77 (f := noatB "NoPromise" "promise") rfl),
    He.noat_ok (x := "NoStation") (f := "station") (c.fact 78 (f := noatB "NoStation" "station") rfl),
    He.noat_ok (x := "Taken") (f := "frame") (c.fact 79 (f := noatB "Taken" "frame") rfl),
    He.noat_ok (x := "TooMany") (f := "limit") (c.fact 80 (f := noatB "TooMany" "limit") rfl),
    smB_ok (c.fact 81 (f := smB) rfl)⟩
  obtain ⟨fdl, Fl⟩ := F_law
  have b := FunD.bindsA (ps := P_law) Fl fun _ _ _ _ _ _ us hl => match us, hl with | [_], _ => rfl
  refine ⟨fdl, fun s v => b s [v] rfl, fun base _ _ => ?_⟩
  have c_BadEnd___init__ : Fn_BadEnd___init__ P w K mg base := ok_BadEnd___init__ F_BadEnd___init__ T
  have c_BadFault___init__ : Fn_BadFault___init__ P w K mg base := ok_BadFault___init__ F_BadFault___init__ T
  have c_BadFrame___init__ : Fn_BadFrame___init__ P w K mg base := ok_BadFrame___init__ F_BadFrame___init__ T
  have c_BadText___init__ : Fn_BadText___init__ P w K mg base := ok_BadText___init__ F_BadText___init__ T
  have c_BadCommand___init__ : Fn_BadCommand___init__ P w K mg base := ok_BadCommand___init__ F_BadCommand___init__ T
  have c_NoPromise___init__ : Fn_NoPromise___init__ P w K mg base := ok_NoPromise___init__ F_NoPromise___init__ T
  have c_NoStation___init__ : Fn_NoStation___init__ P w K mg base := ok_NoStation___init__ F_NoStation___init__ T
  have c_NoName___init__ : Fn_NoName___init__ P w K mg base := ok_NoName___init__ F_NoName___init__ T
  have c_NoOutcome___init__ : Fn_NoOutcome___init__ P w K mg base := ok_NoOutcome___init__ F_NoOutcome___init__ T
  have c_BadDeed___init__ : Fn_BadDeed___init__ P w K mg base := ok_BadDeed___init__ F_BadDeed___init__ T
  have c_Endless___init__ : Fn_Endless___init__ P w K mg base := ok_Endless___init__ F_Endless___init__ T
  have c_TooMany___init__ : Fn_TooMany___init__ P w K mg base := ok_TooMany___init__ F_TooMany___init__ T
  have c_Taken___init__ : Fn_Taken___init__ P w K mg base := ok_Taken___init__ F_Taken___init__ T
  have c_law_take : Fn_law_take P w K mg base := ok_law_take F_law_take T
  have c_law_bag : Fn_law_bag P w K mg base := ok_law_bag F_law_bag T
  have c_law_any : Fn_law_any P w K mg base := ok_law_any F_law_any T ⟨c_law_take⟩
  have c_law_family : Fn_law_family P w K mg base := ok_law_family F_law_family T
  have c_law_base : Fn_law_base P w K mg base := ok_law_base F_law_base T
  have c_law_made : Fn_law_made P w K mg base := ok_law_made F_law_made T ⟨c_BadCommand___init__, c_BadDeed___init__, c_BadEnd___init__, c_BadFault___init__, c_BadFrame___init__, c_BadText___init__, c_Endless___init__, c_NoName___init__, c_NoOutcome___init__, c_NoPromise___init__, c_NoStation___init__, c_Taken___init__, c_TooMany___init__⟩
  have c_law_fields : Fn_law_fields P w K mg base := ok_law_fields F_law_fields T ⟨c_BadCommand___init__, c_BadDeed___init__, c_BadEnd___init__, c_BadFault___init__, c_BadFrame___init__, c_BadText___init__, c_Endless___init__, c_NoName___init__, c_NoOutcome___init__, c_NoPromise___init__, c_NoStation___init__, c_Taken___init__, c_TooMany___init__⟩
  have c_law_seconds : Fn_law_seconds P w K mg base := ok_law_seconds F_law_seconds T ⟨c_BadEnd___init__, c_BadFault___init__, c_Endless___init__⟩
  have c_law : Fn_law P w K mg base := ok_law ⟨fdl, Fl⟩ T ⟨c_law_any, c_law_bag, c_law_base, c_law_family, c_law_fields, c_law_made, c_law_seconds⟩
  obtain ⟨fd2, G2, F2⟩ := c_law.ex
  obtain rfl : fd2 = fdl := by
    obtain ⟨_, _, _, _, _, _, _, _, _, _, _, k1, _⟩ := F2.ex
    obtain ⟨_, _, _, _, _, _, _, _, _, _, _, k2, _⟩ := Fl.ex
    rw [k1] at k2
    cases k2
    rfl
  exact G2
end K08
open PySem PySem.W PySem.Calls PyProof.Rows in
set_option maxRecDepth 100000 in
set_option maxHeartbeats 0 in
theorem PySem.Challenge.cw_strongbit_k08_errors_made_holds : PySem.Challenge.rw_strongbit_k08_errors_made.Holds := by
  refine K08.lawH ?hw ?hc
  case hw => w_witness2
  case hc =>
    refine DL.walk_GE (l := PySem.Challenge.rw_strongbit_k08_errors_made) (n := 63) (k := 4) (x := "_law_script") (fn := K08.f_law) rfl (by decide) (by kernel_rfl) ⟨rfl, by decide, by decide⟩ ?F (fun ns hl _ => ⟨ns, rfl, hl, fun _ => rfl⟩)
    intro w mg fa h Y G hmg0
    obtain ⟨K, KX, c⟩ := Y
    have hmg : mg ("law" : PySem.Str) = some (.ref fa) := by
      have e : (HandSHeadRun.topDef K08.R.prog 29).name = ("law" : PySem.Str) := by kernel_rfl
      rw [← e]
      exact hmg0
    obtain ⟨fd, hb, hF⟩ := K08.facts (P := (PySem.Challenge.rw_strongbit_k08_errors_made).prog) (w := w) KX G hmg c
    exact ⟨K, fd, KX, hb, hF⟩
