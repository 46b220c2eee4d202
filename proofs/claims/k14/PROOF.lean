import PyProof.Rows.All
import Wide.All
import OpenK.AllK
import Wide.FinOn
import HandS.ForMost
import HandS.Flow
import HandS.Conv
import HandS.TupAny
import HandS.TupMul
import HandS.Style
import HandS.Zip
import KE.KeyNested
import KE.KDictKeyed
import HandS.Star
import HandS.NoneIn
import HandS.Property
import HandS.Wide
import HandS.Deep
import PyProof.Rows.RuleB_pow
import HandS.Dict
import HandS.ReCall
import HandS.TupLen
import HandS.IsInst
import KE.KDictDisplayH
import KE.GoesNew
import KE.GoesDict
import KE.GoesNewDict
import HandS.Iter
import HandS.TupSets
import KE.SortData
import PyProof.TupleOfStr
import HandS.ExcValue
import OpenK.KMeth
import HandS.Ends
import HandS.HeadEnd
import HandS.HeadNt
import HandS.Head2
import HandS.HeadHook4
import PyProof.ListStr
import KE.IntBitsLaws
import PyProof.StrLawsIn
import PyProof.StrLawsChain
import HandS.Head0
import HandS.Head1
import KE.KStateDown
import PySem.Challenge.RW_lostmetres_k14_standings_by_hand
set_option Elab.async false
set_option linter.all false
set_option maxRecDepth 100000
set_option maxHeartbeats 0
/-! D1: values as trees, the store, how both lie in the layer's heap -/
namespace DL
open PySem PySem.Spec PyProof.Rows L2

/-- a value: tuples are trees, what may change is told by its number -/
inductive PV where
  | non | bl (b : Bool) | int (i : Int) | str (x : Str) | tup (xs : List PV) | ref (i : Nat) | ty (n : String) | glb (a : Addr)
  deriving Inhabited
/-- what may change -/
inductive MObj where
  | lst (xs : List PV)
  | rol (xs : List PV)
  | dct (kvs : List (PV × PV))
  | ins (C : Addr) (fs : List (Str × PV))
  deriving Inhabited
abbrev Sto := List MObj
abbrev Env' := List (Option PV)
/-- how a reckoning ends -/
inductive Rz (α : Type) where
  | ok (a : α) (μ : Sto)
  | err (C : Addr) (v : PV) (μ : Sto)
  | bad
namespace Rz
def bind {α β : Type} (r : Rz α) (f : α → Sto → Rz β) : Rz β := match r with
  | .ok a μ => f a μ
  | .err C v μ => .err C v μ
  | .bad => .bad
@[simp] theorem bind_ok {α β : Type} (a : α) (μ : Sto) (f : α → Sto → Rz β) : (Rz.ok a μ).bind f = f a μ := rfl
@[simp] theorem bind_err {α β : Type} (C : Addr) (v : PV) (μ : Sto) (f : α → Sto → Rz β) : (Rz.err C v μ).bind f = Rz.err C v μ := rfl
@[simp] theorem bind_bad {α β : Type} (f : α → Sto → Rz β) : (Rz.bad : Rz α).bind f = Rz.bad := rfl
end Rz

section
variable (K : PySem.W.Frag) (ρ : List Addr) (H : Hp)
mutual
/-- a value of trees lies in the heap as the layer's value -/
inductive RV : PV → V → Prop
  | non : RV .non .non
  | bl (b : Bool) : RV (.bl b) (.bl b)
  | int (i : Int) : RV (.int i) (.int i)
  | str (x : Str) : RV (.str x) (.str x)
  | ty (n : String) : RV (.ty n) (.ty n)
  | glb (a : Addr) : RV (.glb a) (.ref a)
  | ref {i : Nat} {a : Addr} : ρ[i]? = some a → RV (.ref i) (.ref a)
  | tup {ps : List PV} {vs : List V} {a : Addr} : SqT K H a vs → RVs ps vs → RV (.tup ps) (.ref a)
inductive RVs : List PV → List V → Prop
  | nil : RVs [] []
  | cons {p : PV} {v : V} {ps : List PV} {vs : List V} : RV p v → RVs ps vs → RVs (p :: ps) (v :: vs)
end
end

/-- a dict by its very object -/
abbrev dO (a : Addr) (o : Obj) : HO := .ext fun h => h.get? a = some o
/-- dicts grow, and where they do not, their keys stay -/
def DKeep (H H' : Hp) : Prop := ∀ b o es ep, H b = some (dO b o) → o.data = .dict es ep → ∃ o' es' ep', H' b = some (dO b o') ∧ o'.data = .dict es' ep' ∧ es.size ≤ es'.size ∧ (es'.size = es.size → ep' = ep)
/-- what is written at a is no dict, or the dict grown -/
def DW (H : Hp) (a : Addr) (u : HO) : Prop := ∀ o es ep, H a = some (dO a o) → o.data = .dict es ep → ∃ o' es' ep', u = dO a o' ∧ o'.data = .dict es' ep' ∧ es.size ≤ es'.size ∧ (es'.size = es.size → ep' = ep)
theorem DKeep.refl {H : Hp} : DKeep H H := fun b o es ep h e => ⟨o, es, ep, h, e, Nat.le_refl _, fun _ => rfl⟩
theorem DKeep.trans {H H1 H2 : Hp} (a : DKeep H H1) (b : DKeep H1 H2) : DKeep H H2 := fun x o es ep h e => by
  obtain ⟨o1, es1, ep1, h1, e1, l1, k1⟩ := a x o es ep h e
  obtain ⟨o2, es2, ep2, h2, e2, l2, k2⟩ := b x o1 es1 ep1 h1 e1
  refine ⟨o2, es2, ep2, h2, e2, Nat.le_trans l1 l2, fun z => ?_⟩
  rw [k2 (by omega), k1 (by omega)]
theorem DKeep.upd {H : Hp} {p : Addr} {u : HO} (hd : DW H p u) : DKeep H (upd H p u) := fun b o es ep h e => by
  by_cases c : b = p
  · subst c
    obtain ⟨o', es', ep', h1, h2⟩ := hd o es ep h e
    exact ⟨o', es', ep', by rw [upd_same, h1], h2⟩
  · exact ⟨o, es, ep, by rw [upd_ne c]; exact h, e, Nat.le_refl _, fun _ => rfl⟩
theorem DW.none {H : Hp} {a : Addr} {u : HO} (h : H a = none) : DW H a u := fun o es ep e => by rw [h] at e; cases e
theorem DW.lst {H : Hp} {a : Addr} {u : HO} {vs : List V} (h : H a = some (.lst vs)) : DW H a u := fun o es ep e => by rw [h] at e; cases e
theorem DW.ins {H : Hp} {a C dx : Addr} {u : HO} {gs : List (Str × V)} (h : H a = some (.ins C dx gs)) : DW H a u := fun o es ep e => by rw [h] at e; cases e
/-- from one state to a later one -/
structure Step (K : PySem.W.Frag) (ρ : List Addr) (H : Hp) (ρ' : List Addr) (H' : Hp) : Prop where
  ext : ∃ more, ρ' = ρ ++ more ∧ ∀ p ∈ more, H p = none
  keep : ∀ b o, H b = some o → b ∉ ρ → H' b = some o
  tup : ∀ b xs, SqT K H b xs → SqT K H' b xs
  live : ∀ b, H b ≠ none → H' b ≠ none
  dct : DKeep H H'
theorem Step.refl {K : PySem.W.Frag} {ρ : List Addr} {H : Hp} : Step K ρ H ρ H :=
  ⟨⟨[], (List.append_nil ρ).symm, fun _ h => by cases h⟩, fun _ _ h _ => h, fun _ _ h => h, fun _ h => h, DKeep.refl⟩
theorem Step.trans {K : PySem.W.Frag} {ρ ρ1 ρ2 : List Addr} {H H1 H2 : Hp} (a : Step K ρ H ρ1 H1) (b : Step K ρ1 H1 ρ2 H2) : Step K ρ H ρ2 H2 := by
  obtain ⟨m1, e1, f1⟩ := a.ext
  obtain ⟨m2, e2, f2⟩ := b.ext
  refine ⟨⟨m1 ++ m2, by rw [e2, e1, List.append_assoc], fun p hp => ?_⟩, fun c o h hn => ?_, fun c xs h => b.tup c xs (a.tup c xs h), fun c h => b.live c (a.live c h), a.dct.trans b.dct⟩
  · rcases List.mem_append.mp hp with hp | hp
    · exact f1 p hp
    · cases q : H p with
      | none => rfl
      | some o => exact absurd (f2 p hp) (a.live p (by rw [q]; exact fun z => by cases z))
  · refine b.keep c o (a.keep c o h hn) fun hc => ?_
    rw [e1] at hc
    rcases List.mem_append.mp hc with hc | hc
    · exact hn hc
    · rw [f1 c hc] at h; cases h
theorem Step.get {K : PySem.W.Frag} {ρ ρ' : List Addr} {H H' : Hp} (a : Step K ρ H ρ' H') {i : Nat} {x : Addr} (h : ρ[i]? = some x) : ρ'[i]? = some x := by
  obtain ⟨m, e, _⟩ := a.ext
  rw [e, List.getElem?_append_left (List.getElem?_eq_some_iff.mp h).1]
  exact h

section
variable {K : PySem.W.Frag} {ρ ρ' : List Addr} {H H' : Hp}
/-- what values lean on -/
structure Grow (K : PySem.W.Frag) (ρ : List Addr) (H : Hp) (ρ' : List Addr) (H' : Hp) : Prop where
  get : ∀ (i : Nat) (x : Addr), ρ[i]? = some x → ρ'[i]? = some x
  tup : ∀ b xs, SqT K H b xs → SqT K H' b xs
  dct : DKeep H H'
theorem Step.grow (st : Step K ρ H ρ' H') : Grow K ρ H ρ' H' := ⟨fun i x h => st.get h, st.tup, st.dct⟩
mutual
theorem RV.grow (st : Grow K ρ H ρ' H') : ∀ {p : PV} {v : V}, RV K ρ H p v → RV K ρ' H' p v
  | _, _, .non => .non
  | _, _, .bl b => .bl b
  | _, _, .int i => .int i
  | _, _, .str x => .str x
  | _, _, .ty n => .ty n
  | _, _, .glb a => .glb a
  | _, _, .ref h => .ref (st.get _ _ h)
  | _, _, .tup h r => .tup (st.tup _ _ h) (RVs.grow st r)
theorem RVs.grow (st : Grow K ρ H ρ' H') : ∀ {ps : List PV} {vs : List V}, RVs K ρ H ps vs → RVs K ρ' H' ps vs
  | _, _, .nil => .nil
  | _, _, .cons r t => .cons (RV.grow st r) (RVs.grow st t)
end
theorem RV.step (st : Step K ρ H ρ' H') {p : PV} {v : V} (h : RV K ρ H p v) : RV K ρ' H' p v := h.grow st.grow
theorem RVs.step (st : Step K ρ H ρ' H') {p : List PV} {v : List V} (h : RVs K ρ H p v) : RVs K ρ' H' p v := h.grow st.grow
theorem RVs.length : ∀ {ps : List PV} {vs : List V}, RVs K ρ H ps vs → ps.length = vs.length
  | _, _, .nil => rfl
  | _, _, .cons _ t => by rw [List.length_cons, List.length_cons, RVs.length t]
theorem RVs.get : ∀ {ps : List PV} {vs : List V} {i : Nat} {p : PV}, RVs K ρ H ps vs → ps[i]? = some p → ∃ v, vs[i]? = some v ∧ RV K ρ H p v
  | _, _, i, p, .nil, e => by simp at e
  | _, _, 0, p, .cons r _, e => by simp at e; subst e; exact ⟨_, rfl, r⟩
  | _, _, i + 1, p, .cons _ t, e => by
    obtain ⟨v, h1, h2⟩ := RVs.get (i := i) (p := p) t (by simpa using e)
    exact ⟨v, by simpa using h1, h2⟩
theorem RVs.append : ∀ {ps qs : List PV} {vs ws : List V}, RVs K ρ H ps vs → RVs K ρ H qs ws → RVs K ρ H (ps ++ qs) (vs ++ ws)
  | _, _, _, _, .nil, s => s
  | _, _, _, _, .cons r t, s => .cons r (RVs.append t s)
theorem RVs.take : ∀ {ps : List PV} {vs : List V} (n : Nat), RVs K ρ H ps vs → RVs K ρ H (ps.take n) (vs.take n)
  | _, _, 0, _ => .nil
  | _, _, _ + 1, .nil => .nil
  | _, _, n + 1, .cons r t => .cons r (RVs.take n t)
theorem RVs.drop : ∀ {ps : List PV} {vs : List V} (n : Nat), RVs K ρ H ps vs → RVs K ρ H (ps.drop n) (vs.drop n)
  | _, _, 0, r => r
  | _, _, _ + 1, .nil => .nil
  | _, _, n + 1, .cons _ t => RVs.drop n t
theorem RVs.set {p : PV} {v : V} (r : RV K ρ H p v) : ∀ {ps : List PV} {vs : List V} (i : Nat), RVs K ρ H ps vs → RVs K ρ H (ps.set i p) (vs.set i v)
  | _, _, _, .nil => .nil
  | _, _, 0, .cons _ t => .cons r t
  | _, _, i + 1, .cons q t => .cons q (RVs.set r i t)
theorem RVs.eraseIdx : ∀ {ps : List PV} {vs : List V} (i : Nat), RVs K ρ H ps vs → RVs K ρ H (ps.eraseIdx i) (vs.eraseIdx i)
  | _, _, _, .nil => .nil
  | _, _, 0, .cons _ t => t
  | _, _, i + 1, .cons q t => .cons q (RVs.eraseIdx i t)
theorem RVs.reverse : ∀ {ps : List PV} {vs : List V}, RVs K ρ H ps vs → RVs K ρ H ps.reverse vs.reverse
  | _, _, .nil => .nil
  | _, _, .cons r t => by
    rw [List.reverse_cons, List.reverse_cons]
    exact RVs.append (RVs.reverse t) (.cons r .nil)
theorem RVs.replicate {ps : List PV} {vs : List V} (r : RVs K ρ H ps vs) : ∀ n : Nat, RVs K ρ H (List.replicate n ps).flatten (List.replicate n vs).flatten
  | 0 => .nil
  | n + 1 => by
    rw [List.replicate_succ, List.replicate_succ, List.flatten_cons, List.flatten_cons]
    exact RVs.append r (RVs.replicate r n)
theorem RVs.dropLast : ∀ {ps : List PV} {vs : List V}, RVs K ρ H ps vs → RVs K ρ H ps.dropLast vs.dropLast
  | _, _, .nil => .nil
  | _, _, .cons r .nil => .nil
  | _, _, .cons r (.cons q t) => by
    rw [List.dropLast_cons₂, List.dropLast_cons₂]
    exact .cons r (RVs.dropLast (.cons q t))
end


/-- a key that is carried by value; a key of trees -/
def pvK : Key → PV
  | .inl i => .int i
  | .inr x => .str x
mutual
def pvN : NestedKey → PV
  | .none => .non
  | .num i => .int i
  | .text x => .str x
  | .tup ks => .tup (pvNs ks)
def pvNs : List NestedKey → List PV
  | [] => []
  | k :: ks => pvN k :: pvNs ks
end
section
variable (P : Program) (w : World) (K : PySem.W.Frag) (ρ : List Addr) (H : Hp)
/-- a value of a dict -/
def RVal (p : PV) (u : Value) : Prop := ∃ v, RelV v u ∧ RV K ρ H p v
/-- the object o is the dict of these pairs: keys by value, or keys that are tuples -/
def DObj (o : Obj) (kvs : List (PV × PV)) : Prop :=
  o.ExactDict ∧ kvs.length ≤ sizeLine ∧ ∃ es ep, o.data = .dict es ep ∧
    ((∃ vs : List (Key × Value), KeysOf (mixKind P w) es ∧ Pairs (mixKind P w) es.toList vs ∧ (vs.map (·.1)).Nodup ∧
        Paired (fun (p : PV × PV) (q : Key × Value) => p.1 = pvK q.1 ∧ RVal K ρ H p.2 q.2) kvs vs) ∨
     (∃ xs : List (NestedKey × Addr × Value), es.toList = xs.map (entryOfKey (nestedKind P w)) ∧ (xs.map (·.1)).Nodup ∧
        Paired (fun (p : PV × PV) (q : NestedKey × Addr × Value) => p.1 = pvN q.1 ∧ q.1.depth ≤ 8 ∧ RV K ρ H p.1 (.ref q.2.1) ∧ RVal K ρ H p.2 q.2.2) kvs xs))
/-- the abstract object lies at a -/
def ObjR (a : Addr) : MObj → Prop
  | .lst ps => ∃ vs, H a = some (.lst vs) ∧ RVs K ρ H ps vs
  | .rol ps => ∃ o vs, H a = some (.frz o (.lst vs)) ∧ RVs K ρ H ps vs
  | .dct kvs => ∃ o, H a = some (.ext fun h => h.get? a = some o) ∧ (a == sysModules) = false ∧ DObj P w K ρ H o kvs
  | .ins C fs => ∃ dx gs, H a = some (.ins C dx gs) ∧ gs.map (·.1) = fs.map (·.1) ∧ RVs K ρ H (fs.map (·.2)) (gs.map (·.2))
/-- the store lies in the heap -/
structure RSt (μ : Sto) : Prop where
  len : μ.length = ρ.length
  nd : ρ.Nodup
  obj : ∀ (i : Nat) (a : Addr) (o : MObj), ρ[i]? = some a → μ[i]? = some o → ObjR P w K ρ H a o
/-- the frame's slots hold these -/
def REnv (η : Env') (σ : L2.St) : Prop := η.length = σ.length ∧ ∀ (i : Nat) (p : PV), η[i]? = some (some p) → ∃ v, σ[i]? = some (some v) ∧ RV K ρ H p v
end

section
variable {P : Program} {w : World} {K : PySem.W.Frag} {ρ ρ' : List Addr} {H H' : Hp}
theorem RVal.step (st : Grow K ρ H ρ' H') {p : PV} {u : Value} (h : RVal K ρ H p u) : RVal K ρ' H' p u :=
  let ⟨v, r, q⟩ := h
  ⟨v, r, q.grow st⟩
theorem DObj.step (st : Grow K ρ H ρ' H') {o : Obj} {kvs : List (PV × PV)} (h : DObj P w K ρ H o kvs) : DObj P w K ρ' H' o kvs := by
  obtain ⟨x, z, es, ep, e, h⟩ := h
  refine ⟨x, z, es, ep, e, ?_⟩
  rcases h with ⟨vs, a, b, c, d⟩ | ⟨xs, a, b, d⟩
  · exact .inl ⟨vs, a, b, c, Paired.mapP d fun p q h => ⟨h.1, h.2.step st⟩⟩
  · exact .inr ⟨xs, a, b, Paired.mapP d fun p q h => ⟨h.1, h.2.1, h.2.2.1.grow st, h.2.2.2.step st⟩⟩
theorem ObjR.step (st : Grow K ρ H ρ' H') {a : Addr} {o : MObj} (e : ∀ u, H a = some u → H' a = some u) (h : ObjR P w K ρ H a o) : ObjR P w K ρ' H' a o := by
  cases o with
  | lst ps =>
    obtain ⟨vs, h1, h2⟩ := h
    exact ⟨vs, e _ h1, h2.grow st⟩
  | rol ps =>
    obtain ⟨o, vs, h1, h2⟩ := h
    exact ⟨o, vs, e _ h1, h2.grow st⟩
  | dct kvs =>
    obtain ⟨o, h1, h2, h3⟩ := h
    exact ⟨o, e _ h1, h2, h3.step st⟩
  | ins C fs =>
    obtain ⟨dx, gs, h1, h2, h3⟩ := h
    exact ⟨dx, gs, e _ h1, h2, h3.grow st⟩
theorem ObjR.there {a : Addr} {o : MObj} (h : ObjR P w K ρ H a o) : H a ≠ none := by
  intro z
  cases o with
  | lst ps =>
    obtain ⟨vs, h1, h2⟩ := h
    rw [z] at h1; cases h1
  | rol ps =>
    obtain ⟨o, vs, h1, h2⟩ := h
    rw [z] at h1; cases h1
  | dct kvs =>
    obtain ⟨o, h1, h2, h3⟩ := h
    rw [z] at h1; cases h1
  | ins C fs =>
    obtain ⟨dx, gs, h1, h2, h3⟩ := h
    rw [z] at h1; cases h1
theorem REnv.grow (st : Grow K ρ H ρ' H') {η : Env'} {σ : L2.St} (h : REnv K ρ H η σ) : REnv K ρ' H' η σ :=
  ⟨h.1, fun i p e =>
    let ⟨v, e1, r⟩ := h.2 i p e
    ⟨v, e1, r.grow st⟩⟩
theorem REnv.step (st : Step K ρ H ρ' H') {η : Env'} {σ : L2.St} (h : REnv K ρ H η σ) : REnv K ρ' H' η σ := h.grow st.grow
theorem REnv.set {η : Env'} {σ : L2.St} (h : REnv K ρ H η σ) {p : PV} {v : V} (r : RV K ρ H p v) (i : Nat) : REnv K ρ H (η.set i (some p)) (σ.set i (some v)) := by
  refine ⟨by rw [List.length_set, List.length_set]; exact h.1, fun j q e => ?_⟩
  by_cases hj : i = j
  · subst hj
    by_cases hl : i < η.length
    · rw [List.getElem?_set_self hl] at e
      cases e
      exact ⟨v, List.getElem?_set_self (h.1 ▸ hl), r⟩
    · rw [List.getElem?_eq_none (by rw [List.length_set]; exact Nat.le_of_not_lt hl)] at e
      cases e
  · rw [List.getElem?_set_ne hj] at e ⊢
    exact h.2 j q e
/-- a tuple is laid -/
theorem Step.tupNew {p : Addr} {vs : List V} (hp : H p = none) : Step K ρ H ρ (upd H p (.tup vs)) := by
  have ne : ∀ b o, H b = some o → b ≠ p := fun b o h => ne_of_none h hp
  refine ⟨⟨[], (List.append_nil ρ).symm, fun _ h => by cases h⟩, fun b o h _ => ?_, fun b xs h => ?_, fun b h => ?_, DKeep.upd (DW.none hp)⟩
  · rw [upd_ne (ne b o h)]
    exact h
  · rcases h with (h | ⟨o, h⟩) | h
    · exact .inl (.inl (by rw [upd_ne (ne b _ h)]; exact h))
    · exact .inl (.inr ⟨o, by rw [upd_ne (ne b _ h)]; exact h⟩)
    · exact .inr h
  · cases q : H b with
    | none => exact absurd q h
    | some o =>
      rw [upd_ne (ne b o q), q]
      exact fun z => by cases z
/-- any new object is laid; it gets the next number, or none -/
theorem Step.new {p : Addr} {u : HO} (hp : H p = none) : Step K ρ H (ρ ++ [p]) (upd H p u) := by
  have ne : ∀ b o, H b = some o → b ≠ p := fun b o h => ne_of_none h hp
  refine ⟨⟨[p], rfl, fun q h => by rw [List.mem_singleton.mp h]; exact hp⟩, fun b o h _ => ?_, fun b xs h => ?_, fun b h => ?_, DKeep.upd (DW.none hp)⟩
  · rw [upd_ne (ne b o h)]
    exact h
  · rcases h with (h | ⟨o, h⟩) | h
    · exact .inl (.inl (by rw [upd_ne (ne b _ h)]; exact h))
    · exact .inl (.inr ⟨o, by rw [upd_ne (ne b _ h)]; exact h⟩)
    · exact .inr h
  · cases q : H b with
    | none => exact absurd q h
    | some o =>
      rw [upd_ne (ne b o q), q]
      exact fun z => by cases z
theorem Step.quiet {p : Addr} {u : HO} (hp : H p = none) : Step K ρ H ρ (upd H p u) := by
  have ne : ∀ b o, H b = some o → b ≠ p := fun b o h => ne_of_none h hp
  refine ⟨⟨[], (List.append_nil ρ).symm, fun _ h => by cases h⟩, fun b o h _ => ?_, fun b xs h => ?_, fun b h => ?_, DKeep.upd (DW.none hp)⟩
  · rw [upd_ne (ne b o h)]
    exact h
  · rcases h with (h | ⟨o, h⟩) | h
    · exact .inl (.inl (by rw [upd_ne (ne b _ h)]; exact h))
    · exact .inl (.inr ⟨o, by rw [upd_ne (ne b _ h)]; exact h⟩)
    · exact .inr h
  · cases q : H b with
    | none => exact absurd q h
    | some o =>
      rw [upd_ne (ne b o q), q]
      exact fun z => by cases z
/-- an object with a number is written -/
theorem Step.write {a : Addr} {u : HO} (ha : a ∈ ρ) (hm : Mut (H a)) (hd : DW H a u) : Step K ρ H ρ (upd H a u) := by
  have ht : ∀ b o, H b = some o → ¬ Mut (some o) → b ≠ a := fun b o h n e => by
    subst e
    rw [h] at hm
    exact n hm
  refine ⟨⟨[], (List.append_nil ρ).symm, fun _ h => by cases h⟩, fun b o h hn => ?_, fun b xs h => ?_, fun b h => ?_, DKeep.upd hd⟩
  · rw [upd_ne fun e => hn (by rw [e]; exact ha)]
    exact h
  · rcases h with (h | ⟨o, h⟩) | h
    · exact .inl (.inl (by rw [upd_ne (ht b _ h fun z => z)]; exact h))
    · exact .inl (.inr ⟨o, by rw [upd_ne (ht b _ h fun z => z)]; exact h⟩)
    · exact .inr h
  · by_cases e : b = a
    · subst e
      rw [upd_same]
      exact fun z => by cases z
    · rw [upd_ne e]
      exact h
end

section
variable {P : Program} {w : World} {K : PySem.W.Frag} {ρ ρ' : List Addr} {H H' : Hp} {μ : Sto}
theorem RSt.addr (s : RSt P w K ρ H μ) {i : Nat} {o : MObj} (h : μ[i]? = some o) : ∃ a, ρ[i]? = some a ∧ ObjR P w K ρ H a o := by
  have hl : i < ρ.length := by
    rw [← s.len]
    exact (List.getElem?_eq_some_iff.mp h).1
  exact ⟨ρ[i], List.getElem?_eq_getElem hl, s.obj i _ o (List.getElem?_eq_getElem hl) h⟩
theorem RSt.at (s : RSt P w K ρ H μ) {i : Nat} {a : Addr} {o : MObj} (ha : ρ[i]? = some a) (h : μ[i]? = some o) : ObjR P w K ρ H a o := s.obj i a o ha h
theorem RSt.there (s : RSt P w K ρ H μ) {a : Addr} (h : a ∈ ρ) : H a ≠ none := by
  obtain ⟨i, hi, e⟩ := List.getElem_of_mem h
  have e1 : ρ[i]? = some a := by rw [List.getElem?_eq_getElem hi, e]
  have hl : i < μ.length := by rw [s.len]; exact hi
  exact (s.obj i a _ e1 (List.getElem?_eq_getElem hl)).there
theorem RSt.fresh (s : RSt P w K ρ H μ) {p : Addr} (h : H p = none) : p ∉ ρ := fun hp => s.there hp h
/-- nothing with a number changed -/
theorem RSt.keep (s : RSt P w K ρ H μ) (st : Step K ρ H ρ H') (e : ∀ a ∈ ρ, H' a = H a) : RSt P w K ρ H' μ :=
  ⟨s.len, s.nd, fun i a o ha ho => (s.obj i a o ha ho).step st.grow fun u h => (e a (List.mem_of_getElem? ha)).trans h⟩
/-- a new untold object -/
theorem RSt.quiet (s : RSt P w K ρ H μ) {p : Addr} {u : HO} (hp : H p = none) : RSt P w K ρ (upd H p u) μ :=
  s.keep (Step.quiet hp) fun a ha => upd_ne fun e => s.there ha (by rw [e]; exact hp)
/-- a new object gets the next number -/
theorem RSt.new (s : RSt P w K ρ H μ) {p : Addr} {u : HO} {o : MObj} (hp : H p = none) (h : ObjR P w K (ρ ++ [p]) (upd H p u) p o) : RSt P w K (ρ ++ [p]) (upd H p u) (μ ++ [o]) := by
  have hn := s.fresh hp
  refine ⟨by simp [s.len], ?_, fun i a x ha hx => ?_⟩
  · rw [List.nodup_append]
    refine ⟨s.nd, by simp, fun a ha b hb => ?_⟩
    rw [List.mem_singleton.mp hb]
    exact fun e => hn (e ▸ ha)
  · by_cases hi : i < ρ.length
    · rw [List.getElem?_append_left hi] at ha
      rw [List.getElem?_append_left (by rw [s.len]; exact hi)] at hx
      have hm := List.mem_of_getElem? ha
      exact (s.obj i a x ha hx).step (Step.new hp).grow fun u hu => by
        rw [upd_ne fun e => s.there hm (by rw [e]; exact hp)]
        exact hu
    · have e : i = ρ.length := by
        have := (List.getElem?_eq_some_iff.mp ha).1
        simp at this
        omega
      subst e
      rw [List.getElem?_append_right (Nat.le_refl _), Nat.sub_self] at ha
      rw [List.getElem?_append_right (by rw [s.len]; exact Nat.le_refl _), s.len, Nat.sub_self] at hx
      cases ha
      cases hx
      exact h
theorem RSt.nextId (s : RSt P w K ρ H μ) {p : Addr} : (ρ ++ [p])[μ.length]? = some p := by
  rw [s.len, List.getElem?_append_right (Nat.le_refl _), Nat.sub_self]
  rfl
/-- an object with a number is written -/
theorem RSt.write (s : RSt P w K ρ H μ) {i : Nat} {a : Addr} {u : HO} {o : MObj} (ha : ρ[i]? = some a) (hm : Mut (H a)) (hd : DW H a u) (h : ObjR P w K ρ (upd H a u) a o) : RSt P w K ρ (upd H a u) (μ.set i o) := by
  refine ⟨by rw [List.length_set]; exact s.len, s.nd, fun j b x hb hx => ?_⟩
  by_cases hj : i = j
  · subst hj
    rw [ha] at hb
    cases hb
    have hl : i < μ.length := by rw [s.len]; exact (List.getElem?_eq_some_iff.mp ha).1
    rw [List.getElem?_set_self hl] at hx
    cases hx
    exact h
  · rw [List.getElem?_set_ne hj] at hx
    have hne : b ≠ a := by
      intro e
      subst e
      have hi := (List.getElem?_eq_some_iff.mp ha).1
      exact hj ((List.getElem?_inj hi s.nd).mp (ha.trans hb.symm))
    exact (s.obj j b x hb hx).step (Step.write (List.mem_of_getElem? ha) hm hd).grow fun v hv => by
      rw [upd_ne hne]
      exact hv
/-- an object without a number, made since the start, is written -/
theorem Grow.write {a : Addr} {u : HO} (hm : Mut (H a)) (hd : DW H a u) : Grow K ρ H ρ (upd H a u) := by
  have ht : ∀ b o, H b = some o → ¬ Mut (some o) → b ≠ a := fun b o h n e => by
    subst e
    rw [h] at hm
    exact n hm
  refine ⟨fun _ _ h => h, fun b xs h => ?_, DKeep.upd hd⟩
  rcases h with (h | ⟨o, h⟩) | h
  · exact .inl (.inl (by rw [upd_ne (ht b _ h fun z => z)]; exact h))
  · exact .inl (.inr ⟨o, by rw [upd_ne (ht b _ h fun z => z)]; exact h⟩)
  · exact .inr h
theorem Step.over {H1 : Hp} (st : Step K ρ H ρ' H1) {a : Addr} {u : HO} (h0 : H a = none) (hm : Mut (H1 a)) (hd : DW H1 a u) : Step K ρ H ρ' (upd H1 a u) := by
  refine ⟨st.ext, fun b o h hn => ?_, fun b xs h => (Grow.write (ρ := ρ') hm hd).tup b xs (st.tup b xs h), fun b h => ?_, st.dct.trans (DKeep.upd hd)⟩
  · rw [upd_ne (ne_of_none h h0)]
    exact st.keep b o h hn
  · by_cases e : b = a
    · subst e
      exact absurd h0 h
    · rw [upd_ne e]
      exact st.live b h
theorem RSt.over (s : RSt P w K ρ H μ) {a : Addr} {u : HO} (hn : a ∉ ρ) (hm : Mut (H a)) (hd : DW H a u) : RSt P w K ρ (upd H a u) μ :=
  ⟨s.len, s.nd, fun i b o hb ho => (s.obj i b o hb ho).step (Grow.write hm hd) fun v hv => by
    rw [upd_ne fun e => hn (by rw [← e]; exact List.mem_of_getElem? hb)]
    exact hv⟩
end
end DL
/-! D2: readings by functions: T, TL, TT, TSt; expressions and statements -/
namespace DL
open PySem PySem.Spec PyProof.Rows L2
abbrev EW := Addr → PV → Sto → List Addr → Hp → Prop
/-- what is asked behind a reckoning -/
def Post {α β : Type} (P : Program) (w : World) (K : PySem.W.Frag) (W : EW) (ρ : List Addr) (H : Hp) (r : Rz α) (Rel : List Addr → Hp → α → β → Prop) (Q : β → Hp → Prop) : Prop :=
  match r with
  | .ok a μ' => ∀ ρ' x H', Step K ρ H ρ' H' → Rel ρ' H' a x → RSt P w K ρ' H' μ' → Q x H'
  | .err C v μ' => ∀ ρ' H', Step K ρ H ρ' H' → RSt P w K ρ' H' μ' → W C v μ' ρ' H'
  | .bad => False
section
variable {α β γ δ : Type} {P : Program} {w : World} {K : PySem.W.Frag} {W : EW} {ρ ρ1 : List Addr} {H H1 : Hp}
theorem Post.step {r : Rz α} {Rel : List Addr → Hp → α → β → Prop} {Q : β → Hp → Prop} (st : Step K ρ H ρ1 H1) (h : Post P w K W ρ H r Rel Q) : Post P w K W ρ1 H1 r Rel Q := by
  cases r with
  | ok a μ => exact fun ρ' x H' s r t => h ρ' x H' (st.trans s) r t
  | err C v μ => exact fun ρ' H' s t => h ρ' H' (st.trans s) t
  | bad => exact h
theorem Post.bind {r : Rz α} {f : α → Sto → Rz γ} {Rel : List Addr → Hp → α → β → Prop} {Rel2 : List Addr → Hp → γ → δ → Prop} {Q : δ → Hp → Prop} (h : Post P w K W ρ H (r.bind f) Rel2 Q) :
    Post P w K W ρ H r Rel (fun x H1 => ∃ ρ1 a μ1, Step K ρ H ρ1 H1 ∧ Rel ρ1 H1 a x ∧ RSt P w K ρ1 H1 μ1 ∧ Post P w K W ρ1 H1 (f a μ1) Rel2 Q) := by
  cases r with
  | ok a μ => exact fun ρ' x H' s r t => ⟨ρ', a, μ, s, r, t, Post.step s h⟩
  | err C v μ => exact h
  | bad => exact h
theorem Post.mono {r : Rz α} {Rel : List Addr → Hp → α → β → Prop} {Q Q' : β → Hp → Prop} (h : Post P w K W ρ H r Rel Q) (hq : ∀ x H', Q x H' → Q' x H') : Post P w K W ρ H r Rel Q' := by
  cases r with
  | ok a μ => exact fun ρ' x H' s r t => hq _ _ (h ρ' x H' s r t)
  | err C v μ => exact h
  | bad => exact h
theorem Post.rel {r : Rz α} {Rel Rel' : List Addr → Hp → α → β → Prop} {Q : β → Hp → Prop} (h : Post P w K W ρ H r Rel Q) (hr : ∀ ρ H a x, Rel' ρ H a x → Rel ρ H a x) : Post P w K W ρ H r Rel' Q := by
  cases r with
  | ok a μ => exact fun ρ' x H' s r t => h ρ' x H' s (hr _ _ _ _ r) t
  | err C v μ => exact h
  | bad => exact h
end

abbrev DE := Env' → Sto → Rz PV
abbrev DA := Env' → Sto → Rz (List PV)
abbrev DT := Env' → Sto → Rz Bool
/-- a function of values: an operator, a built-in, a def -/
abbrev VF := List PV → Sto → Rz PV
section
variable (P : Program) (w : World) (K : PySem.W.Frag) (W : EW)
abbrev RB : List Addr → Hp → Bool → Bool → Prop := fun _ _ a b => a = b
def T (d : DE) : TE := fun σ H Q => ∃ ρ η μ, REnv K ρ H η σ ∧ RSt P w K ρ H μ ∧ Post P w K W ρ H (d η μ) (RV K) Q
def TL (d : DA) : TA := fun σ H Q => ∃ ρ η μ, REnv K ρ H η σ ∧ RSt P w K ρ H μ ∧ Post P w K W ρ H (d η μ) (RVs K) Q
def TB (d : DT) : TT := fun σ H Q => ∃ ρ η μ, REnv K ρ H η σ ∧ RSt P w K ρ H μ ∧ Post P w K W ρ H (d η μ) RB Q
/-- an operation on values by a function -/
def rL (f : VF) : List V → Hp → VK → Prop := fun vs H Q => ∃ ρ μ ps, RVs K ρ H ps vs ∧ RSt P w K ρ H μ ∧ Post P w K W ρ H (f ps μ) (RV K) Q
end

/-! ### functions put together -/
def dNil : DA := fun _ μ => .ok [] μ
def dCons (d : DE) (ds : DA) : DA := fun η μ => (d η μ).bind fun p μ1 => (ds η μ1).bind fun ps μ2 => .ok (p :: ps) μ2
def dApp (f : VF) (ds : DA) : DE := fun η μ => (ds η μ).bind f
def dVar (i : Nat) : DE := fun η μ => match η[i]? with
  | some (some p) => .ok p μ
  | _ => .bad
def dC (p : PV) : DE := fun _ μ => .ok p μ
def dIf (c : DT) (a b : DE) : DE := fun η μ => (c η μ).bind fun k μ1 => if k = true then a η μ1 else b η μ1
def dNot (c : DT) : DT := fun η μ => (c η μ).bind fun k μ1 => .ok (!k) μ1
def dAnd (a b : DT) : DT := fun η μ => (a η μ).bind fun k μ1 => if k = true then b η μ1 else .ok false μ1
def dOr (a b : DT) : DT := fun η μ => (a η μ).bind fun k μ1 => if k = true then .ok true μ1 else b η μ1
def dB (c : DT) : DE := fun η μ => (c η μ).bind fun k μ1 => .ok (.bl k) μ1

section
variable {X : Cx} {W : EW}
theorem _root_.L2.PE.impD {e : Expr} {t t' : TE} (h : PE X e t) (i : ∀ σ H Q, t' σ H Q → t σ H Q) : PE X e t' := ⟨fun pins s σ H Q I hw => h.run pins s σ H Q I (i _ _ _ hw)⟩
theorem _root_.L2.PA.impD {es : List Expr} {t t' : TA} (h : PA X es t) (i : ∀ σ H Q, t' σ H Q → t σ H Q) : PA X es t' := ⟨fun pos pins s σ H Q I hw => h.run pos pins s σ H Q I (i _ _ _ hw)⟩
theorem _root_.L2.PT.impD {e : Expr} {t t' : TT} (h : PT X e t) (i : ∀ σ H Q, t' σ H Q → t σ H Q) : PT X e t' := ⟨fun pins s σ H Q I hw => h.run pins s σ H Q I (i _ _ _ hw)⟩
theorem _root_.L2.PW.impD {e : Expr} {t t' : TT} (h : PW X e t) (i : ∀ σ H Q, t' σ H Q → t σ H Q) : PW X e t' := ⟨fun wh pins s σ H Q I hw => h.run wh pins s σ H Q I (i _ _ _ hw)⟩
theorem _root_.L2.PS.impD {st : Stmt} {t t' : TS} (h : PS X st t) (i : ∀ D σ H, t' D σ H → t D σ H) : PS X st t' := ⟨fun pins s σ H D I hw => h.run pins s σ H D I (i _ _ _ hw)⟩
theorem _root_.L2.PSs.impD {st : List Stmt} {t t' : TS} (h : PSs X st t) (i : ∀ D σ H, t' D σ H → t D σ H) : PSs X st t' := ⟨fun pins s σ H D I hw => h.run pins s σ H D I (i _ _ _ hw)⟩

abbrev LE (X : Cx) (W : EW) (e : Expr) (d : DE) : Prop := PE X e (T X.prog X.w X.K W d)
abbrev LA (X : Cx) (W : EW) (es : List Expr) (d : DA) : Prop := PA X es (TL X.prog X.w X.K W d)
abbrev LT (X : Cx) (W : EW) (e : Expr) (d : DT) : Prop := PT X e (TB X.prog X.w X.K W d)
abbrev LW (X : Cx) (W : EW) (e : Expr) (d : DT) : Prop := PW X e (TB X.prog X.w X.K W d)

theorem T.va {d : DE} {f : PV → Sto → Rz PV} {σ : L2.St} {H : Hp} {Q : VK} (h : T X.prog X.w X.K W (fun η μ => (d η μ).bind f) σ H Q) :
    T X.prog X.w X.K W d σ H (fun x H1 => ∃ ρ1 η a μ1, REnv X.K ρ1 H1 η σ ∧ RV X.K ρ1 H1 a x ∧ RSt X.prog X.w X.K ρ1 H1 μ1 ∧ Post X.prog X.w X.K W ρ1 H1 (f a μ1) (RV X.K) Q) := by
  obtain ⟨ρ, η, μ, e, s, p⟩ := h
  exact ⟨ρ, η, μ, e, s, (Post.bind p).mono fun x H1 ⟨ρ1, a, μ1, st, r, s1, q⟩ => ⟨ρ1, η, a, μ1, e.step st, r, s1, q⟩⟩

/-! ### names, constants -/
theorem le_var {i : Nat} {x : Str} {pos : Pos} (h : PE X (.Name x pos) (tVar i)) : LE X W (.Name x pos) (dVar i) := h.impD fun σ H Q ⟨ρ, η, μ, e, s, p⟩ => by
  unfold dVar at p
  cases q : η[i]? with
  | none => rw [q] at p; exact p.elim
  | some o =>
    cases o with
    | none => rw [q] at p; exact p.elim
    | some pv =>
      rw [q] at p
      obtain ⟨v, e1, r⟩ := e.2 i pv q
      exact ⟨v, e1, p ρ v H Step.refl r s⟩
theorem le_c {v : V} {p : PV} {e : Expr} (h : PE X e (tC v)) (r : ∀ ρ H, RV X.K ρ H p v) : LE X W e (dC p) := h.impD fun σ H Q ⟨ρ, η, μ, e, s, q⟩ => q ρ v H Step.refl (r ρ H) s
theorem le_int {i : Int} {j pos} : LE X W (.Constant (.int i) j pos) (dC (.int i)) := le_c pe_int fun _ _ => .int i
theorem le_bl {b : Bool} {j pos} : LE X W (.Constant (.bool b) j pos) (dC (.bl b)) := le_c pe_bl fun _ _ => .bl b
theorem le_non {j pos} : LE X W (.Constant .none j pos) (dC .non) := le_c pe_non fun _ _ => .non
theorem le_str {x : Str} {j pos} : LE X W (.Constant (.str x) j pos) (dC (.str x)) := le_c pe_str fun _ _ => .str x

/-! ### argument lists -/
theorem la_nil : LA X W [] dNil := pa_nil.impD fun σ H Q ⟨ρ, η, μ, e, s, q⟩ => q ρ [] H Step.refl .nil s
theorem la_cons {e : Expr} {es : List Expr} {d : DE} {ds : DA} (h1 : LE X W e d) (h2 : LA X W es ds) (hs : starEach (e :: es) X.env = (false, eval e X.env) :: starEach es X.env := by rfl) : LA X W (e :: es) (dCons d ds) :=
  (pa_cons h1 h2 hs).impD fun σ H Q ⟨ρ, η, μ, en, s, q⟩ => by
    unfold dCons at q
    refine ⟨ρ, η, μ, en, s, (Post.bind q).mono fun x H1 ⟨ρ1, a, μ1, st, r, s1, q1⟩ => ?_⟩
    refine ⟨ρ1, η, μ1, en.step st, s1, (Post.bind q1).mono fun xs H2 ⟨ρ2, as, μ2, st2, r2, s2, q2⟩ => ?_⟩
    exact q2 ρ2 (x :: xs) H2 Step.refl (.cons (r.step st2) r2) s2

/-! ### an operation behind its arguments -/
theorem app_of {f : VF} {ds : DA} {σ : L2.St} {H : Hp} {Q : VK} (h : T X.prog X.w X.K W (dApp f ds) σ H Q) : TL X.prog X.w X.K W ds σ H (fun vs H1 => rL X.prog X.w X.K W f vs H1 Q) := by
  obtain ⟨ρ, η, μ, en, s, q⟩ := h
  exact ⟨ρ, η, μ, en, s, (Post.bind q).mono fun x H1 ⟨ρ1, a, μ1, st, r, s1, q1⟩ => ⟨ρ1, μ1, a, r, s1, q1⟩⟩
theorem tl_cons {d : DE} {ds : DA} {σ : L2.St} {H : Hp} {Q : List V → Hp → Prop} (h : TL X.prog X.w X.K W (dCons d ds) σ H Q) : T X.prog X.w X.K W d σ H fun x H1 => TL X.prog X.w X.K W ds σ H1 fun xs H2 => Q (x :: xs) H2 := by
  obtain ⟨ρ, η, μ, en, s, q⟩ := h
  unfold dCons at q
  refine ⟨ρ, η, μ, en, s, (Post.bind q).mono fun x H1 ⟨ρ1, a, μ1, st, r, s1, q1⟩ => ?_⟩
  refine ⟨ρ1, η, μ1, en.step st, s1, (Post.bind q1).mono fun xs H2 ⟨ρ2, as, μ2, st2, r2, s2, q2⟩ => ?_⟩
  exact q2 ρ2 (x :: xs) H2 Step.refl (.cons (r.step st2) r2) s2
theorem tl_nil {σ : L2.St} {H : Hp} {Q : List V → Hp → Prop} (h : TL X.prog X.w X.K W dNil σ H Q) : Q [] H := by
  obtain ⟨ρ, η, μ, en, s, q⟩ := h
  exact q ρ [] H Step.refl .nil s
theorem T.mono {d : DE} {σ : L2.St} {H : Hp} {Q Q' : VK} (h : T X.prog X.w X.K W d σ H Q) (hq : ∀ x H', Q x H' → Q' x H') : T X.prog X.w X.K W d σ H Q' :=
  let ⟨ρ, η, μ, en, s, q⟩ := h
  ⟨ρ, η, μ, en, s, q.mono hq⟩
theorem TL.mono {d : DA} {σ : L2.St} {H : Hp} {Q Q' : List V → Hp → Prop} (h : TL X.prog X.w X.K W d σ H Q) (hq : ∀ x H', Q x H' → Q' x H') : TL X.prog X.w X.K W d σ H Q' :=
  let ⟨ρ, η, μ, en, s, q⟩ := h
  ⟨ρ, η, μ, en, s, q.mono hq⟩
theorem app1 {f : VF} {d : DE} {σ : L2.St} {H : Hp} {Q : VK} (h : T X.prog X.w X.K W (dApp f (dCons d dNil)) σ H Q) : T X.prog X.w X.K W d σ H fun x H1 => rL X.prog X.w X.K W f [x] H1 Q :=
  (tl_cons (app_of h)).mono fun x H1 h => tl_nil h
theorem app2 {f : VF} {d d' : DE} {σ : L2.St} {H : Hp} {Q : VK} (h : T X.prog X.w X.K W (dApp f (dCons d (dCons d' dNil))) σ H Q) : T X.prog X.w X.K W d σ H fun x H1 => T X.prog X.w X.K W d' σ H1 fun y H2 => rL X.prog X.w X.K W f [x, y] H2 Q :=
  (tl_cons (app_of h)).mono fun x H1 h => (tl_cons h).mono fun y H2 h => tl_nil h
/-- an operator on two values, on one, a call of a value, a method's, an item's -/
abbrev O2 (X : Cx) (W : EW) (op : Value → Value → Sem Value) (f : VF) : Prop := OpR X op (fun x y H Q => rL X.prog X.w X.K W f [x, y] H Q)
abbrev O1 (X : Cx) (W : EW) (op : Value → Sem Value) (f : VF) : Prop := UnR X op (fun x H Q => rL X.prog X.w X.K W f [x] H Q)
abbrev OC (X : Cx) (W : EW) (v : Value) (f : VF) : Prop := CallR X v (rL X.prog X.w X.K W f)
abbrev OM (X : Cx) (W : EW) (id : String) (f : VF) : Prop := MtR X id (fun x xs H Q => rL X.prog X.w X.K W f (x :: xs) H Q)
abbrev OI (X : Cx) (W : EW) (f : VF) : Prop := IxR X (fun x y H Q => rL X.prog X.w X.K W f [x, y] H Q)
theorem le_bin {a b : Expr} {op : Operator} {f : VF} {d1 d2 : DE} {pos : Pos} (o : O2 X W (binaryOp op) f) (h1 : LE X W a d1) (h2 : LE X W b d2) : LE X W (.BinOp a op b pos) (dApp f (dCons d1 (dCons d2 dNil))) :=
  (pe_op o h1 h2).impD fun _ _ _ h => app2 h
theorem le_un {a : Expr} {op : UnaryOp} {f : VF} {d1 : DE} {pos : Pos} (o : O1 X W (unaryOp op) f) (h1 : LE X W a d1) : LE X W (.UnaryOp op a pos) (dApp f (dCons d1 dNil)) :=
  (pe_un o h1).impD fun _ _ _ h => app1 h
theorem le_cmp {a b : Expr} {op : CmpOp} {f : VF} {d1 d2 : DE} {pos : Pos} (o : O2 X W (compareOp op) f) (h1 : LE X W a d1) (h2 : LE X W b d2) (hm : behindInMarks op b = false) : LE X W (.Compare a [op] [b] pos) (dApp f (dCons d1 (dCons d2 dNil))) :=
  (pe_cmpR o h1 h2 hm).impD fun _ _ _ h => app2 h
/-- the bool that a value is -/
def dTest (d : DE) : DT := fun η μ => (d η μ).bind fun p μ1 => match p with
  | .bl k => .ok k μ1
  | _ => .bad
theorem test_of {d : DE} {σ : L2.St} {H : Hp} {Q : Bool → Hp → Prop} (h : TB X.prog X.w X.K W (dTest d) σ H Q) : T X.prog X.w X.K W d σ H fun x H1 => ∃ k, x = .bl k ∧ Q k H1 := by
  obtain ⟨ρ, η, μ, en, s, q⟩ := h
  unfold dTest at q
  refine ⟨ρ, η, μ, en, s, (Post.bind q).mono fun x H1 ⟨ρ1, a, μ1, st, r, s1, q1⟩ => ?_⟩
  cases r with
  | bl b => exact ⟨b, rfl, q1 ρ1 b H1 Step.refl rfl s1⟩
  | _ => exact q1.elim
theorem lt_cmp {a b : Expr} {op : CmpOp} {f : VF} {d1 d2 : DE} {pos : Pos} (o : O2 X W (compareOp op) f) (h1 : LE X W a d1) (h2 : LE X W b d2) (hm : behindInMarks op b = false) : LT X W (.Compare a [op] [b] pos) (dTest (dApp f (dCons d1 (dCons d2 dNil)))) :=
  (pt_cmpR o h1 h2 hm).impD fun _ _ _ h => (app2' (test_of h))
where app2' {f : VF} {d d' : DE} {σ : L2.St} {H : Hp} {Q : VK} (h : T X.prog X.w X.K W (dApp f (dCons d (dCons d' dNil))) σ H Q) : tOp (fun x y H Q => rL X.prog X.w X.K W f [x, y] H Q) (T X.prog X.w X.K W d) (T X.prog X.w X.K W d') σ H Q := app2 h
end
end DL
/-! D3: truth, and, or, not, displays, items, slices, fields -/
namespace DL
open PySem PySem.Spec PyProof.Rows L2
section
variable {K : PySem.W.Frag} {ρ : List Addr} {H : Hp} {P : Program} {w : World}
theorem RVs.isEmpty {ps : List PV} {vs : List V} (r : RVs K ρ H ps vs) : ps.isEmpty = vs.isEmpty := by cases r <;> rfl
/-- what stands at a number -/
def seqAt (μ : Sto) (i : Nat) : Option (List PV) := match μ[i]? with
  | some (.lst ps) => some ps
  | some (.rol ps) => some ps
  | _ => none
theorem seqAt_of {μ : Sto} {i : Nat} {a : Addr} {ps : List PV} (s : RSt P w K ρ H μ) (ha : ρ[i]? = some a) (h : seqAt μ i = some ps) : ∃ vs, SqL K H a vs ∧ RVs K ρ H ps vs := by
  unfold seqAt at h
  cases q : μ[i]? with
  | none => rw [q] at h; cases h
  | some o =>
    rw [q] at h
    have e := s.obj i a o ha q
    cases o with
    | lst xs =>
      cases h
      obtain ⟨vs, h1, h2⟩ := e
      exact ⟨vs, SqL.of h1, h2⟩
    | rol xs =>
      cases h
      obtain ⟨o, vs, h1, h2⟩ := e
      exact ⟨vs, .inl (.inr ⟨o, h1⟩), h2⟩
    | dct kvs => cases h
    | ins C fs => cases h
/-- the items of a tuple or list -/
def items (p : PV) (μ : Sto) : Option (List PV) := match p with
  | .tup ps => some ps
  | .ref i => seqAt μ i
  | _ => none
theorem items_of {μ : Sto} {p : PV} {v : V} {ps : List PV} (s : RSt P w K ρ H μ) (r : RV K ρ H p v) (h : items p μ = some ps) : ∃ a vs, v = .ref a ∧ (SqT K H a vs ∨ SqL K H a vs) ∧ RVs K ρ H ps vs := by
  cases r with
  | tup h1 h2 => cases h; exact ⟨_, _, rfl, .inl h1, h2⟩
  | ref ha =>
    obtain ⟨vs, h1, h2⟩ := seqAt_of s ha h
    exact ⟨_, vs, rfl, .inr h1, h2⟩
  | _ => cases h
/-- a value's truth -/
def truth (p : PV) (μ : Sto) : Option Bool := match p with
  | .non => some false
  | .bl b => some b
  | .int i => some (i != 0)
  | .str x => if x.length ≤ sizeLine then some ((x.length : Int) != 0) else none
  | .tup ps => some (!ps.isEmpty)
  | .ref i => (seqAt μ i).map fun ps => !ps.isEmpty
  | _ => none
theorem truth_of {μ : Sto} {p : PV} {v : V} {k : Bool} (s : RSt P w K ρ H μ) (r : RV K ρ H p v) (h : truth p μ = some k) : TruV K v H k := by
  cases r with
  | non => cases h; rfl
  | bl b => cases h; rfl
  | int i => cases h; rfl
  | str x =>
    have h : (if x.length ≤ sizeLine then some ((x.length : Int) != 0) else none) = some k := h
    by_cases c : x.length ≤ sizeLine
    · rw [if_pos c] at h
      cases h
      exact ⟨c, rfl⟩
    · rw [if_neg c] at h
      cases h
  | tup h1 h2 =>
    cases h
    exact .inr (.inl ⟨_, h1, by rw [h2.isEmpty]⟩)
  | ref ha =>
    obtain ⟨ps, e1, e2⟩ := Option.map_eq_some_iff.mp h
    subst e2
    obtain ⟨vs, h1, h2⟩ := seqAt_of s ha e1
    exact .inl ⟨vs, h1, by rw [h2.isEmpty]⟩
  | ty n => cases h
  | glb a => cases h
end

/-- the truth of a value -/
def dTru (d : DE) : DT := fun η μ => (d η μ).bind fun p μ1 => match truth p μ1 with
  | some k => .ok k μ1
  | none => .bad
def dOrV (a b : DE) : DE := fun η μ => (a η μ).bind fun p μ1 => match truth p μ1 with
  | some k => if k = true then .ok p μ1 else b η μ1
  | none => .bad
def dAndV (a b : DE) : DE := fun η μ => (a η μ).bind fun p μ1 => match truth p μ1 with
  | some k => if k = true then b η μ1 else .ok p μ1
  | none => .bad
def dNotV (a : DE) : DE := fun η μ => (a η μ).bind fun p μ1 => match truth p μ1 with
  | some k => .ok (.bl (!k)) μ1
  | none => .bad
/-- a < b < c: the third is reckoned where the first two say so -/
def dChain (f g : VF) (a b c : DE) : DE := fun η μ => (a η μ).bind fun x μ1 => (b η μ1).bind fun y μ2 => (f [x, y] μ2).bind fun z μ3 => match z with
  | .bl k => if k = true then (c η μ3).bind fun u μ4 => g [y, u] μ4 else .ok (.bl false) μ3
  | _ => .bad
def dStar (d : DE) (ds : DA) : DA := fun η μ => (d η μ).bind fun p μ1 => match items p μ1 with
  | some ps => (ds η μ1).bind fun qs μ2 => .ok (ps ++ qs) μ2
  | none => .bad
def vTup : VF := fun ps μ => if ps.length ≤ sizeLine then .ok (.tup ps) μ else .bad
def vLst : VF := fun ps μ => if ps.length ≤ sizeLine then .ok (.ref μ.length) (μ ++ [.lst ps]) else .bad
/-- a[i] -/
def vItem : VF := fun xs μ => match xs with
  | [.tup ps, .int i] => match atI ps i with
    | some p => .ok p μ
    | none => .bad
  | [.ref j, .int i] => match (seqAt μ j).bind fun ps => atI ps i with
    | some p => .ok p μ
    | none => .bad
  | [.str z, .int i] => if z.length ≤ sizeLine then match atI z.cps.toList i with
      | some c => .ok (.str ⟨#[c]⟩) μ
      | none => .bad
    else .bad
  | _ => .bad
/-- the cut of a sequence -/
def cut {α : Type} (xs : List α) (lo hi : Option Int) : List α := (xs.drop (HT.sIx xs.length 0 lo)).take (HT.sIx xs.length xs.length hi - HT.sIx xs.length 0 lo)
def vCut (p : PV) (lo hi : Option Int) (μ : Sto) : Rz PV := match p with
  | .tup ps => .ok (.tup (cut ps lo hi)) μ
  | .ref i => match seqAt μ i with
    | some ps => .ok (.ref μ.length) (μ ++ [.lst (cut ps lo hi)])
    | none => .bad
  | .str z => if z.length ≤ sizeLine then .ok (.str (cutS z lo hi)) μ else .bad
  | _ => .bad
abbrev DO := Env' → Sto → Rz (Option Int)
def dNoPart : DO := fun _ μ => .ok none μ
def dPart (d : DE) : DO := fun η μ => (d η μ).bind fun p μ1 => match p with
  | .int i => .ok (some i) μ1
  | _ => .bad
def dCut (a : DE) (lo hi : DO) : DE := fun η μ => (a η μ).bind fun p μ1 => (lo η μ1).bind fun l μ2 => (hi η μ2).bind fun h μ3 => vCut p l h μ3
/-- xs[::-1] of a list -/
def vRev : VF := fun xs μ => match xs with
  | [.ref i] => match seqAt μ i with
    | some ps => .ok (.ref μ.length) (μ ++ [.lst ps.reverse])
    | none => .bad
  | _ => .bad
/-- e.f of an instance of the class at C -/
def vFld (C : Addr) (f : Str) : VF := fun xs μ => match xs with
  | [.ref i] => match μ[i]? with
    | some (.ins D fs) => if D = C then match fs.lookup f with
        | some p => .ok p μ
        | none => .bad
      else .bad
    | _ => .bad
  | _ => .bad

section
variable {P : Program} {w : World} {K : PySem.W.Frag} {W : EW} {ρ : List Addr} {H : Hp} {μ : Sto} {Q : VK}
/-- a tuple is handed back -/
theorem ok_tup {ps : List PV} {vs : List V} {p : Addr} (s : RSt P w K ρ H μ) (r : RVs K ρ H ps vs) (hp : H p = none) (h : Post P w K W ρ H (.ok (.tup ps) μ) (RV K) Q) : Q (.ref p) (upd H p (.tup vs)) :=
  h ρ (.ref p) _ (Step.quiet hp) (.tup (SqT.of upd_same) (r.step (Step.quiet hp))) (s.quiet hp)
/-- a new list is handed back -/
theorem ok_lst {ps : List PV} {vs : List V} {p : Addr} (s : RSt P w K ρ H μ) (r : RVs K ρ H ps vs) (hp : H p = none) (h : Post P w K W ρ H (.ok (.ref μ.length) (μ ++ [.lst ps])) (RV K) Q) : Q (.ref p) (upd H p (.lst vs)) :=
  h (ρ ++ [p]) (.ref p) _ (Step.new hp) (.ref s.nextId) (s.new hp ⟨vs, upd_same, r.step (Step.new hp)⟩)
end

section
variable {X : Cx} {W : EW}
theorem lt_tru {a : Expr} {d : DE} (h : LE X W a d) (he : ∀ whole, isTrue a X.env whole = (do let v ← whole; standAt a.pos; holding [v] (truthy v))) : LT X W a (dTru d) :=
  (pt_truth h he).impD fun σ H Q ⟨ρ, η, μ, en, s, q⟩ => ⟨ρ, η, μ, en, s, (Post.bind q).mono fun x H1 ⟨ρ1, a, μ1, st, r, s1, q1⟩ => by
    cases e : truth a μ1 with
    | none => rw [e] at q1; exact q1.elim
    | some k =>
      rw [e] at q1
      exact ⟨k, truth_of s1 r e, q1 ρ1 k H1 Step.refl rfl s1⟩⟩
theorem lt_not {a : Expr} {d : DT} {pos : Pos} (h : LT X W a d) : LT X W (.UnaryOp .Not a pos) (dNot d) :=
  (pt_not h).impD fun σ H Q ⟨ρ, η, μ, en, s, q⟩ => ⟨ρ, η, μ, en, s, (Post.bind q).mono fun x H1 ⟨ρ1, a, μ1, st, r, s1, q1⟩ => by
    subst r
    exact q1 ρ1 _ H1 Step.refl rfl s1⟩
theorem lw_and1 {a : Expr} {d : DT} {pos : Pos} (h : LT X W a d) : LW X W (.BoolOp .And [a] pos) d := pw_and1 h
theorem lw_or1 {a : Expr} {d : DT} {pos : Pos} (h : LT X W a d) : LW X W (.BoolOp .Or [a] pos) d := pw_or1 h
theorem lw_and {a b : Expr} {rest : List Expr} {d d' : DT} {pos : Pos} (h : LT X W a d) (h' : LW X W (.BoolOp .And (b :: rest) pos) d') : LW X W (.BoolOp .And (a :: b :: rest) pos) (dAnd d d') :=
  (pw_and h h').impD fun σ H Q ⟨ρ, η, μ, en, s, q⟩ => ⟨ρ, η, μ, en, s, (Post.bind q).mono fun x H1 ⟨ρ1, a, μ1, st, r, s1, q1⟩ => by
    subst r
    by_cases c : a = true
    · rw [if_pos c] at q1 ⊢
      exact ⟨ρ1, η, μ1, en.step st, s1, q1⟩
    · rw [if_neg c] at q1 ⊢
      exact q1 ρ1 _ H1 Step.refl rfl s1⟩
theorem lw_or {a b : Expr} {rest : List Expr} {d d' : DT} {pos : Pos} (h : LT X W a d) (h' : LW X W (.BoolOp .Or (b :: rest) pos) d') : LW X W (.BoolOp .Or (a :: b :: rest) pos) (dOr d d') :=
  (pw_or h h').impD fun σ H Q ⟨ρ, η, μ, en, s, q⟩ => ⟨ρ, η, μ, en, s, (Post.bind q).mono fun x H1 ⟨ρ1, a, μ1, st, r, s1, q1⟩ => by
    subst r
    by_cases c : a = true
    · rw [if_pos c] at q1 ⊢
      exact q1 ρ1 _ H1 Step.refl rfl s1
    · rw [if_neg c] at q1 ⊢
      exact ⟨ρ1, η, μ1, en.step st, s1, q1⟩⟩
theorem lt_w {a : Expr} {d : DT} (h : LW X W a d) : LT X W a d := PW.pt h
theorem le_if {c a b : Expr} {dc : DT} {da db : DE} {pos : Pos} (hc : LT X W c dc) (ha : LE X W a da) (hb : LE X W b db) : LE X W (.IfExp c a b pos) (dIf dc da db) :=
  (pe_ifExp hc ha hb).impD fun σ H Q ⟨ρ, η, μ, en, s, q⟩ => ⟨ρ, η, μ, en, s, (Post.bind q).mono fun x H1 ⟨ρ1, a, μ1, st, r, s1, q1⟩ => by
    subst r
    by_cases c : a = true
    · rw [if_pos c] at q1 ⊢
      exact ⟨ρ1, η, μ1, en.step st, s1, q1⟩
    · rw [if_neg c] at q1 ⊢
      exact ⟨ρ1, η, μ1, en.step st, s1, q1⟩⟩
theorem le_one {a : Expr} {op : BoolOp} {d : DE} {pos : Pos} (h : LE X W a d) : LE X W (.BoolOp op [a] pos) d := pe_one h
theorem le_or {a b : Expr} {rest : List Expr} {d d' : DE} {pos : Pos} (h : LE X W a d) (h' : LE X W (.BoolOp .Or (b :: rest) pos) d') : LE X W (.BoolOp .Or (a :: b :: rest) pos) (dOrV d d') :=
  (pe_orT h h').impD fun σ H Q ⟨ρ, η, μ, en, s, q⟩ => ⟨ρ, η, μ, en, s, (Post.bind q).mono fun x H1 ⟨ρ1, a, μ1, st, r, s1, q1⟩ => by
    cases e : truth a μ1 with
    | none => rw [e] at q1; exact q1.elim
    | some k =>
      rw [e] at q1
      refine ⟨k, truth_of s1 r e, ?_⟩
      by_cases c : k = true
      · simp only [c, if_true] at q1 ⊢
        exact q1 ρ1 x H1 Step.refl r s1
      · simp only [c, if_false] at q1 ⊢
        exact ⟨ρ1, η, μ1, en.step st, s1, q1⟩⟩
theorem le_and {a b : Expr} {rest : List Expr} {d d' : DE} {pos : Pos} (h : LE X W a d) (h' : LE X W (.BoolOp .And (b :: rest) pos) d') : LE X W (.BoolOp .And (a :: b :: rest) pos) (dAndV d d') :=
  (pe_andT h h').impD fun σ H Q ⟨ρ, η, μ, en, s, q⟩ => ⟨ρ, η, μ, en, s, (Post.bind q).mono fun x H1 ⟨ρ1, a, μ1, st, r, s1, q1⟩ => by
    cases e : truth a μ1 with
    | none => rw [e] at q1; exact q1.elim
    | some k =>
      rw [e] at q1
      refine ⟨k, truth_of s1 r e, ?_⟩
      by_cases c : k = true
      · simp only [c, if_true] at q1 ⊢
        exact ⟨ρ1, η, μ1, en.step st, s1, q1⟩
      · simp only [c, if_false] at q1 ⊢
        exact q1 ρ1 x H1 Step.refl r s1⟩
theorem le_not {a : Expr} {d : DE} {pos : Pos} (h : LE X W a d) : LE X W (.UnaryOp .Not a pos) (dNotV d) :=
  (pe_notT h).impD fun σ H Q ⟨ρ, η, μ, en, s, q⟩ => ⟨ρ, η, μ, en, s, (Post.bind q).mono fun x H1 ⟨ρ1, a, μ1, st, r, s1, q1⟩ => by
    cases e : truth a μ1 with
    | none => rw [e] at q1; exact q1.elim
    | some k =>
      rw [e] at q1
      exact ⟨k, truth_of s1 r e, q1 ρ1 _ H1 Step.refl (.bl _) s1⟩⟩
theorem chain_of {f g : VF} {d1 d2 d3 : DE} {σ : L2.St} {H : Hp} {Q : VK} (h : T X.prog X.w X.K W (dChain f g d1 d2 d3) σ H Q) :
    tChain (fun x y H Q => rL X.prog X.w X.K W f [x, y] H Q) (fun x y H Q => rL X.prog X.w X.K W g [x, y] H Q) (T X.prog X.w X.K W d1) (T X.prog X.w X.K W d2) (T X.prog X.w X.K W d3) σ H Q := by
  obtain ⟨ρ, η, μ, en, s, q⟩ := h
  unfold dChain at q
  refine ⟨ρ, η, μ, en, s, (Post.bind q).mono fun x H1 ⟨ρ1, a, μ1, st, r, s1, q1⟩ => ?_⟩
  refine ⟨ρ1, η, μ1, en.step st, s1, (Post.bind q1).mono fun y H2 ⟨ρ2, b, μ2, st2, r2, s2, q2⟩ => ?_⟩
  refine ⟨ρ2, μ2, [a, b], .cons (r.step st2) (.cons r2 .nil), s2, (Post.bind q2).mono fun z H3 ⟨ρ3, c, μ3, st3, r3, s3, q3⟩ => ?_⟩
  cases r3 with
  | bl k =>
    refine ⟨k, rfl, ?_⟩
    cases k with
    | false => exact q3 ρ3 _ H3 Step.refl (.bl false) s3
    | true =>
      refine ⟨ρ3, η, μ3, ((en.step st).step st2).step st3, s3, (Post.bind q3).mono fun u H4 ⟨ρ4, e, μ4, st4, r4, s4, q4⟩ => ?_⟩
      exact ⟨ρ4, μ4, [b, e], .cons ((r2.step st3).step st4) (.cons r4 .nil), s4, q4⟩
  | _ => exact q3.elim
theorem le_chain {a b c : Expr} {op op' : CmpOp} {f g : VF} {d1 d2 d3 : DE} {pos : Pos} (o : O2 X W (compareOp op) f) (o' : O2 X W (compareOp op') g) (h1 : LE X W a d1) (h2 : LE X W b d2) (h3 : LE X W c d3)
    (hm : lastMarks [op, op'] [b, c] = false := by with_unfolding_all rfl) : LE X W (.Compare a [op, op'] [b, c] pos) (dChain f g d1 d2 d3) := (pe_chain o o' h1 h2 h3 hm).impD fun _ _ _ h => chain_of h
theorem lt_chain {a b c : Expr} {op op' : CmpOp} {f g : VF} {d1 d2 d3 : DE} {pos : Pos} (o : O2 X W (compareOp op) f) (o' : O2 X W (compareOp op') g) (h1 : LE X W a d1) (h2 : LE X W b d2) (h3 : LE X W c d3)
    (hm : lastMarks [op, op'] [b, c] = false := by with_unfolding_all rfl) : LT X W (.Compare a [op, op'] [b, c] pos) (dTest (dChain f g d1 d2 d3)) := (pt_chain o o' h1 h2 h3 hm).impD fun _ _ _ h => chain_of (test_of h)

/-! ### displays -/
theorem la_star {e : Expr} {es : List Expr} {d : DE} {ds : DA} {p : Pos} (h : LE X W e d) (hr : LA X W es ds) (hs : starEach (.Starred e p :: es) X.env = (true, eval e X.env) :: starEach es X.env := by rfl) : LA X W (.Starred e p :: es) (dStar d ds) :=
  (StX.pa_star h hr hs).impD fun σ H Q ⟨ρ, η, μ, en, s, q⟩ => ⟨ρ, η, μ, en, s, (Post.bind q).mono fun x H1 ⟨ρ1, a, μ1, st, r, s1, q1⟩ => by
    cases e : items a μ1 with
    | none => rw [e] at q1; exact q1.elim
    | some ps =>
      rw [e] at q1
      obtain ⟨b, vs, e1, e2, e3⟩ := items_of s1 r e
      refine ⟨b, vs, e1, e2, ρ1, η, μ1, en.step st, s1, (Post.bind q1).mono fun ys H2 ⟨ρ2, qs, μ2, st2, r2, s2, q2⟩ => ?_⟩
      exact q2 ρ2 _ H2 Step.refl ((e3.step st2).append r2) s2⟩
theorem le_tup {es : List Expr} {k : Nat} {pos : Pos} {ds : DA} (h : LA X W es ds) : LE X W (.Tuple es k pos) (dApp vTup ds) :=
  (pe_tup h).impD fun σ H Q h => (app_of h).mono fun vs H1 ⟨ρ, μ, ps, r, s, q⟩ => by
    unfold vTup at q
    by_cases c : ps.length ≤ sizeLine
    · rw [if_pos c] at q
      exact ⟨r.length ▸ c, fun p hp => ok_tup s r hp q⟩
    · rw [if_neg c] at q
      exact q.elim
theorem le_lst {es : List Expr} {pos : Pos} {ds : DA} (h : LA X W es ds) : LE X W (.List es pos) (dApp vLst ds) :=
  (pe_lst h).impD fun σ H Q h => (app_of h).mono fun vs H1 ⟨ρ, μ, ps, r, s, q⟩ => by
    unfold vLst at q
    by_cases c : ps.length ≤ sizeLine
    · rw [if_pos c] at q
      exact ⟨r.length ▸ c, fun p hp => ok_lst s r hp q⟩
    · rw [if_neg c] at q
      exact q.elim

/-! ### items, slices -/
theorem RVs.atI {K : PySem.W.Frag} {ρ : List Addr} {H : Hp} {ps : List PV} {vs : List V} {i : Int} {p : PV} (r : RVs K ρ H ps vs) (h : L2.atI ps i = some p) : ∃ v, L2.atI vs i = some v ∧ RV K ρ H p v := by
  unfold L2.atI at h ⊢
  rw [← r.length]
  cases e : ixN ps.length i with
  | none => rw [e] at h; cases h
  | some j =>
    rw [e] at h
    obtain ⟨v, h1, h2⟩ := r.get h
    exact ⟨v, h1, h2⟩
theorem oi_item : OI X W vItem := by
  intro value slice pins s σ H x y v u Q I rx ry h hs
  refine ix_seq value slice pins s σ H x y v u Q I rx ry ?_ hs
  obtain ⟨ρ, μ, ps, r, t, q⟩ := h
  cases r with
  | cons r1 r' =>
    cases r' with
    | cons r2 r'' =>
      cases r''
      cases r1 with
      | tup h1 h2 =>
        cases r2 with
        | int i =>
          rename_i ps vs a
          have q : Post X.prog X.w X.K W ρ H (match L2.atI ps i with | some p => .ok p μ | none => .bad) (RV X.K) Q := q
          cases e : L2.atI ps i with
          | none => rw [e] at q; exact q.elim
          | some p =>
            rw [e] at q
            obtain ⟨v1, e1, r1⟩ := h2.atI e
            exact .inr (.inl ⟨a, vs, i, v1, rfl, rfl, h1, e1, q ρ v1 H Step.refl r1 t⟩)
        | _ => exact q.elim
      | ref ha =>
        cases r2 with
        | int i =>
          rename_i j a
          have q : Post X.prog X.w X.K W ρ H (match (seqAt μ j).bind fun ps => L2.atI ps i with | some p => .ok p μ | none => .bad) (RV X.K) Q := q
          cases e : seqAt μ j with
          | none => rw [e] at q; exact q.elim
          | some ps =>
            rw [e, Option.bind_some] at q
            obtain ⟨vs, h1, h2⟩ := seqAt_of t ha e
            cases e2 : L2.atI ps i with
            | none => rw [e2] at q; exact q.elim
            | some p =>
              rw [e2] at q
              obtain ⟨v1, e1, r1⟩ := h2.atI e2
              exact .inl ⟨a, vs, i, v1, rfl, rfl, h1, e1, q ρ v1 H Step.refl r1 t⟩
        | _ => exact q.elim
      | str z =>
        cases r2 with
        | int i =>
          have q : Post X.prog X.w X.K W ρ H (if z.length ≤ sizeLine then (match L2.atI z.cps.toList i with | some c => .ok (.str ⟨#[c]⟩) μ | none => .bad) else .bad) (RV X.K) Q := q
          by_cases c : z.length ≤ sizeLine
          · rw [if_pos c] at q
            cases e : L2.atI z.cps.toList i with
            | none => rw [e] at q; exact q.elim
            | some k =>
              rw [e] at q
              exact .inr (.inr ⟨z, i, k, rfl, rfl, c, e, q ρ _ H Step.refl (.str _) t⟩)
          · rw [if_neg c] at q
            exact q.elim
        | _ => exact q.elim
      | _ => first | exact q.elim | (cases r2 <;> exact q.elim)
theorem le_item {a b : Expr} {f : VF} {d1 d2 : DE} {pos : Pos} (o : OI X W f) (h1 : LE X W a d1) (h2 : LE X W b d2) (hs : PlainIx b := by intro _ _; rfl) : LE X W (.Subscript a b pos) (dApp f (dCons d1 (dCons d2 dNil))) :=
  (pe_ix o h1 h2 hs).impD fun _ _ _ h => app2 h
theorem RVs.cut {K : PySem.W.Frag} {ρ : List Addr} {H : Hp} {ps : List PV} {vs : List V} (r : RVs K ρ H ps vs) (lo hi : Option Int) : RVs K ρ H (DL.cut ps lo hi) (cutV vs lo hi) := by
  unfold DL.cut cutV
  rw [← r.length]
  exact (r.drop _).take _
theorem sl_any : SlR X (fun x lo hi H Q => ∃ ρ μ p, RV X.K ρ H p x ∧ RSt X.prog X.w X.K ρ H μ ∧ Post X.prog X.w X.K W ρ H (vCut p lo hi μ) (RV X.K) Q) := by
  intro pins s σ H x v vl vu lo hi sl Q I rx hs pl pu h
  obtain ⟨ρ, μ, p, r, t, q⟩ := h
  cases r with
  | @tup ps0 vs0 a0 h1 h2 =>
    refine sl_tupA pins s σ H _ v vl vu lo hi sl Q I rx hs pl pu ⟨_, _, rfl, h1, fun c => ?_, fun c p hp => ok_tup t (h2.cut lo hi) hp q⟩
    refine q ρ _ H Step.refl (.tup h1 ?_) t
    have e : cutV vs0 lo hi = vs0 := by
      unfold cutV
      rw [c.1, c.2, List.drop_zero, Nat.sub_zero, List.take_length]
    have k := h2.cut lo hi
    rw [e] at k
    exact k
  | ref ha =>
    rename_i j a
    have q : Post X.prog X.w X.K W ρ H (match seqAt μ j with | some ps => .ok (.ref μ.length) (μ ++ [.lst (DL.cut ps lo hi)]) | none => .bad) (RV X.K) Q := q
    cases e : seqAt μ j with
    | none => rw [e] at q; exact q.elim
    | some ps =>
      rw [e] at q
      obtain ⟨vs, h1, h2⟩ := seqAt_of t ha e
      exact sl_list pins s σ H _ v vl vu lo hi sl Q I rx hs pl pu ⟨a, vs, rfl, h1, fun p hp => ok_lst t (h2.cut lo hi) hp q⟩
  | str z =>
    have q : Post X.prog X.w X.K W ρ H (if z.length ≤ sizeLine then .ok (.str (cutS z lo hi)) μ else .bad) (RV X.K) Q := q
    by_cases c : z.length ≤ sizeLine
    · rw [if_pos c] at q
      exact sl_str pins s σ H _ v vl vu lo hi sl Q I rx hs pl pu ⟨z, rfl, c, q ρ _ H Step.refl (.str _) t⟩
    · rw [if_neg c] at q
      exact q.elim
  | _ => exact q.elim
abbrev LO (X : Cx) (W : EW) (e : Option Expr) (d : DO) : Prop := PO X e (fun σ H Q => ∃ ρ η μ, REnv X.K ρ H η σ ∧ RSt X.prog X.w X.K ρ H μ ∧ Post X.prog X.w X.K W ρ H (d η μ) (fun _ _ a b => a = b) Q)
theorem lo_none : LO X W none dNoPart := ⟨fun pins s σ H Q I ⟨ρ, η, μ, en, t, q⟩ => po_none.run pins s σ H Q I (q ρ none H Step.refl rfl t)⟩
theorem lo_some {e : Expr} {d : DE} (h : LE X W e d) : LO X W (some e) (dPart d) := ⟨fun pins s σ H Q I ⟨ρ, η, μ, en, t, q⟩ => (po_some h).run pins s σ H Q I ⟨ρ, η, μ, en, t, (Post.bind q).mono fun x H1 ⟨ρ1, a, μ1, st, r, s1, q1⟩ => by
  cases r with
  | int i => exact ⟨i, rfl, q1 ρ1 _ H1 Step.refl rfl s1⟩
  | _ => exact q1.elim⟩⟩
theorem le_cut {e : Expr} {lo hi : Option Expr} {d : DE} {dl dh : DO} {p2 pos : Pos} (h : LE X W e d) (hl : LO X W lo dl) (hh : LO X W hi dh) : LE X W (.Subscript e (.Slice lo hi none p2) pos) (dCut d dl dh) :=
  (pe_slice sl_any h hl hh).impD fun σ H Q ⟨ρ, η, μ, en, t, q⟩ => ⟨ρ, η, μ, en, t, (Post.bind q).mono fun x H1 ⟨ρ1, a, μ1, st, r, s1, q1⟩ =>
    ⟨ρ1, η, μ1, en.step st, s1, (Post.bind q1).mono fun l H2 ⟨ρ2, l', μ2, st2, r2, s2, q2⟩ => by
      subst r2
      exact ⟨ρ2, η, μ2, (en.step st).step st2, s2, (Post.bind q2).mono fun u H3 ⟨ρ3, u', μ3, st3, r3, s3, q3⟩ => by
        subst r3
        exact ⟨ρ3, μ3, a, (r.step st2).step st3, s3, q3⟩⟩⟩⟩
theorem le_rev {e : Expr} {d : DE} {j : Nat} {p1 p2 p3 pos : Pos} (h : LE X W e d) : LE X W (.Subscript e (.Slice none none (some (.UnaryOp .USub (.Constant (.int 1) j p1) p2)) p3) pos) (dApp vRev (dCons d dNil)) :=
  (pe_revL h).impD fun σ H Q h => (app1 h).mono fun x H1 ⟨ρ, μ, ps, r, t, q⟩ => by
    cases r with
    | cons r1 r' =>
      cases r'
      cases r1 with
      | @ref j a ha =>
        have q : Post X.prog X.w X.K W ρ H1 (match seqAt μ j with | some ps => .ok (.ref μ.length) (μ ++ [.lst ps.reverse]) | none => .bad) (RV X.K) Q := q
        cases e : seqAt μ j with
        | none => rw [e] at q; exact q.elim
        | some ps =>
          rw [e] at q
          obtain ⟨vs, h1, h2⟩ := seqAt_of t ha e
          exact ⟨a, vs, rfl, h1, fun p hp => ok_lst t h2.reverse hp q⟩
      | _ => exact q.elim

/-! ### fields -/
theorem lookup_rel {K : PySem.W.Frag} {ρ : List Addr} {H : Hp} : ∀ {fs : List (Str × PV)} {gs : List (Str × V)} {f : Str} {p : PV}, gs.map (·.1) = fs.map (·.1) → RVs K ρ H (fs.map (·.2)) (gs.map (·.2)) → fs.lookup f = some p → ∃ v, gs.lookup f = some v ∧ RV K ρ H p v
  | [], _, _, _, _, _, h => by cases h
  | (k, p0) :: fs, [], f, p, e, _, h => by cases e
  | (k, p0) :: fs, (k', v0) :: gs, f, p, e, r, h => by
    injection e with e1 e2
    have e1 : k' = k := e1
    subst e1
    cases r with
    | cons r1 r2 =>
      by_cases c : (f == k') = true
      · simp only [List.lookup, c] at h ⊢
        cases h
        exact ⟨v0, rfl, r1⟩
      · have c : (f == k') = false := by simpa using c
        simp only [List.lookup, c] at h ⊢
        exact lookup_rel e2 r2 h
theorem fld_of {C : Addr} {f : Str} {x : V} {H : Hp} {Q : VK} (h : rL X.prog X.w X.K W (vFld C f) [x] H Q) : ∃ a dx gs v, x = .ref a ∧ H a = some (.ins C dx gs) ∧ gs.lookup f = some v ∧ Q v H := by
  obtain ⟨ρ, μ, ps, r, t, q⟩ := h
  cases r with
  | cons r1 r' =>
    cases r'
    cases r1 with
    | ref ha =>
      rename_i i a
      have q : Post X.prog X.w X.K W ρ H (match μ[i]? with
        | some (.ins D fs) => if D = C then match fs.lookup f with
            | some p => .ok p μ
            | none => .bad
          else .bad
        | _ => .bad) (RV X.K) Q := q
      cases e : μ[i]? with
      | none => rw [e] at q; exact q.elim
      | some o =>
        rw [e] at q
        cases o with
        | ins D fs =>
          obtain ⟨dx, gs, h1, h2, h3⟩ := t.obj i a _ ha e
          by_cases c : D = C
          · subst c
            simp only [if_true] at q
            cases e2 : fs.lookup f with
            | none => rw [e2] at q; exact q.elim
            | some p =>
              rw [e2] at q
              obtain ⟨v, h4, h5⟩ := lookup_rel h2 h3 e2
              exact ⟨a, dx, gs, v, rfl, h1, h4, q ρ v H Step.refl h5 t⟩
          · simp only [if_neg c] at q
            exact q.elim
        | _ => exact q.elim
    | _ => exact q.elim
theorem le_fld {e : Expr} {f : Str} {C : Addr} {d : DE} {pos : Pos} (h : LE X W e d) (c : Cls X.K C) (n : NoAttr X.K C f) (hb : attributeBase e f X.env (eval e X.env) = eval e X.env := by rfl) : LE X W (.Attribute e f pos) (dApp (vFld C f) (dCons d dNil)) :=
  (pe_fld h hb).impD fun σ H Q h => (app1 h).mono fun x H1 h =>
    let ⟨a, dx, gs, v, e1, e2, e3, q⟩ := fld_of h
    ⟨a, C, dx, gs, v, e1, e2, c, n, e3, q⟩
end
end DL
/-! D4: equality of trees; statements; loops; comprehensions -/
namespace DL
open PySem PySem.Spec PyProof.Rows L2

namespace PV
mutual
def beq : PV → PV → Bool
  | .non, b => match b with | .non => true | _ => false
  | .bl x, b => match b with | .bl y => x == y | _ => false
  | .int x, b => match b with | .int y => decide (x = y) | _ => false
  | .str x, b => match b with | .str y => decide (x = y) | _ => false
  | .tup x, b => match b with | .tup y => beqs x y | _ => false
  | .ref x, b => match b with | .ref y => decide (x = y) | _ => false
  | .ty x, b => match b with | .ty y => decide (x = y) | _ => false
  | .glb x, b => match b with | .glb y => decide (x = y) | _ => false
def beqs : List PV → List PV → Bool
  | [], b => match b with | [] => true | _ => false
  | x :: xs, b => match b with | y :: ys => beq x y && beqs xs ys | _ => false
end
mutual
theorem beq_self : ∀ a : PV, beq a a = true
  | .non => rfl
  | .bl x => by simp [beq]
  | .int x => by simp [beq]
  | .str x => by simp [beq]
  | .tup x => by rw [beq]; exact beqs_self x
  | .ref x => by simp [beq]
  | .ty x => by simp [beq]
  | .glb x => by simp [beq]
theorem beqs_self : ∀ a : List PV, beqs a a = true
  | [] => rfl
  | x :: xs => by rw [beqs, beq_self x, beqs_self xs]; rfl
end
mutual
theorem eq_of : ∀ a b : PV, beq a b = true → a = b
  | .non, b, h => by cases b <;> first | rfl | cases h
  | .bl x, b, h => by cases b <;> first | (simp only [beq, beq_iff_eq] at h; rw [h]) | cases h
  | .int x, b, h => by cases b <;> first | (simp only [beq, decide_eq_true_eq] at h; rw [h]) | cases h
  | .str x, b, h => by cases b <;> first | (simp only [beq, decide_eq_true_eq] at h; rw [h]) | cases h
  | .tup x, b, h => by
    cases b with
    | tup y => rw [beq] at h; rw [eqs_of x y h]
    | _ => cases h
  | .ref x, b, h => by cases b <;> first | (simp only [beq, decide_eq_true_eq] at h; rw [h]) | cases h
  | .ty x, b, h => by cases b <;> first | (simp only [beq, decide_eq_true_eq] at h; rw [h]) | cases h
  | .glb x, b, h => by cases b <;> first | (simp only [beq, decide_eq_true_eq] at h; rw [h]) | cases h
theorem eqs_of : ∀ a b : List PV, beqs a b = true → a = b
  | [], b, h => by cases b <;> first | rfl | cases h
  | x :: xs, b, h => by
    cases b with
    | nil => cases h
    | cons y ys =>
      rw [beqs, Bool.and_eq_true] at h
      rw [eq_of x y h.1, eqs_of xs ys h.2]
end
instance : DecidableEq PV := fun a b => if h : beq a b = true then .isTrue (eq_of a b h) else .isFalse fun e => h (by rw [e]; exact beq_self b)
end PV

/-! ### statements -/
inductive Out where
  | nx | rt (v : PV) | bk | ct
inductive FOut where
  | nx (σ : L2.St) | rt (v : V) | bk (σ : L2.St) | ct (σ : L2.St)
inductive RO (K : PySem.W.Frag) (ρ : List Addr) (H : Hp) : Out × Env' → FOut → Prop
  | nx {η : Env'} {σ : L2.St} : REnv K ρ H η σ → RO K ρ H (.nx, η) (.nx σ)
  | rt {η : Env'} {p : PV} {v : V} : RV K ρ H p v → RO K ρ H (.rt p, η) (.rt v)
  | bk {η : Env'} {σ : L2.St} : REnv K ρ H η σ → RO K ρ H (.bk, η) (.bk σ)
  | ct {η : Env'} {σ : L2.St} : REnv K ρ H η σ → RO K ρ H (.ct, η) (.ct σ)
def endQ (D : L2.Ends) : FOut → Hp → Prop
  | .nx σ, H => D.nx σ H
  | .rt v, H => D.rt v H
  | .bk σ, H => D.bk σ H
  | .ct σ, H => D.ct σ H
abbrev DS := Env' → Sto → Rz (Out × Env')
section
variable (P : Program) (w : World) (K : PySem.W.Frag) (W : EW)
def TS' (d : DS) : TS := fun D σ H => ∃ ρ η μ, REnv K ρ H η σ ∧ RSt P w K ρ H μ ∧ Post P w K W ρ H (d η μ) (RO K) (endQ D)
end
abbrev LS (X : Cx) (W : EW) (st : Stmt) (d : DS) : Prop := PS X st (TS' X.prog X.w X.K W d)
abbrev LSs (X : Cx) (W : EW) (st : List Stmt) (d : DS) : Prop := PSs X st (TS' X.prog X.w X.K W d)

def sNil : DS := fun η μ => .ok (.nx, η) μ
def sSeq (a b : DS) : DS := fun η μ => (a η μ).bind fun o μ1 => match o.1 with
  | .nx => b o.2 μ1
  | _ => .ok o μ1
def sExpr (d : DE) : DS := fun η μ => (d η μ).bind fun _ μ1 => .ok (.nx, η) μ1
def sRet (d : DE) : DS := fun η μ => (d η μ).bind fun p μ1 => .ok (.rt p, η) μ1
def sRetN : DS := fun η μ => .ok (.rt .non, η) μ
def sIf (c : DT) (a b : DS) : DS := fun η μ => (c η μ).bind fun k μ1 => if k = true then a η μ1 else b η μ1
def sBreak : DS := fun η μ => .ok (.bk, η) μ
def sCont : DS := fun η μ => .ok (.ct, η) μ
def sBad : DS := fun _ _ => .bad
section
variable {X : Cx} {W : EW}
theorem lss_nil : LSs X W [] sNil := pss_nil.impD fun D σ H ⟨ρ, η, μ, en, s, q⟩ => q ρ (.nx σ) H Step.refl (.nx en) s
theorem seq_of {a b : DS} {D : L2.Ends} {σ : L2.St} {H : Hp} (h : TS' X.prog X.w X.K W (sSeq a b) D σ H) : TS' X.prog X.w X.K W a { D with nx := TS' X.prog X.w X.K W b D } σ H := by
  obtain ⟨ρ, η, μ, en, s, q⟩ := h
  refine ⟨ρ, η, μ, en, s, (Post.bind q).mono fun x H1 ⟨ρ1, o, μ1, st, r, s1, q1⟩ => ?_⟩
  cases r with
  | nx en1 => exact ⟨ρ1, _, μ1, en1, s1, q1⟩
  | rt r1 => exact q1 ρ1 _ H1 Step.refl (.rt r1) s1
  | bk en1 => exact q1 ρ1 _ H1 Step.refl (.bk en1) s1
  | ct en1 => exact q1 ρ1 _ H1 Step.refl (.ct en1) s1
theorem lss_cons {st : Stmt} {rest : List Stmt} {a b : DS} (h1 : LS X W st a) (h2 : LSs X W rest b) : LSs X W (st :: rest) (sSeq a b) := (pss_cons h1 h2).impD fun D σ H h => seq_of h
theorem lss_one {st : Stmt} {a : DS} (h1 : LS X W st a) : LSs X W [st] a := pss_one h1
theorem ls_never {st : Stmt} : LS X W st sBad := ps_never.impD fun D σ H ⟨ρ, η, μ, en, s, q⟩ => q.elim
theorem ls_pass {pos : Pos} : LS X W (.Pass pos) sNil := ps_pass.impD fun D σ H ⟨ρ, η, μ, en, s, q⟩ => q ρ (.nx σ) H Step.refl (.nx en) s
theorem ls_break {pos : Pos} : LS X W (.Break pos) sBreak := ps_break.impD fun D σ H ⟨ρ, η, μ, en, s, q⟩ => q ρ (.bk σ) H Step.refl (.bk en) s
theorem ls_cont {pos : Pos} : LS X W (.Continue pos) sCont := ps_continue.impD fun D σ H ⟨ρ, η, μ, en, s, q⟩ => q ρ (.ct σ) H Step.refl (.ct en) s
theorem ls_expr {e : Expr} {d : DE} {pos : Pos} (h : LE X W e d) (hs : swapsWith e none pos.line X.env = pure false := by rfl) : LS X W (.Expr e pos) (sExpr d) :=
  (ps_expr h hs).impD fun D σ H ⟨ρ, η, μ, en, s, q⟩ => ⟨ρ, η, μ, en, s, (Post.bind q).mono fun x H1 ⟨ρ1, a, μ1, st, r, s1, q1⟩ => q1 ρ1 (.nx σ) H1 Step.refl (.nx (en.step st)) s1⟩
theorem ls_ret {e : Expr} {d : DE} {pos : Pos} (h : LE X W e d) : LS X W (.Return (some e) pos) (sRet d) :=
  (ps_ret h).impD fun D σ H ⟨ρ, η, μ, en, s, q⟩ => ⟨ρ, η, μ, en, s, (Post.bind q).mono fun x H1 ⟨ρ1, a, μ1, st, r, s1, q1⟩ => q1 ρ1 (.rt x) H1 Step.refl (.rt r) s1⟩
theorem ls_retN {pos : Pos} : LS X W (.Return none pos) sRetN := ps_retN.impD fun D σ H ⟨ρ, η, μ, en, s, q⟩ => q ρ (.rt .non) H Step.refl (.rt .non) s
theorem ls_if {c : Expr} {a b : List Stmt} {dc : DT} {da db : DS} {pos : Pos} (hc : LT X W c dc) (ha : LSs X W a da) (hb : LSs X W b db) : LS X W (.If c a b pos) (sIf dc da db) :=
  (ps_if hc ha hb).impD fun D σ H ⟨ρ, η, μ, en, s, q⟩ => ⟨ρ, η, μ, en, s, (Post.bind q).mono fun x H1 ⟨ρ1, a, μ1, st, r, s1, q1⟩ => by
    subst r
    by_cases c : a = true
    · rw [if_pos c] at q1 ⊢
      exact ⟨ρ1, η, μ1, en.step st, s1, q1⟩
    · rw [if_neg c] at q1 ⊢
      exact ⟨ρ1, η, μ1, en.step st, s1, q1⟩⟩
end

/-! ### targets -/
/-- equal but for some slots -/
def Agree (js : List Nat) (σ σ' : L2.St) : Prop := σ'.length = σ.length ∧ ∀ i, i ∉ js → σ'[i]? = σ[i]?
theorem Agree.refl {js : List Nat} {σ : L2.St} : Agree js σ σ := ⟨rfl, fun _ _ => rfl⟩
theorem Agree.trans {js : List Nat} {σ σ1 σ2 : L2.St} (a : Agree js σ σ1) (b : Agree js σ1 σ2) : Agree js σ σ2 := ⟨b.1.trans a.1, fun i h => (b.2 i h).trans (a.2 i h)⟩
theorem Agree.mono {js ks : List Nat} {σ σ1 : L2.St} (a : Agree js σ σ1) (h : ∀ i ∈ js, i ∈ ks) : Agree ks σ σ1 := ⟨a.1, fun i hn => a.2 i fun z => hn (h i z)⟩
theorem wipe_get (σ : L2.St) (vs : List Nat) (i : Nat) : (wipe σ vs)[i]? = if i ∈ vs then (if i < σ.length then some none else none) else σ[i]? := by
  induction vs with
  | nil => simp [wipe]
  | cons v vs ih =>
    unfold wipe
    by_cases h : v = i
    · subst h
      rw [if_pos List.mem_cons_self]
      by_cases hl : v < σ.length
      · rw [List.getElem?_set_self (by rw [wipe_length]; exact hl), if_pos hl]
      · rw [List.getElem?_eq_none (by rw [List.length_set, wipe_length]; omega), if_neg hl]
    · rw [List.getElem?_set_ne h, ih]
      by_cases h2 : i ∈ vs
      · rw [if_pos h2, if_pos (List.mem_cons_of_mem _ h2)]
      · rw [if_neg h2, if_neg fun z => by
          rcases List.mem_cons.mp z with z | z
          · exact h z.symm
          · exact h2 z]
theorem Agree.wipe {js : List Nat} {σ σ' : L2.St} (a : Agree js σ σ') : L2.wipe σ' js = L2.wipe σ js := by
  refine List.ext_getElem? fun i => ?_
  rw [wipe_get, wipe_get, a.1]
  by_cases h : i ∈ js
  · rw [if_pos h, if_pos h]
  · rw [if_neg h, if_neg h, a.2 i h]
theorem wipe_wipe (σ : L2.St) (vs : List Nat) : L2.wipe (L2.wipe σ vs) vs = L2.wipe σ vs := by
  refine List.ext_getElem? fun i => ?_
  rw [wipe_get, wipe_get, wipe_length]
  by_cases h : i ∈ vs
  · rw [if_pos h, if_pos h]
  · rw [if_neg h, if_neg h]
def wipeE (η : Env') (vs : List Nat) : Env' := vs.foldr (fun v e => e.set v none) η
theorem REnv.wipe {K : PySem.W.Frag} {ρ : List Addr} {H : Hp} {η : Env'} {σ : L2.St} (h : REnv K ρ H η σ) : ∀ vs : List Nat, REnv K ρ H (wipeE η vs) (L2.wipe σ vs)
  | [] => h
  | v :: vs => by
    have ih := REnv.wipe h vs
    refine ⟨?_, fun i p e => ?_⟩
    · show ((wipeE η vs).set v none).length = ((L2.wipe σ vs).set v none).length
      rw [List.length_set, List.length_set]
      exact ih.1
    · have e : ((wipeE η vs).set v none)[i]? = some (some p) := e
      show ∃ w', ((L2.wipe σ vs).set v none)[i]? = some (some w') ∧ _
      by_cases hv : v = i
      · subst hv
        by_cases hl : v < (wipeE η vs).length
        · rw [List.getElem?_set_self hl] at e
          cases e
        · rw [List.getElem?_eq_none (by rw [List.length_set]; omega)] at e
          cases e
      · rw [List.getElem?_set_ne hv] at e ⊢
        exact ih.2 i p e
abbrev DG := PV → Env' → Sto → Rz Env'
section
variable (P : Program) (w : World) (K : PySem.W.Frag) (W : EW)
def RG (js : List Nat) (σ : L2.St) (ρ : List Addr) (H : Hp) (η' : Env') (σ' : L2.St) : Prop := REnv K ρ H η' σ' ∧ Agree js σ σ'
def TG' (js : List Nat) (g : DG) : TG := fun v σ H Q => ∃ ρ η μ p, REnv K ρ H η σ ∧ RV K ρ H p v ∧ RSt P w K ρ H μ ∧ Post P w K W ρ H (g p η μ) (RG K js σ) Q
def TGs' (js : List Nat) (g : List PV → Env' → Sto → Rz Env') : TGs := fun vs σ H Q => ∃ ρ η μ ps, REnv K ρ H η σ ∧ RVs K ρ H ps vs ∧ RSt P w K ρ H μ ∧ Post P w K W ρ H (g ps η μ) (RG K js σ) Q
end
abbrev LG (X : Cx) (W : EW) (js : List Nat) (t : Expr) (g : DG) : Prop := PG X t (TG' X.prog X.w X.K W js g)
abbrev LGs (X : Cx) (W : EW) (js : List Nat) (ts : List Expr) (g : List PV → Env' → Sto → Rz Env') : Prop := PGs X ts (TGs' X.prog X.w X.K W js g)
theorem _root_.L2.PG.impD {X : Cx} {t : Expr} {g g' : TG} (h : PG X t g) (i : ∀ v σ H Q, g' v σ H Q → g v σ H Q) : PG X t g' := ⟨fun pins s σ H v u Q I r hw => h.run pins s σ H v u Q I r (i _ _ _ _ hw)⟩
theorem _root_.L2.PGs.impD {X : Cx} {t : List Expr} {g g' : TGs} (h : PGs X t g) (i : ∀ v σ H Q, g' v σ H Q → g v σ H Q) : PGs X t g' := ⟨fun pins s σ H v u Q I r hw => h.run pins s σ H v u Q I r (i _ _ _ _ hw)⟩
def gSet (i : Nat) : DG := fun p η μ => .ok (η.set i (some p)) μ
def gNil' : List PV → Env' → Sto → Rz Env' := fun ps η μ => match ps with
  | [] => .ok η μ
  | _ => .bad
def gCons' (g : DG) (gs : List PV → Env' → Sto → Rz Env') : List PV → Env' → Sto → Rz Env' := fun ps η μ => match ps with
  | p :: r => (g p η μ).bind fun η1 μ1 => gs r η1 μ1
  | [] => .bad
/-- (a, b, ..) = a tuple or a list of so many -/
def gTupA (n : Nat) (gs : List PV → Env' → Sto → Rz Env') : DG := fun p η μ => match items p μ with
  | some ps => if ps.length = n then gs ps η μ else .bad
  | none => .bad
section
variable {X : Cx} {W : EW} {js ks : List Nat}
theorem lg_name {i : Nat} {x : Str} {pos : Pos} (h : PG X (.Name x pos) (gName i)) : LG X W [i] (.Name x pos) (gSet i) := h.impD fun v σ H Q ⟨ρ, η, μ, p, en, r, s, q⟩ =>
  q ρ _ H Step.refl ⟨en.set r i, ⟨by rw [List.length_set], fun j hj => List.getElem?_set_ne fun e => hj (by rw [e]; exact List.mem_singleton.mpr rfl)⟩⟩ s
theorem LG.wide {t : Expr} {g : DG} (h : LG X W js t g) (hs : ∀ i ∈ js, i ∈ ks) : LG X W ks t g := h.impD fun v σ H Q ⟨ρ, η, μ, p, en, r, s, q⟩ => ⟨ρ, η, μ, p, en, r, s, by
  cases e : g p η μ with
  | ok a μ' =>
    rw [e] at q
    exact fun ρ' x H' st rel s' => q ρ' x H' st ⟨rel.1, rel.2.mono hs⟩ s'
  | err C v μ' => rw [e] at q; exact q
  | bad => rw [e] at q; exact q⟩
theorem lgs_nil : LGs X W js [] gNil' := pgs_nil.impD fun vs σ H Q ⟨ρ, η, μ, ps, en, r, s, q⟩ => by
  cases r with
  | nil => exact ⟨rfl, q ρ σ H Step.refl ⟨en, .refl⟩ s⟩
  | cons _ _ => exact q.elim
theorem lgs_cons {e : Expr} {es : List Expr} {g : DG} {gs : List PV → Env' → Sto → Rz Env'} (h1 : LG X W js e g) (h2 : LGs X W js es gs)
    (hs : (assignEach (e :: es) X.env).map (·.2) = assign e X.env :: (assignEach es X.env).map (·.2) := by rfl) : LGs X W js (e :: es) (gCons' g gs) := (pgs_cons h1 h2 hs).impD fun vs σ H Q ⟨ρ, η, μ, ps, en, r, s, q⟩ => by
  cases r with
  | nil => exact q.elim
  | cons r1 r2 =>
    refine ⟨_, _, rfl, ρ, η, μ, _, en, r1, s, (Post.bind q).mono fun σ1 H1 ⟨ρ1, η1, μ1, st, rel, s1, q1⟩ => ?_⟩
    refine ⟨ρ1, η1, μ1, _, rel.1, r2.step st, s1, ?_⟩
    revert q1
    generalize gs _ η1 μ1 = res
    intro q1
    cases res with
    | ok a μ' => exact fun ρ' x H' st' rel' s' => q1 ρ' x H' st' ⟨rel'.1, rel.2.trans rel'.2⟩ s'
    | err C v μ' => exact q1
    | bad => exact q1
theorem lg_tup {es : List Expr} {k n : Nat} {pos : Pos} {gs : List PV → Env' → Sto → Rz Env'} (hc : X.calm = true) (h : LGs X W js es gs)
    (hn : (assignEach es X.env).length = n := by rfl) (hst : (assignEach es X.env).findIdx? (·.1) = none := by rfl) : LG X W js (.Tuple es k pos) (gTupA n gs) := by
  refine ⟨fun pins s σ H v u Q I r hw => ?_⟩
  obtain ⟨ρ, η, μ, p, en, rp, t, q⟩ := hw
  unfold gTupA at q
  cases e : items p μ with
  | none => rw [e] at q; exact q.elim
  | some ps =>
    rw [e] at q
    by_cases c : ps.length = n
    · simp only [if_pos c] at q
      obtain ⟨a, vs, e1, e2, e3⟩ := items_of t rp e
      rcases e2 with e2 | e2
      · exact (pg_tup hc h hn hst).run pins s σ H v u Q I r ⟨a, vs, e1, e2, by rw [← e3.length]; exact c, ρ, η, μ, ps, en, e3, t, q⟩
      · exact (L2.pg_unl hc h hn hst).run pins s σ H v u Q I r ⟨a, vs, e1, e2, by rw [← e3.length]; exact c, ρ, η, μ, ps, en, e3, t, q⟩
    · simp only [if_neg c] at q
      exact q.elim
/-- target = value -/
def sAsg (d : DE) (g : DG) : DS := fun η μ => (d η μ).bind fun p μ1 => (g p η μ1).bind fun η' μ2 => .ok (.nx, η') μ2
theorem asg_of {d : DE} {g : DG} {D : L2.Ends} {σ : L2.St} {H : Hp} (h : TS' X.prog X.w X.K W (sAsg d g) D σ H) : tAsg (T X.prog X.w X.K W d) (TG' X.prog X.w X.K W js g) D σ H := by
  obtain ⟨ρ, η, μ, en, s, q⟩ := h
  refine ⟨ρ, η, μ, en, s, (Post.bind q).mono fun x H1 ⟨ρ1, a, μ1, st, r, s1, q1⟩ => ?_⟩
  refine ⟨ρ1, η, μ1, a, en.step st, r, s1, (Post.bind q1).mono fun σ2 H2 ⟨ρ2, η2, μ2, st2, r2, s2, q2⟩ => ?_⟩
  exact q2 ρ2 (.nx σ2) H2 Step.refl (.nx r2.1) s2
theorem ls_asg {tg e : Expr} {d : DE} {g : DG} {pos : Pos} (he : LE X W e d) (hg : LG X W js tg g) (hs : swapsWithSole [tg] e pos.line X.env = pure false := by rfl) (hw : swappedStores [tg] e X.env = pure none := by rfl)
    (h1 : (assignEach [tg] X.env).map (·.2) = [assign tg X.env] := by rfl) : LS X W (.Assign [tg] e pos) (sAsg d g) := (ps_asg he hg hs hw h1).impD fun D σ H h => asg_of h
/-- a, b = x, y -/
def sPar (i j : Nat) (ds : DA) : DS := fun η μ => (ds η μ).bind fun ps μ1 => match ps with
  | [p, q] => .ok (.nx, (η.set i (some p)).set j (some q)) μ1
  | _ => .bad
theorem ls_par {i j : Nat} {x y : Str} {a b : Expr} {ds : DA} {px py pt : Pos} {kt k2 : Nat} {pt2 pos : Pos} (hc : X.calm = true) (hN : X.N.Nodup) (hi : X.N[i]? = some x) (hj : X.N[j]? = some y) (hij : i ≠ j)
    (hx : X.env.scope.names.lookup x = some .local) (hy : X.env.scope.names.lookup y = some .local) (ha : LA X W [a, b] ds)
    (hw : swappedStores [.Tuple [.Name x px, .Name y py] kt pt] (.Tuple [a, b] k2 pt2) X.env = pure (some [x, y]))
    (hs : swapsWithSole [.Tuple [.Name x px, .Name y py] kt pt] (.Tuple [a, b] k2 pt2) pos.line X.env = pure false := by rfl) :
    LS X W (.Assign [.Tuple [.Name x px, .Name y py] kt pt] (.Tuple [a, b] k2 pt2) pos) (sPar i j ds) := (ps_par hc hN hi hj hij hx hy ha hw hs).impD fun D σ H ⟨ρ, η, μ, en, s, q⟩ => by
  refine ⟨ρ, η, μ, en, s, (Post.bind q).mono fun xs H1 ⟨ρ1, ps, μ1, st, r, s1, q1⟩ => ?_⟩
  cases r with
  | nil => exact q1.elim
  | cons r1 r2 =>
    cases r2 with
    | nil => exact q1.elim
    | cons r2 r3 =>
      cases r3 with
      | nil => exact ⟨_, _, rfl, q1 ρ1 (.nx _) H1 Step.refl (.nx (((en.step st).set r1 i).set r2 j)) s1⟩
      | cons _ _ => exact q1.elim
def sPar3 (i j l : Nat) (ds : DA) : DS := fun η μ => (ds η μ).bind fun ps μ1 => match ps with
  | [p, q, r] => .ok (.nx, ((η.set i (some p)).set j (some q)).set l (some r)) μ1
  | _ => .bad
end
end DL
/-! D5: loops, comprehensions -/
namespace DL
open PySem PySem.Spec PyProof.Rows L2

/-- what is walked: the items, and what must stand at each turn -/
structure Wk (P : Program) (w : World) (K : PySem.W.Frag) (J : It) (ρ0 : List Addr) (H0 : Hp) (its : List PV) (gd : Sto → Bool) : Prop where
  go : ∀ (i : Nat) (p : PV) (ρ : List Addr) (H : Hp) (μ : Sto), Grow K ρ0 H0 ρ H → RSt P w K ρ H μ → gd μ = true → its[i]? = some p →
    J.go i H ∧ ∀ x H', J.yld i H x H' → Step K ρ H ρ H' ∧ RSt P w K ρ H' μ ∧ RV K ρ H' p x
  stop : ∀ (ρ : List Addr) (H : Hp) (μ : Sto), Grow K ρ0 H0 ρ H → RSt P w K ρ H μ → gd μ = true → J.stop its.length H
abbrev DI := Env' → Sto → Rz (List PV × (Sto → Bool))
section
variable (P : Program) (w : World) (K : PySem.W.Frag) (W : EW)
def RI (ρ : List Addr) (H : Hp) (x : List PV × (Sto → Bool)) (J : It) : Prop := Wk P w K J ρ H x.1 x.2
def TI' (d : DI) : TI := fun σ H R => ∃ ρ η μ, REnv K ρ H η σ ∧ RSt P w K ρ H μ ∧ Post P w K W ρ H (d η μ) (RI P w K) R
end
abbrev LI (X : Cx) (W : EW) (tg it : Expr) (d : DI) : Prop := PI X tg it (TI' X.prog X.w X.K W d)
theorem _root_.L2.PI.impD {X : Cx} {tg e : Expr} {t t' : TI} (h : PI X tg e t) (i : ∀ σ H R, t' σ H R → t σ H R) : PI X tg e t' := ⟨fun pins s σ H R I hw => h.run pins s σ H R I (i _ _ _ hw)⟩

/-! ### for -/
def forGo (gd : Sto → Bool) (g : DG) (body : DS) : List PV → Env' → Sto → Rz (Out × Env')
  | [], η, μ => if gd μ = true then .ok (.nx, η) μ else .bad
  | p :: rest, η, μ => if gd μ = true then (g p η μ).bind fun η1 μ1 => (body η1 μ1).bind fun o μ2 => match o.1 with
      | .nx => forGo gd g body rest o.2 μ2
      | .ct => forGo gd g body rest o.2 μ2
      | .bk => .ok (.nx, o.2) μ2
      | .rt v => .ok (.rt v, o.2) μ2
    else .bad
def sFor (di : DI) (g : DG) (body : DS) : DS := fun η μ => (di η μ).bind fun x μ1 => forGo x.2 g body x.1 η μ1
section
variable {X : Cx} {W : EW} {js : List Nat}
theorem ls_for {tg iter : Expr} {body : List Stmt} {di : DI} {g : DG} {db : DS} {pos : Pos} (hp : PassesOwn (model X.prog X.w) X.A X.env X.xe) (hc : X.calm = true) (hi : LI X W tg iter di) (hg : LG X W js tg g) (hb : LSs X W body db)
    (hs : ∀ x, foldedSetIterable iter X.env x = pure x := by intro _; rfl) : LS X W (.For tg iter body [] pos) (sFor di g db) := (ps_for hp hc hi hg hb hs).impD fun D σ H ⟨ρ, η, μ, en, s, q⟩ => by
  refine ⟨ρ, η, μ, en, s, (Post.bind q).mono fun J H1 ⟨ρ1, a, μ1, st, wk, s1, q1⟩ => ?_⟩
  obtain ⟨its, gd⟩ := a
  have wk : Wk X.prog X.w X.K J ρ1 H1 its gd := wk
  refine ⟨fun i m σ H => i + m = its.length ∧ ∃ ρ2 η μ2, Grow X.K ρ1 H1 ρ2 H ∧ REnv X.K ρ2 H η σ ∧ RSt X.prog X.w X.K ρ2 H μ2 ∧ Post X.prog X.w X.K W ρ2 H (forGo gd g db (its.drop i) η μ2) (RO X.K) (endQ D), ⟨its.length, Nat.zero_add _, ρ1, η, μ1, Step.refl.grow, en.step st, s1, q1⟩, ?_⟩
  rintro i m σ2 H2 ⟨hm, ρ2, η2, μ2, gr, en2, s2, q2⟩
  cases e : its.drop i with
  | nil =>
    left
    rw [e] at q2
    unfold forGo at q2
    by_cases c : gd μ2 = true
    · rw [if_pos c] at q2
      have hl : its.length ≤ i := List.drop_eq_nil_iff.mp e
      exact ⟨(show i = its.length by omega) ▸ wk.stop ρ2 H2 μ2 gr s2 c, q2 ρ2 (.nx σ2) H2 Step.refl (.nx en2) s2⟩
    · rw [if_neg c] at q2
      exact q2.elim
  | cons p rest =>
    right
    have hp : its[i]? = some p := by
      have := congrArg (fun l => l[0]?) e
      simpa using this
    have hr : its.drop (i + 1) = rest := by
      rw [← List.drop_drop, e]
      rfl
    have hi : i < its.length := (List.getElem?_eq_some_iff.mp hp).1
    rw [e] at q2
    unfold forGo at q2
    by_cases c : gd μ2 = true
    · rw [if_pos c] at q2
      obtain ⟨h1, h2⟩ := wk.go i p ρ2 H2 μ2 gr s2 c hp
      refine ⟨h1, fun σ' H' => (i + 1) + (m - 1) = its.length ∧ ∃ ρ2 η μ2, Grow X.K ρ1 H1 ρ2 H' ∧ REnv X.K ρ2 H' η σ' ∧ RSt X.prog X.w X.K ρ2 H' μ2 ∧ Post X.prog X.w X.K W ρ2 H' (forGo gd g db rest η μ2) (RO X.K) (endQ D), fun σ' H' ⟨k1, k2⟩ => ⟨m - 1, by omega, k1, by rw [hr]; exact k2⟩, fun x H3 hy => ?_⟩
      obtain ⟨st3, s3, r3⟩ := h2 x H3 hy
      refine ⟨ρ2, η2, μ2, p, en2.step st3, r3, s3, (Post.bind (Post.step st3 q2)).mono fun σ4 H4 ⟨ρ4, η4, μ4, st4, rel4, s4, q4⟩ => ?_⟩
      refine ⟨ρ4, η4, μ4, rel4.1, s4, (Post.bind q4).mono fun x5 H5 ⟨ρ5, o5, μ5, st5, rel5, s5, q5⟩ => ?_⟩
      have gr5 : Grow X.K ρ1 H1 ρ5 H5 := ⟨fun j a ha => st5.get (st4.get (st3.get (gr.get j a ha))), fun b xs hb => st5.tup _ _ (st4.tup _ _ (st3.tup _ _ (gr.tup _ _ hb))), ((gr.dct.trans st3.dct).trans st4.dct).trans st5.dct⟩
      cases rel5 with
      | nx en5 => exact ⟨by omega, ρ5, _, μ5, gr5, en5, s5, q5⟩
      | ct en5 => exact ⟨by omega, ρ5, _, μ5, gr5, en5, s5, q5⟩
      | bk en5 => exact q5 ρ5 (.nx _) H5 Step.refl (.nx en5) s5
      | rt r5 => exact q5 ρ5 (.rt _) H5 Step.refl (.rt r5) s5
    · rw [if_neg c] at q2
      exact q2.elim
end

/-! ### while, with so many turns at most -/
def whileGo (c : DT) (body : DS) : Nat → Env' → Sto → Rz (Out × Env')
  | 0, _, _ => .bad
  | n + 1, η, μ => (c η μ).bind fun k μ1 => if k = true then (body η μ1).bind fun o μ2 => match o.1 with
      | .nx => whileGo c body n o.2 μ2
      | .ct => whileGo c body n o.2 μ2
      | .bk => .ok (.nx, o.2) μ2
      | .rt v => .ok (.rt v, o.2) μ2
    else .ok (.nx, η) μ1
def sWhile (n : Nat) (c : DT) (body : DS) : DS := fun η μ => whileGo c body n η μ
section
variable {X : Cx} {W : EW}
theorem ls_while {c : Expr} {body : List Stmt} {dc : DT} {db : DS} {n : Nat} {pos : Pos} (hp : PassesOwn (model X.prog X.w) X.A X.env X.xe) (hc : LT X W c dc) (hb : LSs X W body db) :
    LS X W (.While c body [] pos) (sWhile n dc db) := (ps_while hp hc hb).impD fun D σ H ⟨ρ, η, μ, en, s, q⟩ => by
  refine ⟨fun m σ H => ∃ ρ η μ, REnv X.K ρ H η σ ∧ RSt X.prog X.w X.K ρ H μ ∧ Post X.prog X.w X.K W ρ H (whileGo dc db m η μ) (RO X.K) (endQ D), ⟨n, ρ, η, μ, en, s, q⟩, ?_⟩
  rintro m σ2 H2 ⟨ρ2, η2, μ2, en2, s2, q2⟩
  cases m with
  | zero => exact q2.elim
  | succ m =>
    unfold whileGo at q2
    refine ⟨ρ2, η2, μ2, en2, s2, (Post.bind q2).mono fun k H3 ⟨ρ3, k', μ3, st3, rel3, s3, q3⟩ => ?_⟩
    subst rel3
    by_cases c : k' = true
    · rw [if_pos c] at q3 ⊢
      refine ⟨fun σ' H' => ∃ ρ η μ, REnv X.K ρ H' η σ' ∧ RSt X.prog X.w X.K ρ H' μ ∧ Post X.prog X.w X.K W ρ H' (whileGo dc db m η μ) (RO X.K) (endQ D), fun σ' H' k => ⟨m, Nat.lt_succ_self m, k⟩, ?_⟩
      refine ⟨ρ3, η2, μ3, en2.step st3, s3, (Post.bind q3).mono fun x5 H5 ⟨ρ5, o5, μ5, st5, rel5, s5, q5⟩ => ?_⟩
      cases rel5 with
      | nx en5 => exact ⟨ρ5, _, μ5, en5, s5, q5⟩
      | ct en5 => exact ⟨ρ5, _, μ5, en5, s5, q5⟩
      | bk en5 => exact q5 ρ5 (.nx _) H5 Step.refl (.nx en5) s5
      | rt r5 => exact q5 ρ5 (.rt _) H5 Step.refl (.rt r5) s5
    · rw [if_neg c] at q3 ⊢
      exact q3 ρ3 (.nx σ2) H3 Step.refl (.nx (en2.step st3)) s3
end

/-! ### list comprehensions -/
/-- nothing is raised -/
def EW0 : EW := fun _ _ _ _ _ => False
/-- an error that would leave a comprehension is not served -/
def calmR {α : Type} (r : Rz α) : Rz α := match r with
  | .ok a μ => .ok a μ
  | _ => .bad
theorem Post.calm {α β : Type} {P : Program} {w : World} {K : PySem.W.Frag} {W W' : EW} {ρ : List Addr} {H : Hp} {r : Rz α} {Rel : List Addr → Hp → α → β → Prop} {Q : β → Hp → Prop} (h : Post P w K W ρ H (calmR r) Rel Q) : Post P w K W' ρ H r Rel Q := by
  cases r with
  | ok a μ => exact h
  | err C v μ => exact h.elim
  | bad => exact h
def lcGo (gd : Sto → Bool) (g : DG) (tt : DT) (el : Env' → Sto → List PV → Rz (List PV)) (η : Env') : List PV → List PV → Sto → Rz (List PV)
  | [], acc, μ => if gd μ = true then .ok acc μ else .bad
  | p :: rest, acc, μ => if gd μ = true then (calmR (g p η μ)).bind fun η1 μ1 => (calmR (tt η1 μ1)).bind fun k μ2 =>
      if k = true then (calmR (el η1 μ2 acc)).bind fun acc' μ3 => lcGo gd g tt el η rest acc' μ3
      else lcGo gd g tt el η rest acc μ2
    else .bad
/-- one more item -/
def elOne (d : DE) : Env' → Sto → List PV → Rz (List PV) := fun η μ acc => if acc.length < sizeLine then (d η μ).bind fun p μ1 => .ok (acc ++ [p]) μ1 else .bad
def tYes' : DT := fun _ μ => .ok true μ
/-- the list is handed back -/
def lcEnd : List PV → Sto → Rz PV := fun acc μ => .ok (.ref μ.length) (μ ++ [.lst acc])
def dLc (di : DI) (g : DG) (tt : DT) (d : DE) (vs : List Nat) : DE := fun η μ => (di η μ).bind fun x μ1 => (lcGo x.2 g tt (elOne d) (wipeE η vs) x.1 [] μ1).bind lcEnd
abbrev LTs (X : Cx) (W : EW) (ifs : List Expr) (d : DT) : Prop := PTs X ifs (TB X.prog X.w X.K W d)
theorem _root_.L2.PTs.impD {X : Cx} {ifs : List Expr} {t t' : TT} (h : PTs X ifs t) (i : ∀ σ H Q, t' σ H Q → t σ H Q) : PTs X ifs t' := ⟨fun pins s σ H Q I hw => h.run pins s σ H Q I (i _ _ _ hw)⟩
section
variable {X : Cx} {W : EW}
theorem lts_nil : LTs X W [] tYes' := pts_nil.impD fun σ H Q ⟨ρ, η, μ, en, s, q⟩ => q ρ true H Step.refl rfl s
theorem lts_one {c : Expr} {d : DT} (h : LT X W c d) : LTs X W [c] d := pts_one h
/-- the list that grows is held apart -/
theorem tb_keep {d : DT} {P : Program} {w : World} {K : PySem.W.Frag} {W' : EW} {ρ : List Addr} {η : Env'} {μ : Sto} {σ : L2.St} {H : Hp} {Q : Bool → Hp → Prop} (en : REnv K ρ H η σ) (s : RSt P w K ρ H μ) (h : Post P w K W' ρ H (d η μ) RB Q) : TB P w K W' d σ H Q := ⟨ρ, η, μ, en, s, h⟩
end
/-- the invariant of a comprehension's loop: D is the list that grows, acc what it holds -/
structure LcI (P : Program) (w : World) (K : PySem.W.Frag) (ρ1 : List Addr) (H1 : Hp) (D : Addr) (ρ : List Addr) (H : Hp) (μ : Sto) (acc : List PV) : Prop where
  st : Step K ρ1 H1 ρ H
  rs : RSt P w K ρ H μ
  nD : D ∉ ρ
  at_ : ∃ vs, H D = some (.lst vs) ∧ RVs K ρ H acc vs
section
variable {P : Program} {w : World} {K : PySem.W.Frag} {ρ1 ρ ρ' : List Addr} {H1 H H' : Hp} {D : Addr} {μ μ' : Sto} {acc : List PV}
theorem LcI.step (x : LcI P w K ρ1 H1 D ρ H μ acc) (st : Step K ρ H ρ' H') (s : RSt P w K ρ' H' μ') : LcI P w K ρ1 H1 D ρ' H' μ' acc := by
  obtain ⟨vs, hD, r⟩ := x.at_
  refine ⟨x.st.trans st, s, fun hm => ?_, vs, st.keep D _ hD x.nD, r.step st⟩
  obtain ⟨more, e, f⟩ := st.ext
  rw [e] at hm
  rcases List.mem_append.mp hm with hm | hm
  · exact x.nD hm
  · rw [f D hm] at hD
    cases hD
theorem LcI.push (x : LcI P w K ρ1 H1 D ρ H μ acc) (h0 : H1 D = none) {p : PV} {y : V} (r : RV K ρ H p y) : ∃ vs, H D = some (.lst vs) ∧ vs.length = acc.length ∧ LcI P w K ρ1 H1 D ρ (upd H D (.lst (vs ++ [y]))) μ (acc ++ [p]) := by
  obtain ⟨vs, hD, rs⟩ := x.at_
  have hm : Mut (H D) := by rw [hD]; trivial
  have gr : Grow K ρ H ρ (upd H D (.lst (vs ++ [y]))) := Grow.write hm (DW.lst hD)
  exact ⟨vs, hD, rs.length.symm, x.st.over h0 hm (DW.lst hD), x.rs.over x.nD hm (DW.lst hD), x.nD, _, upd_same, (rs.append (.cons r .nil)).grow gr⟩
theorem LcI.start (s : RSt P w K ρ1 H1 μ) (h0 : H1 D = none) : LcI P w K ρ1 H1 D ρ1 (upd H1 D (.lst [])) μ [] :=
  ⟨Step.quiet h0, s.quiet h0, s.fresh h0, [], upd_same, .nil⟩
theorem LcI.done (x : LcI P w K ρ1 H1 D ρ H μ acc) (h0 : H1 D = none) {W : EW} {Q : VK} (q : Post P w K W ρ1 H1 (.ok (.ref μ.length) (μ ++ [.lst acc])) (RV K) Q) : Q (.ref D) H := by
  obtain ⟨vs, hD, rs⟩ := x.at_
  have gr : Grow K ρ H (ρ ++ [D]) H := ⟨fun i a ha => by
    rw [List.getElem?_append_left (List.getElem?_eq_some_iff.mp ha).1]
    exact ha, fun _ _ h => h, DKeep.refl⟩
  obtain ⟨more, e, f⟩ := x.st.ext
  refine q (ρ ++ [D]) (.ref D) H ⟨⟨more ++ [D], by rw [e, List.append_assoc], fun p hp => ?_⟩, x.st.keep, x.st.tup, x.st.live, x.st.dct⟩ (.ref ?_) ⟨by simp [x.rs.len], ?_, fun i a o ha ho => ?_⟩
  · rcases List.mem_append.mp hp with hp | hp
    · exact f p hp
    · rw [List.mem_singleton.mp hp]
      exact h0
  · rw [x.rs.len, List.getElem?_append_right (Nat.le_refl _), Nat.sub_self]
    rfl
  · rw [List.nodup_append]
    refine ⟨x.rs.nd, by simp, fun a ha b hb => ?_⟩
    rw [List.mem_singleton.mp hb]
    exact fun e => x.nD (e ▸ ha)
  · by_cases hi : i < ρ.length
    · rw [List.getElem?_append_left hi] at ha
      rw [List.getElem?_append_left (by rw [x.rs.len]; exact hi)] at ho
      exact (x.rs.obj i a o ha ho).step gr fun _ h => h
    · have e : i = ρ.length := by
        have := (List.getElem?_eq_some_iff.mp ha).1
        simp at this
        omega
      subst e
      rw [List.getElem?_append_right (Nat.le_refl _), Nat.sub_self] at ha
      rw [List.getElem?_append_right (by rw [x.rs.len]; exact Nat.le_refl _), x.rs.len, Nat.sub_self] at ho
      cases ha
      cases ho
      exact ⟨vs, hD, rs.grow gr⟩
end
section
variable {X : Cx} {W : EW} {js : List Nat}
theorem lc_of {di : DI} {g : DG} {tt : DT} {d : DE} {vs : List Nat} {σ : L2.St} {H : Hp} {Q : VK} (hj : ∀ i ∈ js, i ∈ vs) (h : T X.prog X.w X.K W (dLc di g tt d vs) σ H Q) :
    tLc (TI' X.prog X.w X.K W di) (TG' X.prog X.w X.K EW0 js g) (TB X.prog X.w X.K EW0 tt) (T X.prog X.w X.K EW0 d) vs σ H Q := by
  obtain ⟨ρ, η, μ, en, s, q⟩ := h
  refine ⟨ρ, η, μ, en, s, (Post.bind q).mono fun J H1 ⟨ρ1, a, μ1, st, wk, s1, q1⟩ => ?_⟩
  obtain ⟨its, gd⟩ := a
  have wk : Wk X.prog X.w X.K J ρ1 H1 its gd := wk
  have en1 : REnv X.K ρ1 H1 (wipeE η vs) (wipe σ vs) := (en.step st).wipe vs
  intro D hD0
  refine ⟨fun i m H2 => i + m = its.length ∧ ∃ ρ2 μ2 acc, LcI X.prog X.w X.K ρ1 H1 D ρ2 H2 μ2 acc ∧
      Post X.prog X.w X.K W ρ1 H1 ((lcGo gd g tt (elOne d) (wipeE η vs) (its.drop i) acc μ2).bind lcEnd) (RV X.K) Q, ⟨its.length, Nat.zero_add _, ρ1, μ1, [], LcI.start s1 hD0, q1⟩, ?_⟩
  rintro i m H2 ⟨hm, ρ2, μ2, acc, li, q2⟩
  cases e : its.drop i with
  | nil =>
    left
    rw [e] at q2
    unfold lcGo at q2
    by_cases c : gd μ2 = true
    · rw [if_pos c] at q2
      have hl : its.length ≤ i := List.drop_eq_nil_iff.mp e
      exact ⟨(show i = its.length by omega) ▸ wk.stop ρ2 H2 μ2 li.st.grow li.rs c, li.done hD0 q2⟩
    · rw [if_neg c] at q2
      exact q2.elim
  | cons p rest =>
    right
    have hp : its[i]? = some p := by
      have := congrArg (fun l => l[0]?) e
      simpa using this
    have hr : its.drop (i + 1) = rest := by
      rw [← List.drop_drop, e]
      rfl
    have hi : i < its.length := (List.getElem?_eq_some_iff.mp hp).1
    rw [e] at q2
    unfold lcGo at q2
    by_cases c : gd μ2 = true
    · rw [if_pos c] at q2
      obtain ⟨h1, h2⟩ := wk.go i p ρ2 H2 μ2 li.st.grow li.rs c hp
      refine ⟨h1, fun H' => (i + 1) + (m - 1) = its.length ∧ ∃ ρ2 μ2 acc, LcI X.prog X.w X.K ρ1 H1 D ρ2 H' μ2 acc ∧
        Post X.prog X.w X.K W ρ1 H1 ((lcGo gd g tt (elOne d) (wipeE η vs) rest acc μ2).bind lcEnd) (RV X.K) Q, fun H' ⟨k1, k2⟩ => ⟨m - 1, by omega, k1, by rw [hr]; exact k2⟩, fun x H3 hy => ?_⟩
      obtain ⟨st3, s3, r3⟩ := h2 x H3 hy
      have li3 := li.step st3 s3
      have en3 : REnv X.K ρ2 H3 (wipeE η vs) (wipe σ vs) := en1.step li3.st
      cases eg : g p (wipeE η vs) μ2 with
      | ok η1 μ4 =>
        rw [eg] at q2
        refine ⟨ρ2, _, μ2, p, en3, r3, s3, ?_⟩
        rw [eg]
        intro ρ4 σ4 H4 st4 rel4 s4
        have li4 := li3.step st4 s4
        refine ⟨by rw [(rel4.2.mono hj).wipe, wipe_wipe], ?_⟩
        have q2 : Post X.prog X.w X.K W ρ1 H1 (((calmR (tt η1 μ4)).bind fun k μ2 => if k = true then (calmR (elOne d η1 μ2 acc)).bind fun acc' μ3 => lcGo gd g tt (elOne d) (wipeE η vs) rest acc' μ3 else lcGo gd g tt (elOne d) (wipeE η vs) rest acc μ2).bind lcEnd) (RV X.K) Q := q2
        cases et : tt η1 μ4 with
        | ok k μ5 =>
          rw [et] at q2
          refine ⟨ρ4, η1, μ4, rel4.1, s4, ?_⟩
          rw [et]
          intro ρ5 k' H5 st5 rel5 s5
          subst rel5
          have li5 := li4.step st5 s5
          have q2 : Post X.prog X.w X.K W ρ1 H1 ((if k = true then (calmR (elOne d η1 μ5 acc)).bind fun acc' μ3 => lcGo gd g tt (elOne d) (wipeE η vs) rest acc' μ3 else lcGo gd g tt (elOne d) (wipeE η vs) rest acc μ5).bind lcEnd) (RV X.K) Q := q2
          by_cases ck : k = true
          · simp only [if_pos ck] at q2 ⊢
            unfold elOne at q2
            by_cases cl : acc.length < sizeLine
            · simp only [if_pos cl] at q2
              refine ⟨ρ5, η1, μ5, rel4.1.step st5, s5, ?_⟩
              cases ee : d η1 μ5 with
              | ok pe μ6 =>
                rw [ee] at q2
                intro ρ6 y H6 st6 r6 s6
                have li6 := li5.step st6 s6
                obtain ⟨ws, e1, e2, li7⟩ := li6.push hD0 r6
                exact ⟨ws, e1, by rw [e2]; exact cl, by omega, ρ6, μ6, _, li7, q2⟩
              | err C v μ6 => rw [ee] at q2; exact q2.elim
              | bad => rw [ee] at q2; exact q2.elim
            · simp only [if_neg cl] at q2
              exact q2.elim
          · simp only [if_neg ck] at q2 ⊢
            exact ⟨by omega, ρ5, μ5, acc, li5, q2⟩
        | err C v μ5 => rw [et] at q2; exact q2.elim
        | bad => rw [et] at q2; exact q2.elim
      | err C v μ4 => rw [eg] at q2; exact q2.elim
      | bad => rw [eg] at q2; exact q2.elim
    · rw [if_neg c] at q2
      exact q2.elim
end
end DL
/-! D6: defs, calls, methods, classes made, properties -/
namespace DL
open PySem PySem.Spec PyProof.Rows L2

/-- a def keeps this promise: it reckons the function F -/
def spD (P : Program) (w : World) (K : PySem.W.Frag) (n : Nat) (F : VF) : Sp := fun vs H Q _ => vs.length = n ∧ rL P w K EW0 F vs H Q
/-- a def's function by its body: np parameters, n names -/
def fnBody (np n : Nat) (d : DS) : VF := fun ps μ => if ps.length = np then (d (ps.map some ++ List.replicate (n - np) none) μ).bind fun o μ1 => match o.1 with
  | .rt v => .ok v μ1
  | .nx => .ok .non μ1
  | _ => .bad
  else .bad
/-- so many arguments, or none -/
def Ar (n : Nat) (F : VF) : Prop := ∀ ps μ, ps.length ≠ n → F ps μ = .bad
theorem fnBody_ar {np n : Nat} {d : DS} : Ar np (fnBody np n d) := fun ps μ h => if_neg h
theorem Ar.len {n : Nat} {F : VF} (a : Ar n F) {P : Program} {w : World} {K : PySem.W.Frag} {W : EW} {ρ : List Addr} {H : Hp} {ps : List PV} {μ : Sto} {Q : VK} (h : Post P w K W ρ H (F ps μ) (RV K) Q) : ps.length = n := Decidable.byContradiction fun c => by
  rw [a ps μ c] at h
  exact h
theorem REnv.start {K : PySem.W.Frag} {ρ : List Addr} {H : Hp} {ps : List PV} {vs : List V} (r : RVs K ρ H ps vs) (N : List Str) : REnv K ρ H (ps.map some ++ List.replicate (N.length - ps.length) none) (start N vs) := by
  have hl := r.length
  refine ⟨by simp [L2.start, hl], fun i p e => ?_⟩
  unfold L2.start
  by_cases h : i < ps.length
  · rw [List.getElem?_append_left (by simpa using h), List.getElem?_map] at e
    cases q : ps[i]? with
    | none => rw [q] at e; cases e
    | some p' =>
      rw [q] at e
      cases e
      obtain ⟨v, h1, h2⟩ := r.get q
      exact ⟨v, by rw [List.getElem?_append_left (by simpa [← hl] using h), List.getElem?_map, h1]; rfl, h2⟩
  · rw [List.getElem?_append_right (by simpa using Nat.le_of_not_lt h)] at e
    have := List.mem_of_getElem? e
    rw [List.mem_replicate] at this
    cases this.2
section
variable {P : Program} {w : World} {K : PySem.W.Frag} {mg : Str → Option Value} {base : Heap}
theorem fn_ok {x qual : Str} {st : Stmt} {f : Addr} {fd : FuncData} {N ps : List Str} {k : Nat} {d : DS} (F : Fun K x qual st f fd) (S : FnScope N ps (defScope st))
    (h : ∀ (cdv : Value) (A : Around) (outer : List Env) (s : Shared) (H : Hp) (E : XK), Room k (A.deeper (envOfC qual (defScope st) s.heap.objs.size f cdv)) →
      LSs (cxOf CX0 P w K mg base N qual (defScope st) f cdv A outer s H E).nox EW0 (defBody st) d) : FnOk P w K mg base CX0 (k + 1) f fd ps (spD P w K ps.length (fnBody ps.length N.length d)) := by
  refine F.ok S (fun vs H Q E h => h.1) fun cdv A outer s H vs Q E hr hsp => ⟨_, h cdv A outer s H E hr, ?_⟩
  obtain ⟨_, ρ, μ, qs, r, t, q⟩ := hsp
  have hl : qs.length = ps.length := fnBody_ar.len q
  have en0 := REnv.start r N
  rw [hl] at en0
  unfold fnBody at q
  rw [if_pos hl] at q
  refine ⟨ρ, _, μ, en0, t, (Post.bind q).mono fun x H1 ⟨ρ1, o, μ1, st1, rel, s1, q1⟩ => ?_⟩
  cases rel with
  | nx en => exact q1 ρ1 .non H1 Step.refl .non s1
  | rt r1 => exact q1 ρ1 _ H1 Step.refl r1 s1
  | bk en => exact q1.elim
  | ct en => exact q1.elim
end

/-! ### calls -/
/-- an instance of the class at C, without an attribute m -/
def isIns (C : Addr) (m : Str) (o : PV) (μ : Sto) : Bool := match o with
  | .ref i => match μ[i]? with
    | some (.ins D fs) => decide (D = C) && (fs.lookup m).isNone
    | _ => false
  | _ => false
def dMeth (C : Addr) (m : Str) (f : VF) (o : DE) (ds : DA) : DE := fun η μ => (o η μ).bind fun p μ1 => if isIns C m p μ1 = true then (ds η μ1).bind fun ps μ2 => f (p :: ps) μ2 else .bad
/-- C(..) -/
def vMake (C : Addr) (f : VF) : VF := fun ps μ => (f (.ref μ.length :: ps) (μ ++ [.ins C []])).bind fun r μ1 => match r with
  | .non => .ok (.ref μ.length) μ1
  | _ => .bad
/-- e.f, a property -/
def vProp (C : Addr) (f : VF) : VF := fun ps μ => match ps with
  | [.ref i] => match μ[i]? with
    | some (.ins D _) => if D = C then f [.ref i] μ else .bad
    | _ => .bad
  | _ => .bad
theorem lookup_none {fs : List (Str × PV)} {gs : List (Str × V)} {m : Str} : gs.map (·.1) = fs.map (·.1) → fs.lookup m = none → gs.lookup m = none := by
  induction fs generalizing gs with
  | nil =>
    intro e _
    cases gs with
    | nil => rfl
    | cons _ _ => cases e
  | cons f fs ih =>
    intro e h
    cases gs with
    | nil => cases e
    | cons g gs =>
      injection e with e1 e2
      obtain ⟨k, v⟩ := g
      obtain ⟨k', p⟩ := f
      have e1 : k = k' := e1
      subst e1
      cases c : (m == k) with
      | true => simp only [List.lookup, c] at h; cases h
      | false =>
        simp only [List.lookup, c] at h ⊢
        exact ih e2 h
theorem isIns_of {P : Program} {w : World} {K : PySem.W.Frag} {ρ : List Addr} {H : Hp} {μ : Sto} {C : Addr} {m : Str} {o : PV} {v : V} (s : RSt P w K ρ H μ) (r : RV K ρ H o v) (h : isIns C m o μ = true) :
    ∃ a dx gs, v = .ref a ∧ H a = some (.ins C dx gs) ∧ gs.lookup m = none := by
  cases r with
  | @ref i a ha =>
    have h : (match μ[i]? with | some (.ins D fs) => decide (D = C) && (fs.lookup m).isNone | _ => false) = true := h
    cases e : μ[i]? with
    | none => rw [e] at h; cases h
    | some ob =>
      rw [e] at h
      cases ob with
      | ins D fs =>
        simp only [Bool.and_eq_true, decide_eq_true_eq] at h
        obtain ⟨rfl, h2⟩ := h
        obtain ⟨dx, gs, h3, h4, h5⟩ := s.obj i a _ ha e
        exact ⟨a, dx, gs, rfl, h3, lookup_none h4 (by simpa using h2)⟩
      | _ => cases h
  | _ => cases h
section
variable {X : Cx} {k n : Nat} {f C g p0 : Addr} {fd : FuncData} {ps : List Str} {F : VF} {x m : Str} {p pos apos : Pos} {e o : Expr} {es : List Expr} {ds : DA} {d : DE}
theorem sp_of {vs : List V} {H : Hp} {Q : VK} (hF : Ar n F) (h : rL X.prog X.w X.K EW0 F vs H Q) (E : XK := E0) : spD X.prog X.w X.K n F (vs ++ []) H Q E := by
  obtain ⟨ρ, μ, qs, r, t, q⟩ := h
  rw [List.append_nil]
  exact ⟨by rw [← r.length]; exact hF.len q, ρ, μ, qs, r, t, q⟩
theorem le_call (G : FnOk X.prog X.w X.K X.mg X.base CX0 k f fd ps (spD X.prog X.w X.K n F)) (hF : Ar n F) (hr : Room k X.A) (hg : Gl X x) (hm : X.mg x = some (.ref f)) (hk : PySem.W.keepIn X.K (.ref f) = true) (hb : Binds X.K fd ps []) (ha : LA X EW0 (e :: es) ds)
    (hdb : (x == ("__debug__" : Str)) = false := by decide) (he : starEach (e :: es) X.env = (false, eval e X.env) :: starEach es X.env := by rfl) (hpl : (backTo pos (starEach es X.env)).any (·.1) = false := by rfl) :
    LE X EW0 (.Call (.Name x p) (e :: es) [] pos) (dApp F ds) := (pe_call G hr hg hm hk hb .nil (pass0 (X := X)) ha hdb he hpl).impD fun σ H Q h => (app_of h).mono fun vs H1 h => sp_of hF h
theorem le_call0 (G : FnOk X.prog X.w X.K X.mg X.base CX0 k f fd ps (spD X.prog X.w X.K n F)) (hF : Ar n F) (hr : Room k X.A) (hg : Gl X x) (hm : X.mg x = some (.ref f)) (hk : PySem.W.keepIn X.K (.ref f) = true) (hb : Binds X.K fd ps [])
    (hdb : (x == ("__debug__" : Str)) = false := by decide) : LE X EW0 (.Call (.Name x p) [] [] pos) (dApp F dNil) := (pe_call0 G hr hg hm hk hb .nil (pass0 (X := X)) hdb).impD fun σ H Q h => sp_of hF (tl_nil (app_of h))
theorem le_meth {pl : Sem Bool} (ho : LE X EW0 o d) (c : Cls X.K C) (hm : Meth X.K C m f) (G : FnOk X.prog X.w X.K X.mg X.base CX0 k f fd ps (spD X.prog X.w X.K n F)) (hF : Ar n F) (hr : Room k X.A) (hb : Binds X.K fd ps []) (ha : LA X EW0 (e :: es) ds)
    (hst : starEach (e :: es) X.env = (false, eval e X.env) :: starEach es X.env := by rfl) (hpl : (backTo pos (starEach es X.env)).any (·.1) = false := by rfl)
    (ht : eval (.Call (.Attribute o m apos) (e :: es) [] pos) X.env = (do
      let ov ← eval o X.env
      standAt apos.atName
      let (f, first) ← holding [ov] (getMethod ov m pl)
      callWith pos f first (backTo pos (starEach (e :: es) X.env)) (backToKw pos (keywordEach [] X.env))) := by rfl) :
    LE X EW0 (.Call (.Attribute o m apos) (e :: es) [] pos) (dMeth C m F d ds) := (pe_meth (pl := pl) ho c hm G hr hb .nil (pass0 (X := X)) ha hst hpl ht).impD fun σ H Q ⟨ρ, η, μ, en, s, q⟩ =>
  ⟨ρ, η, μ, en, s, (Post.bind q).mono fun x H1 ⟨ρ1, a, μ1, st, r, s1, q1⟩ => by
    by_cases ci : isIns C m a μ1 = true
    · simp only [if_pos ci] at q1
      obtain ⟨b, dx, gs, e1, e2, e3⟩ := isIns_of s1 r ci
      refine ⟨b, dx, gs, e1, e2, e3, ρ1, η, μ1, en.step st, s1, (Post.bind q1).mono fun vs H2 ⟨ρ2, qs, μ2, st2, r2, s2, q2⟩ => ?_⟩
      exact sp_of (vs := x :: vs) hF ⟨ρ2, μ2, a :: qs, .cons (r.step st2) r2, s2, q2⟩
    · simp only [if_neg ci] at q1
      exact q1.elim⟩
theorem le_meth0 {pl : Sem Bool} (ho : LE X EW0 o d) (c : Cls X.K C) (hm : Meth X.K C m f) (G : FnOk X.prog X.w X.K X.mg X.base CX0 k f fd ps (spD X.prog X.w X.K n F)) (hF : Ar n F) (hr : Room k X.A) (hb : Binds X.K fd ps [])
    (ht : eval (.Call (.Attribute o m apos) [] [] pos) X.env = (do
      let ov ← eval o X.env
      standAt apos.atName
      let (f, first) ← holding [ov] (getMethod ov m pl)
      callWith pos f first (backTo pos (starEach [] X.env)) (backToKw pos (keywordEach [] X.env))) := by rfl) :
    LE X EW0 (.Call (.Attribute o m apos) [] [] pos) (dMeth C m F d dNil) := (pe_meth0 (pl := pl) ho c hm G hr hb .nil (pass0 (X := X)) ht).impD fun σ H Q ⟨ρ, η, μ, en, s, q⟩ =>
  ⟨ρ, η, μ, en, s, (Post.bind q).mono fun x H1 ⟨ρ1, a, μ1, st, r, s1, q1⟩ => by
    by_cases ci : isIns C m a μ1 = true
    · simp only [if_pos ci] at q1
      obtain ⟨b, dx, gs, e1, e2, e3⟩ := isIns_of s1 r ci
      exact ⟨b, dx, gs, e1, e2, e3, sp_of (vs := [x]) hF ⟨ρ1, μ1, [a], .cons r .nil, s1, q1⟩⟩
    · simp only [if_neg ci] at q1
      exact q1.elim⟩
theorem make_of {vs : List V} {H : Hp} {Q : VK} (hF : Ar n F) (h : rL X.prog X.w X.K EW0 (vMake C F) vs H Q) : ∀ x dx, H x = none → H dx = none → dx ≠ x →
    spD X.prog X.w X.K n F (.ref x :: (vs ++ [])) (upd (upd H dx (.own x)) x (.ins C dx [])) (fun v H2 => v = .non ∧ Q (.ref x) H2) E0 := by
  intro x dx hx hdx hne
  obtain ⟨ρ, μ, qs, r, t, q⟩ := h
  have h1 : upd H dx (.own x) x = none := by rw [upd_ne (Ne.symm hne)]; exact hx
  have st : Step X.K ρ H (ρ ++ [x]) (upd (upd H dx (.own x)) x (.ins C dx [])) := (Step.quiet hdx).trans (Step.new h1)
  have s1 : RSt X.prog X.w X.K (ρ ++ [x]) (upd (upd H dx (.own x)) x (.ins C dx [])) (μ ++ [.ins C []]) := (t.quiet hdx).new h1 ⟨dx, [], upd_same, rfl, .nil⟩
  have hid : (ρ ++ [x])[μ.length]? = some x := t.nextId
  refine sp_of (vs := .ref x :: vs) hF ⟨ρ ++ [x], _, .ref μ.length :: qs, .cons (.ref hid) (r.step st), s1, (Post.bind (Post.step st q)).mono fun v H2 ⟨ρ2, b, μ2, st2, r2, s2, q2⟩ => ?_⟩
  cases r2 with
  | non => exact ⟨rfl, q2 ρ2 (.ref x) H2 Step.refl (.ref (st2.get hid)) s2⟩
  | _ => exact q2.elim
theorem le_make (M : Mk X.K C f) (G : FnOk X.prog X.w X.K X.mg X.base CX0 k f fd ps (spD X.prog X.w X.K n F)) (hF : Ar n F) (hr : Room (k + 1) X.A) (hg : Gl X x) (hm : X.mg x = some (.ref C)) (hb : Binds X.K fd ps []) (ha : LA X EW0 (e :: es) ds)
    (hdb : (x == ("__debug__" : Str)) = false := by decide) (he : starEach (e :: es) X.env = (false, eval e X.env) :: starEach es X.env := by rfl) (hpl : (backTo pos (starEach es X.env)).any (·.1) = false := by rfl) :
    LE X EW0 (.Call (.Name x p) (e :: es) [] pos) (dApp (vMake C F) ds) := (pe_make M G hr hg hm hb .nil (pass0 (X := X)) ha hdb he hpl).impD fun σ H Q h => (app_of h).mono fun vs H1 h => make_of hF h
theorem le_make0 (M : Mk X.K C f) (G : FnOk X.prog X.w X.K X.mg X.base CX0 k f fd ps (spD X.prog X.w X.K n F)) (hF : Ar n F) (hr : Room (k + 1) X.A) (hg : Gl X x) (hm : X.mg x = some (.ref C)) (hb : Binds X.K fd ps [])
    (hdb : (x == ("__debug__" : Str)) = false := by decide) : LE X EW0 (.Call (.Name x p) [] [] pos) (dApp (vMake C F) dNil) := (pe_make0 M G hr hg hm hb .nil (pass0 (X := X)) hdb).impD fun σ H Q h => make_of hF (tl_nil (app_of h))
theorem le_prop (ho : LE X EW0 e d) (c : Cls X.K C) (hp : PropOf X.K C m p0 g) (G : FnOk X.prog X.w X.K X.mg X.base CX0 k g fd ps (spD X.prog X.w X.K n F)) (hF : Ar n F) (hr : Room (k + 1) X.A) (hb : Binds X.K fd ps [])
    (hab : attributeBase e m X.env (eval e X.env) = eval e X.env := by rfl) : LE X EW0 (.Attribute e m pos) (dApp (vProp C F) (dCons d dNil)) := (pe_prop ho c hp G hr hb .nil (pass0 (X := X.nox)) hab).impD fun σ H Q h => (app1 h).mono fun x H1 ⟨ρ, μ, qs, r, t, q⟩ => by
  cases r with
  | cons r1 r2 =>
    cases r2
    cases r1 with
    | @ref i a ha =>
      have q : Post X.prog X.w X.K EW0 ρ H1 (match μ[i]? with
        | some (.ins D _) => if D = C then F [.ref i] μ else .bad
        | _ => .bad) (RV X.K) Q := q
      cases e : μ[i]? with
      | none => rw [e] at q; exact q.elim
      | some ob =>
        rw [e] at q
        cases ob with
        | ins D fs =>
          by_cases c : D = C
          · subst c
            simp only [if_true] at q
            obtain ⟨dx, gs, h3, _, _⟩ := t.obj i a _ ha e
            exact ⟨a, dx, gs, rfl, h3, sp_of (vs := [.ref a]) hF ⟨ρ, μ, [.ref i], .cons (.ref ha) .nil, t, q⟩⟩
          · simp only [if_neg c] at q
            exact q.elim
        | _ => exact q.elim
    | _ => exact q.elim
end

/-! ### fields stored -/
/-- o.f = e -/
def putD (f : Str) (v : PV) : List (Str × PV) → List (Str × PV)
  | [] => [(f, v)]
  | (g, x) :: r => if g = f then (g, v) :: r else (g, x) :: putD f v r
def sFldSet (C : Addr) (f : Str) (o v : DE) : DS := fun η μ => (v η μ).bind fun p μ1 => (o η μ1).bind fun q μ2 => match q with
  | .ref i => match μ2[i]? with
    | some (.ins D fs) => if D = C ∧ fs.length < 1000 then .ok (.nx, η) (μ2.set i (.ins C (putD f p fs))) else .bad
    | _ => .bad
  | _ => .bad
theorem putD_rel {K : PySem.W.Frag} {ρ : List Addr} {H : Hp} {f : Str} {p : PV} {v : V} (r : RV K ρ H p v) : ∀ {fs : List (Str × PV)} {gs : List (Str × V)}, gs.map (·.1) = fs.map (·.1) → RVs K ρ H (fs.map (·.2)) (gs.map (·.2)) →
    (putF f v gs).map (·.1) = (putD f p fs).map (·.1) ∧ RVs K ρ H ((putD f p fs).map (·.2)) ((putF f v gs).map (·.2))
  | [], [], _, _ => ⟨rfl, .cons r .nil⟩
  | [], _ :: _, e, _ => by cases e
  | _ :: _, [], e, _ => by cases e
  | (k, p0) :: fs, (k', v0) :: gs, e, rs => by
    injection e with e1 e2
    have e1 : k' = k := e1
    subst e1
    cases rs with
    | cons r1 r2 =>
      unfold putF putD
      by_cases c : k' = f
      · rw [if_pos c, if_pos c]
        exact ⟨by rw [List.map_cons, List.map_cons, e2], .cons r r2⟩
      · rw [if_neg c, if_neg c]
        obtain ⟨h1, h2⟩ := putD_rel r e2 r2
        exact ⟨by rw [List.map_cons, List.map_cons, h1], .cons r1 h2⟩
section
variable {X : Cx} {W : EW} {C : Addr} {f : Str}
theorem ls_fld {o value : Expr} {dO dv : DE} {pos' pos : Pos} (ho : LE X W o dO) (hv : LE X W value dv) (c : Cls X.K C) (nf : NoAttr X.K C f) (hs : swapsWith value (some (.Attribute o f pos')) pos.line X.env = pure false := by rfl) :
    LS X W (.Assign [.Attribute o f pos'] value pos) (sFldSet C f dO dv) := (ps_fld ho hv hs).impD fun D σ H ⟨ρ, η, μ, en, s, q⟩ => by
  refine ⟨ρ, η, μ, en, s, (Post.bind q).mono fun y H1 ⟨ρ1, p, μ1, st, r, s1, q1⟩ => ?_⟩
  refine ⟨ρ1, η, μ1, en.step st, s1, (Post.bind q1).mono fun x H2 ⟨ρ2, b, μ2, st2, r2, s2, q2⟩ => ?_⟩
  cases r2 with
  | @ref i a ha =>
    have q2 : Post X.prog X.w X.K W ρ2 H2 (match μ2[i]? with
      | some (.ins D fs) => if D = C ∧ fs.length < 1000 then .ok (.nx, η) (μ2.set i (.ins C (putD f p fs))) else .bad
      | _ => .bad) (RO X.K) (endQ D) := q2
    cases e : μ2[i]? with
    | none => rw [e] at q2; exact q2.elim
    | some ob =>
      rw [e] at q2
      cases ob with
      | ins E fs =>
        by_cases cc : E = C ∧ fs.length < 1000
        · simp only [if_pos cc] at q2
          obtain ⟨rfl, hl⟩ := cc
          obtain ⟨dx, gs, h3, h4, h5⟩ := s2.obj i a _ ha e
          have hlen : gs.length = fs.length := by
            have := congrArg List.length h4
            simpa using this
          have hm : Mut (H2 a) := by rw [h3]; trivial
          have st3 : Step X.K ρ2 H2 ρ2 (upd H2 a (.ins E dx (putF f y gs))) := Step.write (List.mem_of_getElem? ha) hm (DW.ins h3)
          obtain ⟨k1, k2⟩ := putD_rel (f := f) (r.step st2) h4 h5
          have s3 := s2.write (o := .ins E (putD f p fs)) ha hm (DW.ins h3) ⟨dx, putF f y gs, upd_same, k1, k2.step st3⟩
          exact ⟨a, E, dx, gs, rfl, h3, c, nf, by rw [hlen]; exact hl, q2 ρ2 (.nx σ) _ st3 (.nx (((en.step st).step st2).step st3)) s3⟩
        · simp only [if_neg cc] at q2
          exact q2.elim
      | _ => exact q2.elim
  | _ => exact q2.elim
end
end DL
/-! D7: operators and built-ins by functions -/
namespace DL
open PySem PySem.Spec PyProof.Rows L2

section
variable {K : PySem.W.Frag} {ρ : List Addr} {H : Hp} {P : Program} {w : World} {μ : Sto}
theorem RVs.one {ps : List PV} {x : V} (r : RVs K ρ H ps [x]) : ∃ p, ps = [p] ∧ RV K ρ H p x := by
  cases r with
  | cons r1 r2 => cases r2; exact ⟨_, rfl, r1⟩
theorem RVs.two {ps : List PV} {x y : V} (r : RVs K ρ H ps [x, y]) : ∃ p q, ps = [p, q] ∧ RV K ρ H p x ∧ RV K ρ H q y := by
  cases r with
  | cons r1 r2 =>
    obtain ⟨q, rfl, r3⟩ := r2.one
    exact ⟨_, q, rfl, r1, r3⟩
end

/-! ### arithmetic -/
def isLst (μ : Sto) (i : Nat) : Option (List PV) := match μ[i]? with
  | some (.lst ps) => some ps
  | _ => none
theorem isLst_of {K : PySem.W.Frag} {ρ : List Addr} {H : Hp} {P : Program} {w : World} {μ : Sto} {i : Nat} {a : Addr} {ps : List PV} (s : RSt P w K ρ H μ) (ha : ρ[i]? = some a) (h : isLst μ i = some ps) : ∃ vs, H a = some (.lst vs) ∧ RVs K ρ H ps vs := by
  unfold isLst at h
  cases q : μ[i]? with
  | none => rw [q] at h; cases h
  | some o =>
    rw [q] at h
    cases o with
    | lst xs =>
      cases h
      exact s.obj i a _ ha q
    | _ => cases h
def vAdd : VF := fun xs μ => match xs with
  | [.int i, .int j] => .ok (.int (i + j)) μ
  | [.str x, .str y] => if x.length + y.length ≤ sizeLine then .ok (.str (x ++ y)) μ else .bad
  | [.tup ps, .tup qs] => if ps.length + qs.length ≤ sizeLine then .ok (.tup (ps ++ qs)) μ else .bad
  | [.ref i, .ref j] => match isLst μ i, isLst μ j with
    | some ps, some qs => if ps.length + qs.length ≤ sizeLine then .ok (.ref μ.length) (μ ++ [.lst (ps ++ qs)]) else .bad
    | _, _ => .bad
  | _ => .bad
def vSub : VF := fun xs μ => match xs with
  | [.int i, .int j] => .ok (.int (i - j)) μ
  | _ => .bad
def vMul : VF := fun xs μ => match xs with
  | [.int i, .int j] => if (-(2 ^ 64) < i ∧ i < 2 ^ 64) ∨ (-(2 ^ 64) < j ∧ j < 2 ^ 64) then .ok (.int (i * j)) μ else .bad
  | [.ref i, .int k] => match isLst μ i with
    | some ps => if -(2 ^ 63) ≤ k ∧ k < 2 ^ 63 ∧ ps.length * k.toNat ≤ sizeLine then .ok (.ref μ.length) (μ ++ [.lst (List.replicate k.toNat ps).flatten]) else .bad
    | none => .bad
  | [.tup ps, .int k] => if ps ≠ [] ∧ 2 ≤ k ∧ k ≤ 1000 ∧ ps.length ≤ 1000 then .ok (.tup (List.replicate k.toNat ps).flatten) μ else .bad
  | _ => .bad
def vDiv : VF := fun xs μ => match xs with
  | [.int i, .int j] => if 0 < j ∧ j.natAbs.log2 < 9000 then .ok (.int (i / j)) μ else .bad
  | _ => .bad
def vMod : VF := fun xs μ => match xs with
  | [.int i, .int j] => if 0 < j then .ok (.int (i % j)) μ else .bad
  | _ => .bad
def vPow : VF := fun xs μ => match xs with
  | [.int i, .int j] => if 0 ≤ j ∧ (Builtin.Int.intBits i : Int) * j ≤ 2 ^ 27 then .ok (.int (i ^ j.toNat)) μ else .bad
  | _ => .bad
def vNeg : VF := fun xs μ => match xs with
  | [.int i] => .ok (.int (-i)) μ
  | _ => .bad
section
variable {X : Cx} {W : EW}
/-- the tactic's words: the two values, the function's way -/
theorem o2_of {op : Value → Value → Sem Value} {f : VF} (h : ∀ (pins : List (Addr × Obj)) (s : Shared) (σ : L2.St) (H : Hp) (x y : V) (v u : Value) (Q : VK) (ρ : List Addr) (μ : Sto) (p q : PV), Inv X pins σ H s → RelV x v → RelV y u → RV X.K ρ H p x → RV X.K ρ H q y → RSt X.prog X.w X.K ρ H μ →
    Post X.prog X.w X.K W ρ H (f [p, q] μ) (RV X.K) Q → wpAny (model X.prog X.w) X.A (op v u) (EP X pins σ Q) X.xe s) : O2 X W op f := by
  intro pins s σ H x y v u Q I rx ry ⟨ρ, μ, ps, r, t, q⟩
  obtain ⟨a, b, rfl, r1, r2⟩ := r.two
  exact h pins s σ H x y v u Q ρ μ a b I rx ry r1 r2 t q
theorem o2_add : O2 X W (binaryOp .Add) vAdd := o2_of fun pins s σ H x y v u Q ρ μ p q I rx ry r1 r2 t h => by
  cases r1 with
  | int i =>
    cases r2 with
    | int j => exact op_add pins s σ H _ _ v u Q I rx ry ⟨i, j, rfl, rfl, h ρ _ H Step.refl (.int _) t⟩
    | _ => exact h.elim
  | str a =>
    cases r2 with
    | str b =>
      have h : Post X.prog X.w X.K W ρ H (if a.length + b.length ≤ sizeLine then .ok (.str (a ++ b)) μ else .bad) (RV X.K) Q := h
      by_cases c : a.length + b.length ≤ sizeLine
      · rw [if_pos c] at h
        exact op_add_str pins s σ H _ _ v u Q I rx ry ⟨a, b, rfl, rfl, c, h ρ _ H Step.refl (.str _) t⟩
      · rw [if_neg c] at h
        exact h.elim
    | _ => exact h.elim
  | @tup ps vs a h1 h2 =>
    cases r2 with
    | @tup qs ws b k1 k2 =>
      have h : Post X.prog X.w X.K W ρ H (if ps.length + qs.length ≤ sizeLine then .ok (.tup (ps ++ qs)) μ else .bad) (RV X.K) Q := h
      by_cases c : ps.length + qs.length ≤ sizeLine
      · rw [if_pos c] at h
        refine op_catA pins s σ H _ _ v u Q I rx ry ⟨a, b, vs, ws, rfl, rfl, h1, k1, by rw [← h2.length, ← k2.length]; exact c, fun e => ?_, fun _ e => ?_, fun _ _ p hp => ok_tup t (h2.append k2) hp h⟩
        · subst e
          cases h2
          exact h ρ _ H Step.refl (.tup k1 k2) t
        · subst e
          cases k2
          rw [List.append_nil] at h
          exact h ρ _ H Step.refl (.tup h1 h2) t
      · rw [if_neg c] at h
        exact h.elim
    | _ => exact h.elim
  | @ref i a ha =>
    cases r2 with
    | @ref j b hb =>
      have h : Post X.prog X.w X.K W ρ H (match isLst μ i, isLst μ j with
        | some ps, some qs => if ps.length + qs.length ≤ sizeLine then .ok (.ref μ.length) (μ ++ [.lst (ps ++ qs)]) else .bad
        | _, _ => .bad) (RV X.K) Q := h
      cases e1 : isLst μ i with
      | none => rw [e1] at h; exact h.elim
      | some ps =>
        cases e2 : isLst μ j with
        | none => rw [e1, e2] at h; exact h.elim
        | some qs =>
          rw [e1, e2] at h
          obtain ⟨vs, h1, h2⟩ := isLst_of t ha e1
          obtain ⟨ws, k1, k2⟩ := isLst_of t hb e2
          by_cases c : ps.length + qs.length ≤ sizeLine
          · simp only [if_pos c] at h
            exact op_cat pins s σ H _ _ v u Q I rx ry ⟨a, b, vs, ws, rfl, rfl, h1, k1, by rw [← h2.length, ← k2.length]; exact c, fun p hp => ok_lst t (h2.append k2) hp h⟩
          · simp only [if_neg c] at h
            exact h.elim
    | _ => exact h.elim
  | _ => exact h.elim
theorem o2_sub : O2 X W (binaryOp .Sub) vSub := o2_of fun pins s σ H x y v u Q ρ μ p q I rx ry r1 r2 t h => by
  cases r1 with
  | int i =>
    cases r2 with
    | int j => exact op_sub pins s σ H _ _ v u Q I rx ry ⟨i, j, rfl, rfl, h ρ _ H Step.refl (.int _) t⟩
    | _ => exact h.elim
  | _ => exact h.elim
theorem o2_mul : O2 X W (binaryOp .Mult) vMul := o2_of fun pins s σ H x y v u Q ρ μ p q I rx ry r1 r2 t h => by
  cases r1 with
  | int i =>
    cases r2 with
    | int j =>
      have h : Post X.prog X.w X.K W ρ H (if (-(2 ^ 64) < i ∧ i < 2 ^ 64) ∨ (-(2 ^ 64) < j ∧ j < 2 ^ 64) then .ok (.int (i * j)) μ else .bad) (RV X.K) Q := h
      by_cases c : (-(2 ^ 64) < i ∧ i < 2 ^ 64) ∨ (-(2 ^ 64) < j ∧ j < 2 ^ 64)
      · rw [if_pos c] at h
        exact op_mul pins s σ H _ _ v u Q I rx ry ⟨i, j, rfl, rfl, c, h ρ _ H Step.refl (.int _) t⟩
      · rw [if_neg c] at h
        exact h.elim
    | _ => exact h.elim
  | @ref i a ha =>
    cases r2 with
    | int k =>
      have h : Post X.prog X.w X.K W ρ H (match isLst μ i with
        | some ps => if -(2 ^ 63) ≤ k ∧ k < 2 ^ 63 ∧ ps.length * k.toNat ≤ sizeLine then .ok (.ref μ.length) (μ ++ [.lst (List.replicate k.toNat ps).flatten]) else .bad
        | none => .bad) (RV X.K) Q := h
      cases e1 : isLst μ i with
      | none => rw [e1] at h; exact h.elim
      | some ps =>
        rw [e1] at h
        obtain ⟨vs, h1, h2⟩ := isLst_of t ha e1
        by_cases c : -(2 ^ 63) ≤ k ∧ k < 2 ^ 63 ∧ ps.length * k.toNat ≤ sizeLine
        · simp only [if_pos c] at h
          exact op_rep pins s σ H _ _ v u Q I rx ry ⟨a, k, vs, rfl, rfl, h1, c.1, c.2.1, by rw [← h2.length]; exact c.2.2, fun p hp => ok_lst t (h2.replicate _) hp h⟩
        · simp only [if_neg c] at h
          exact h.elim
    | _ => exact h.elim
  | @tup ps vs a h1 h2 =>
    cases r2 with
    | int k =>
      have h : Post X.prog X.w X.K W ρ H (if ps ≠ [] ∧ 2 ≤ k ∧ k ≤ 1000 ∧ ps.length ≤ 1000 then .ok (.tup (List.replicate k.toNat ps).flatten) μ else .bad) (RV X.K) Q := h
      by_cases c : ps ≠ [] ∧ 2 ≤ k ∧ k ≤ 1000 ∧ ps.length ≤ 1000
      · rw [if_pos c] at h
        refine op_repT pins s σ H _ _ v u Q I rx ry ⟨a, k, vs, rfl, rfl, h1, fun e => ?_, c.2.1, c.2.2.1, by rw [← h2.length]; exact c.2.2.2, fun p hp => ok_tup t (h2.replicate _) hp h⟩
        subst e
        cases h2
        exact c.1 rfl
      · rw [if_neg c] at h
        exact h.elim
    | _ => exact h.elim
  | _ => exact h.elim
theorem o2_div : O2 X W (binaryOp .FloorDiv) vDiv := o2_of fun pins s σ H x y v u Q ρ μ p q I rx ry r1 r2 t h => by
  cases r1 with
  | int i =>
    cases r2 with
    | int j =>
      have h : Post X.prog X.w X.K W ρ H (if 0 < j ∧ j.natAbs.log2 < 9000 then .ok (.int (i / j)) μ else .bad) (RV X.K) Q := h
      by_cases c : 0 < j ∧ j.natAbs.log2 < 9000
      · rw [if_pos c] at h
        exact op_fdivW pins s σ H _ _ v u Q I rx ry ⟨i, j, rfl, rfl, c, h ρ _ H Step.refl (.int _) t⟩
      · rw [if_neg c] at h
        exact h.elim
    | _ => exact h.elim
  | _ => exact h.elim
theorem o2_mod : O2 X W (binaryOp .Mod) vMod := o2_of fun pins s σ H x y v u Q ρ μ p q I rx ry r1 r2 t h => by
  cases r1 with
  | int i =>
    cases r2 with
    | int j =>
      have h : Post X.prog X.w X.K W ρ H (if 0 < j then .ok (.int (i % j)) μ else .bad) (RV X.K) Q := h
      by_cases c : 0 < j
      · rw [if_pos c] at h
        exact op_mod pins s σ H _ _ v u Q I rx ry ⟨i, j, rfl, rfl, c, h ρ _ H Step.refl (.int _) t⟩
      · rw [if_neg c] at h
        exact h.elim
    | _ => exact h.elim
  | _ => exact h.elim
theorem o2_pow : O2 X W (binaryOp .Pow) vPow := o2_of fun pins s σ H x y v u Q ρ μ p q I rx ry r1 r2 t h => by
  cases r1 with
  | int i =>
    cases r2 with
    | int j =>
      have h : Post X.prog X.w X.K W ρ H (if 0 ≤ j ∧ (Builtin.Int.intBits i : Int) * j ≤ 2 ^ 27 then .ok (.int (i ^ j.toNat)) μ else .bad) (RV X.K) Q := h
      by_cases c : 0 ≤ j ∧ (Builtin.Int.intBits i : Int) * j ≤ 2 ^ 27
      · rw [if_pos c] at h
        obtain ⟨tx, rfl⟩ := rx
        obtain ⟨ty, rfl⟩ := ry
        exact pow_int c.1 c.2 ⟨.int _, H, I.tok _, ⟨_, rfl⟩, h ρ _ H Step.refl (.int _) t⟩
      · rw [if_neg c] at h
        exact h.elim
    | _ => exact h.elim
  | _ => exact h.elim
theorem o1_neg : O1 X W (unaryOp .USub) vNeg := by
  intro pins s σ H x v Q I rx ⟨ρ, μ, ps, r, t, h⟩
  obtain ⟨p, rfl, r1⟩ := r.one
  cases r1 with
  | int i => exact un_neg pins s σ H _ v Q I rx ⟨i, rfl, h ρ _ H Step.refl (.int _) t⟩
  | _ => exact h.elim
end

/-! ### data -/
def pdatL (f : PV → Option PyData) : List PV → Option (List PyData)
  | [] => some []
  | p :: ps => match f p with
    | some d => match pdatL f ps with
      | some ds => some (d :: ds)
      | none => none
    | none => none
/-- a value as data, so deep at most -/
def pdat (μ : Sto) : Nat → PV → Option PyData
  | 0 => fun p => match p with
    | .non => some .none
    | .bl b => some (.bool b)
    | .int i => some (.int i)
    | .str x => some (.str x)
    | _ => none
  | n + 1 => fun p => match p with
    | .non => some .none
    | .bl b => some (.bool b)
    | .int i => some (.int i)
    | .str x => some (.str x)
    | .tup ps => (pdatL (pdat μ n) ps).map .tuple
    | .ref i => match seqAt μ i with
      | some ps => (pdatL (pdat μ n) ps).map .list
      | none => none
    | _ => none
section
variable {K : PySem.W.Frag} {ρ : List Addr} {H : Hp} {P : Program} {w : World} {μ : Sto}
theorem pdatL_of {f : PV → Option PyData} (hf : ∀ p v d, RV K ρ H p v → f p = some d → Dp K H v d) : ∀ {ps : List PV} {vs : List V} {ds : List PyData}, RVs K ρ H ps vs → pdatL f ps = some ds → DpAll K H vs ds
  | _, _, _, .nil, h => by cases h; exact .nil
  | _, _, ds, .cons (p := p) (ps := ps) r t, h => by
    unfold pdatL at h
    cases e : f p with
    | none => rw [e] at h; cases h
    | some d =>
      rw [e] at h
      cases e2 : pdatL f ps with
      | none => rw [e2] at h; cases h
      | some ds' =>
        rw [e2] at h
        cases h
        exact .cons (hf p _ d r e) (pdatL_of hf t e2)
theorem pdat_of (s : RSt P w K ρ H μ) : ∀ (n : Nat) (p : PV) (v : V) (d : PyData), RV K ρ H p v → pdat μ n p = some d → Dp K H v d
  | 0, _, _, _, r, h => by
    cases r with
    | non => cases h; exact .non
    | bl b => cases h; exact .bl b
    | int i => cases h; exact .int i
    | str x => cases h; exact .str x
    | _ => cases h
  | n + 1, _, _, _, r, h => by
    cases r with
    | non => cases h; exact .non
    | bl b => cases h; exact .bl b
    | int i => cases h; exact .int i
    | str x => cases h; exact .str x
    | @tup ps vs a h1 h2 =>
      obtain ⟨ds, e1, rfl⟩ := Option.map_eq_some_iff.mp (show (pdatL (pdat μ n) ps).map PyData.tuple = some _ from h)
      exact .tup h1 (pdatL_of (fun p v d => pdat_of s n p v d) h2 e1)
    | @ref i a ha =>
      have h : (match seqAt μ i with | some ps => (pdatL (pdat μ n) ps).map PyData.list | none => none) = some _ := h
      cases e : seqAt μ i with
      | none => rw [e] at h; cases h
      | some ps =>
        rw [e] at h
        obtain ⟨ds, e1, rfl⟩ := Option.map_eq_some_iff.mp h
        obtain ⟨vs, h1, h2⟩ := seqAt_of s ha e
        exact .lst h1 (pdatL_of (fun p v d => pdat_of s n p v d) h2 e1)
    | _ => cases h
end
/-- p == q of data -/
def vEq : VF := fun xs μ => match xs with
  | [p, q] => match pdat μ 12 p, pdat μ 12 q with
    | some d, some e => if (SeqAt.shaped d && SeqAt.shaped e) = true then .ok (.bl (PyData.eqv d e)) μ else .bad
    | _, _ => .bad
  | _ => .bad
def vNe : VF := fun xs μ => match xs with
  | [p, q] => match pdat μ 12 p, pdat μ 12 q with
    | some d, some e => if (SeqAt.shaped d && SeqAt.shaped e) = true then .ok (.bl (!PyData.eqv d e)) μ else .bad
    | _, _ => .bad
  | _ => .bad
def cmpI (f : Int → Int → Bool) : VF := fun xs μ => match xs with
  | [.int i, .int j] => .ok (.bl (f i j)) μ
  | _ => .bad
def vLt : VF := cmpI fun i j => decide (i < j)
def vLe : VF := cmpI fun i j => decide (i ≤ j)
def vGt : VF := cmpI fun i j => decide (j < i)
def vGe : VF := cmpI fun i j => decide (j ≤ i)
def isNon : PV → Bool
  | .non => true
  | _ => false
/-- x is None, x is True .. -/
def vIs : VF := fun xs μ => match xs with
  | [p, .non] => .ok (.bl (isNon p)) μ
  | [.bl a, .bl b] => .ok (.bl (decide (a = b))) μ
  | _ => .bad
def vIsNot : VF := fun xs μ => match xs with
  | [p, .non] => .ok (.bl (!isNon p)) μ
  | [.bl a, .bl b] => .ok (.bl (!decide (a = b))) μ
  | _ => .bad
/-- one text within another -/
def strIn (x z : Str) : Bool := if x.cps.size = 1 then decide (x.cps.getD 0 0 ∈ z.cps.toList) else !(Builtin.Str.occurrences z x 0 z.length 1).isEmpty
/-- p in a text, a tuple, a list: whether -/
def inSeq (μ : Sto) (p c : PV) : Option Bool := match c with
  | .str z => match p with
    | .str x => some (strIn x z)
    | _ => none
  | _ => match pdat μ 12 p, pdat μ 12 c with
    | some d, some (.list ds) => if (SeqAt.shaped d && SeqAt.shaped (.list ds)) = true then some (ds.any fun z => PyData.eqv z d) else none
    | some d, some (.tuple ds) => if (SeqAt.shaped d && SeqAt.shaped (.tuple ds)) = true then some (ds.any fun z => PyData.eqv z d) else none
    | _, _ => none
section
variable {X : Cx} {W : EW}
theorem o2_eq (hu : X.A.units + 64 < cLine) : O2 X W (compareOp .Eq) vEq := o2_of fun pins s σ H x y v u Q ρ μ p q I rx ry r1 r2 t h => by
  have h : Post X.prog X.w X.K W ρ H (match pdat μ 12 p, pdat μ 12 q with
    | some d, some e => if (SeqAt.shaped d && SeqAt.shaped e) = true then .ok (.bl (PyData.eqv d e)) μ else .bad
    | _, _ => .bad) (RV X.K) Q := h
  cases e1 : pdat μ 12 p with
  | none => rw [e1] at h; exact h.elim
  | some d =>
    cases e2 : pdat μ 12 q with
    | none => rw [e1, e2] at h; exact h.elim
    | some e =>
      rw [e1, e2] at h
      by_cases c : (SeqAt.shaped d && SeqAt.shaped e) = true
      · simp only [if_pos c] at h
        rw [Bool.and_eq_true] at c
        exact op_eqD hu pins s σ H x y v u Q I rx ry ⟨d, e, pdat_of t 12 p x d r1 e1, pdat_of t 12 q y e r2 e2, c.1, c.2, h ρ _ H Step.refl (.bl _) t⟩
      · simp only [if_neg c] at h
        exact h.elim
theorem o2_ne (hu : X.A.units + 64 < cLine) : O2 X W (compareOp .NotEq) vNe := o2_of fun pins s σ H x y v u Q ρ μ p q I rx ry r1 r2 t h => by
  have h : Post X.prog X.w X.K W ρ H (match pdat μ 12 p, pdat μ 12 q with
    | some d, some e => if (SeqAt.shaped d && SeqAt.shaped e) = true then .ok (.bl (!PyData.eqv d e)) μ else .bad
    | _, _ => .bad) (RV X.K) Q := h
  cases e1 : pdat μ 12 p with
  | none => rw [e1] at h; exact h.elim
  | some d =>
    cases e2 : pdat μ 12 q with
    | none => rw [e1, e2] at h; exact h.elim
    | some e =>
      rw [e1, e2] at h
      by_cases c : (SeqAt.shaped d && SeqAt.shaped e) = true
      · simp only [if_pos c] at h
        rw [Bool.and_eq_true] at c
        exact op_neD hu pins s σ H x y v u Q I rx ry ⟨d, e, pdat_of t 12 p x d r1 e1, pdat_of t 12 q y e r2 e2, c.1, c.2, h ρ _ H Step.refl (.bl _) t⟩
      · simp only [if_neg c] at h
        exact h.elim
theorem o2_cmpI {op : CmpOp} {f : Int → Int → Bool} (hr : OpR X (compareOp op) (rI0 fun i j => .bl (f i j))) : O2 X W (compareOp op) (cmpI f) := o2_of fun pins s σ H x y v u Q ρ μ p q I rx ry r1 r2 t h => by
  cases r1 with
  | int i =>
    cases r2 with
    | int j => exact hr pins s σ H _ _ v u Q I rx ry ⟨i, j, rfl, rfl, h ρ _ H Step.refl (.bl _) t⟩
    | _ => exact h.elim
  | _ => exact h.elim
theorem o2_lt : O2 X W (compareOp .Lt) vLt := o2_cmpI op_lt
theorem o2_le : O2 X W (compareOp .LtE) vLe := o2_cmpI op_le
theorem o2_gt : O2 X W (compareOp .Gt) vGt := o2_cmpI op_gt
theorem o2_ge : O2 X W (compareOp .GtE) vGe := o2_cmpI op_ge
theorem rv_none {K : PySem.W.Frag} {ρ : List Addr} {H : Hp} {p : PV} {x : V} (r : RV K ρ H p x) : decide (x = .non) = (isNon p) := by
  cases r with
  | non => rfl
  | _ => exact decide_eq_false fun e => by cases e
theorem o2_is : O2 X W (compareOp .Is) vIs := o2_of fun pins s σ H x y v u Q ρ μ p q I rx ry r1 r2 t h => by
  cases r2 with
  | non =>
    have h : Post X.prog X.w X.K W ρ H (.ok (.bl (isNon p)) μ) (RV X.K) Q := by cases p <;> exact h
    refine op_isN pins s σ H _ _ v u Q I rx ry ⟨rfl, ?_⟩
    rw [rv_none r1]
    exact h ρ _ H Step.refl (.bl _) t
  | bl b =>
    cases r1 with
    | bl a => exact op_isBl pins s σ H _ _ v u Q I rx ry ⟨a, b, rfl, rfl, h ρ _ H Step.refl (.bl _) t⟩
    | _ => exact h.elim
  | _ => cases r1 <;> exact h.elim
theorem o2_isnot : O2 X W (compareOp .IsNot) vIsNot := o2_of fun pins s σ H x y v u Q ρ μ p q I rx ry r1 r2 t h => by
  cases r2 with
  | non =>
    have h : Post X.prog X.w X.K W ρ H (.ok (.bl (!isNon p)) μ) (RV X.K) Q := by cases p <;> exact h
    refine op_notN pins s σ H _ _ v u Q I rx ry ⟨rfl, ?_⟩
    rw [rv_none r1]
    exact h ρ _ H Step.refl (.bl _) t
  | bl b =>
    cases r1 with
    | bl a => exact op_notBl pins s σ H _ _ v u Q I rx ry ⟨a, b, rfl, rfl, h ρ _ H Step.refl (.bl _) t⟩
    | _ => exact h.elim
  | _ => cases r1 <;> exact h.elim
end
end DL
/-! D8: built-in functions, methods of lists and texts -/
namespace DL
open PySem PySem.Spec PyProof.Rows L2

def vInt : VF := fun xs μ => match xs with
  | [.int i] => .ok (.int i) μ
  | [.bl k] => .ok (.int (if k then 1 else 0)) μ
  | [.str a] => match PySem.intText? a with
    | some n => if a.length ≤ 640 then .ok (.int n) μ else .bad
    | none => .bad
  | _ => .bad
def vAbs : VF := fun xs μ => match xs with
  | [.int i] => .ok (.int (if i < 0 then -i else i)) μ
  | _ => .bad
def vMax2 : VF := fun xs μ => match xs with
  | [.int i, .int j] => .ok (.int (if j > i then j else i)) μ
  | _ => .bad
def vMin2 : VF := fun xs μ => match xs with
  | [.int i, .int j] => .ok (.int (if j < i then j else i)) μ
  | _ => .bad
/-- the ints, the bools of a sequence -/
def intsL : List PV → Option (List Int)
  | [] => some []
  | .int i :: r => (intsL r).map (i :: ·)
  | _ => none
def boolsL : List PV → Option (List Bool)
  | [] => some []
  | .bl i :: r => (boolsL r).map (i :: ·)
  | _ => none
def strsL : List PV → Option (List Str)
  | [] => some []
  | .str i :: r => (strsL r).map (i :: ·)
  | _ => none
/-- a function of one list, read so -/
def v1L {α : Type} (g : List PV → Option α) (k : α → PV) : VF := fun xs μ => match xs with
  | [.ref i] => match (seqAt μ i).bind g with
    | some a => .ok (k a) μ
    | none => .bad
  | _ => .bad
def vSum : VF := v1L intsL fun ns => .int ns.sum
def vAny : VF := v1L boolsL fun ns => .bl (ns.any id)
def vAll : VF := v1L boolsL fun ns => .bl (ns.all id)
def vAppend : VF := fun xs μ => match xs with
  | [.ref i, p] => match isLst μ i with
    | some ps => if ps.length < sizeLine then .ok .non (μ.set i (.lst (ps ++ [p]))) else .bad
    | none => .bad
  | _ => .bad
def vExtend : VF := fun xs μ => match xs with
  | [.ref i, .ref j] => match isLst μ i, isLst μ j with
    | some ps, some qs => if ps.length + qs.length ≤ sizeLine then .ok .non (μ.set i (.lst (ps ++ qs))) else .bad
    | _, _ => .bad
  | _ => .bad
def vPop : VF := fun xs μ => match xs with
  | [.ref i] => match isLst μ i with
    | some ps => match ps[ps.length - 1]? with
      | some p => .ok p (μ.set i (.lst ps.dropLast))
      | none => .bad
    | none => .bad
  | [.ref i, .int z] => match isLst μ i with
    | some ps => if -(2 ^ 63) ≤ z ∧ z < 2 ^ 63 then match seqIndex? z ps.length with
        | some k => match ps[k]? with
          | some p => .ok p (μ.set i (.lst (ps.eraseIdx k)))
          | none => .bad
        | none => .bad
      else .bad
    | none => .bad
  | _ => .bad
def vSplit : VF := fun xs μ => match xs with
  | [.str a, .str b] => if (b.length == 0) = false ∧ a.length + 2 ≤ sizeLine then .ok (.ref μ.length) (μ ++ [.lst ((Txt.split a b).map PV.str)]) else .bad
  | _ => .bad
def vJoin : VF := fun xs μ => match xs with
  | [.str a, p] => match (items p μ).bind strsL with
    | some ys => if (ys.map (·.length)).sum + ys.length * a.length ≤ 16777216 then .ok (.str (Txt.join a ys)) μ else .bad
    | none => .bad
  | _ => .bad
def vCount : VF := fun xs μ => match xs with
  | [.str a, .str b] => .ok (.int (Txt.count a b)) μ
  | _ => .bad
def vEndswith : VF := fun xs μ => match xs with
  | [.str a, .str b] => .ok (.bl (Txt.endswith a b)) μ
  | _ => .bad
section
variable {K : PySem.W.Frag} {ρ : List Addr} {H : Hp}
theorem intsL_of : ∀ {ps : List PV} {vs : List V} {ns : List Int}, RVs K ρ H ps vs → intsL ps = some ns → vs = ns.map V.int
  | _, _, _, .nil, h => by cases h; rfl
  | _, _, _, .cons r t, h => by
    cases r with
    | int i =>
      obtain ⟨ms, e, rfl⟩ := Option.map_eq_some_iff.mp (show (intsL _).map (i :: ·) = some _ from h)
      rw [intsL_of t e]
      rfl
    | _ => cases h
theorem boolsL_of : ∀ {ps : List PV} {vs : List V} {ns : List Bool}, RVs K ρ H ps vs → boolsL ps = some ns → vs = ns.map V.bl
  | _, _, _, .nil, h => by cases h; rfl
  | _, _, _, .cons r t, h => by
    cases r with
    | bl i =>
      obtain ⟨ms, e, rfl⟩ := Option.map_eq_some_iff.mp (show (boolsL _).map (i :: ·) = some _ from h)
      rw [boolsL_of t e]
      rfl
    | _ => cases h
theorem strsL_of : ∀ {ps : List PV} {vs : List V} {ns : List Str}, RVs K ρ H ps vs → strsL ps = some ns → vs = ns.map V.str
  | _, _, _, .nil, h => by cases h; rfl
  | _, _, _, .cons r t, h => by
    cases r with
    | str i =>
      obtain ⟨ms, e, rfl⟩ := Option.map_eq_some_iff.mp (show (strsL _).map (i :: ·) = some _ from h)
      rw [strsL_of t e]
      rfl
    | _ => cases h
theorem strs_rel : ∀ ys : List Str, RVs K ρ H (ys.map PV.str) (ys.map V.str)
  | [] => .nil
  | y :: ys => .cons (.str y) (strs_rel ys)
end
section
variable {X : Cx} {W : EW}
theorem oc1_of {v : Value} {f : VF} (h : ∀ (pins : List (Addr × Obj)) (s : Shared) (σ : L2.St) (H : Hp) (xs : List V) (us : List Value) (Q : VK) (ρ : List Addr) (μ : Sto) (ps : List PV), Inv X pins σ H s → Vals xs us → RVs X.K ρ H ps xs → RSt X.prog X.w X.K ρ H μ →
    Post X.prog X.w X.K W ρ H (f ps μ) (RV X.K) Q → wpAny (model X.prog X.w) X.A (call v us) (EP X pins σ Q) X.xe s) : OC X W v f := fun pins s σ H xs us Q I r ⟨ρ, μ, ps, rp, t, q⟩ => h pins s σ H xs us Q ρ μ ps I r rp t q
theorem om_of {id : String} {f : VF} (h : ∀ (pins : List (Addr × Obj)) (s : Shared) (σ : L2.St) (H : Hp) (x : V) (xs : List V) (v : Value) (us : List Value) (Q : VK) (ρ : List Addr) (μ : Sto) (p : PV) (ps : List PV), Inv X pins σ H s → RelV x v → Vals xs us → RV X.K ρ H p x → RVs X.K ρ H ps xs → RSt X.prog X.w X.K ρ H μ →
    Post X.prog X.w X.K W ρ H (f (p :: ps) μ) (RV X.K) Q → wpAny (model X.prog X.w) X.A (call (.builtin id) (v :: us)) (EP X pins σ Q) X.xe s) : OM X W id f := fun pins s σ H x xs v us Q I rx r ⟨ρ, μ, ps, rp, t, q⟩ => by
  cases rp with
  | cons r1 r2 => exact h pins s σ H x xs v us Q ρ μ _ _ I rx r r1 r2 t q
theorem oc_int : OC X W (.type "int") vInt := oc1_of fun pins s σ H xs us Q ρ μ ps I r rp t h => by
  cases rp with
  | nil => exact h.elim
  | cons r1 r2 =>
    cases r2 with
    | nil =>
      cases r1 with
      | int i => exact call_int1 pins s σ H _ us Q I r (.inl ⟨i, rfl, h ρ _ H Step.refl (.int _) t⟩)
      | bl k => exact call_int1 pins s σ H _ us Q I r (.inr ⟨k, rfl, h ρ _ H Step.refl (.int _) t⟩)
      | str a =>
        have h : Post X.prog X.w X.K W ρ H (match PySem.intText? a with | some n => if a.length ≤ 640 then .ok (.int n) μ else .bad | none => .bad) (RV X.K) Q := h
        cases e : PySem.intText? a with
        | none => rw [e] at h; exact h.elim
        | some n =>
          rw [e] at h
          by_cases c : a.length ≤ 640
          · simp only [if_pos c] at h
            exact call_int_str pins s σ H _ us Q I r ⟨a, n, rfl, e, c, h ρ _ H Step.refl (.int _) t⟩
          · simp only [if_neg c] at h
            exact h.elim
      | _ => exact h.elim
    | cons _ _ => cases r1 <;> exact h.elim
theorem oc_abs : OC X W (.builtin "abs") vAbs := oc1_of fun pins s σ H xs us Q ρ μ ps I r rp t h => by
  cases rp with
  | nil => exact h.elim
  | cons r1 r2 =>
    cases r2 with
    | nil =>
      cases r1 with
      | int i => exact call_abs pins s σ H _ us Q I r ⟨i, rfl, h ρ _ H Step.refl (.int _) t⟩
      | _ => exact h.elim
    | cons _ _ => cases r1 <;> exact h.elim
theorem oc_max2 (hc : X.calm = true) : OC X W (.builtin "max") vMax2 := oc1_of fun pins s σ H xs us Q ρ μ ps I r rp t h => by
  cases rp with
  | nil => exact h.elim
  | cons r1 r2 =>
    cases r2 with
    | nil => cases r1 <;> exact h.elim
    | cons r3 r4 =>
      cases r4 with
      | nil =>
        cases r1 with
        | int i =>
          cases r3 with
          | int j => exact call_max2 hc pins s σ H _ us Q I r ⟨i, j, rfl, h ρ _ H Step.refl (.int _) t⟩
          | _ => exact h.elim
        | _ => exact h.elim
      | cons _ _ => cases r1 <;> first | exact h.elim | (cases r3 <;> exact h.elim)
theorem oc_min2 (hc : X.calm = true) : OC X W (.builtin "min") vMin2 := oc1_of fun pins s σ H xs us Q ρ μ ps I r rp t h => by
  cases rp with
  | nil => exact h.elim
  | cons r1 r2 =>
    cases r2 with
    | nil => cases r1 <;> exact h.elim
    | cons r3 r4 =>
      cases r4 with
      | nil =>
        cases r1 with
        | int i =>
          cases r3 with
          | int j => exact call_min2 hc pins s σ H _ us Q I r ⟨i, j, rfl, h ρ _ H Step.refl (.int _) t⟩
          | _ => exact h.elim
        | _ => exact h.elim
      | cons _ _ => cases r1 <;> first | exact h.elim | (cases r3 <;> exact h.elim)
/-- one list -/
theorem list1 {α : Type} {g : List PV → Option α} {k : α → PV} {K : PySem.W.Frag} {ρ : List Addr} {H : Hp} {ps : List PV} {xs : List V} {μ : Sto} {P : Program} {w : World} {Q : VK}
    (rp : RVs K ρ H ps xs) (t : RSt P w K ρ H μ) (h : Post P w K W ρ H (v1L g k ps μ) (RV K) Q) :
    ∃ a vs qs x, xs = [.ref a] ∧ SqL K H a vs ∧ RVs K ρ H qs vs ∧ g qs = some x ∧ Post P w K W ρ H (.ok (k x) μ) (RV K) Q := by
  cases rp with
  | nil => exact h.elim
  | cons r1 r2 =>
    cases r2 with
    | nil =>
      cases r1 with
      | @ref i a ha =>
        have h : Post P w K W ρ H (match (seqAt μ i).bind g with | some a => .ok (k a) μ | none => .bad) (RV K) Q := h
        cases e : seqAt μ i with
        | none => rw [e] at h; exact h.elim
        | some qs =>
          rw [e, Option.bind_some] at h
          obtain ⟨vs, h1, h2⟩ := seqAt_of t ha e
          cases e2 : g qs with
          | none => rw [e2] at h; exact h.elim
          | some x =>
            rw [e2] at h
            exact ⟨a, vs, qs, x, rfl, h1, h2, e2, h⟩
      | _ => exact h.elim
    | cons _ _ => cases r1 <;> exact h.elim
theorem oc_sum (hc : X.calm = true) : OC X W (.builtin "sum") vSum := oc1_of fun pins s σ H xs us Q ρ μ ps I r rp t h => by
  obtain ⟨a, vs, qs, ns, rfl, h1, h2, h3, q⟩ := list1 rp t h
  have e := intsL_of h2 h3
  exact cr_sum hc pins s σ H _ us Q I r ⟨a, ns, rfl, e ▸ h1, q ρ _ H Step.refl (.int _) t⟩
theorem oc_any (hc : X.calm = true) : OC X W (.builtin "any") vAny := oc1_of fun pins s σ H xs us Q ρ μ ps I r rp t h => by
  obtain ⟨a, vs, qs, ns, rfl, h1, h2, h3, q⟩ := list1 rp t h
  have e := boolsL_of h2 h3
  exact cr_any hc pins s σ H _ us Q I r ⟨a, ns, rfl, e ▸ h1, q ρ _ H Step.refl (.bl _) t⟩
theorem oc_all (hc : X.calm = true) : OC X W (.builtin "all") vAll := oc1_of fun pins s σ H xs us Q ρ μ ps I r rp t h => by
  obtain ⟨a, vs, qs, ns, rfl, h1, h2, h3, q⟩ := list1 rp t h
  have e := boolsL_of h2 h3
  exact cr_all hc pins s σ H _ us Q I r ⟨a, ns, rfl, e ▸ h1, q ρ _ H Step.refl (.bl _) t⟩

/-! ### methods of lists -/
theorem write_lst {P : Program} {w : World} {K : PySem.W.Frag} {ρ : List Addr} {H : Hp} {μ : Sto} {i : Nat} {a : Addr} {vs ws : List V} {qs : List PV} (t : RSt P w K ρ H μ) (ha : ρ[i]? = some a) (h : H a = some (.lst vs)) (r : RVs K ρ H qs ws) :
    Step K ρ H ρ (upd H a (.lst ws)) ∧ RSt P w K ρ (upd H a (.lst ws)) (μ.set i (.lst qs)) := by
  have hm : Mut (H a) := by rw [h]; trivial
  have st : Step K ρ H ρ (upd H a (.lst ws)) := Step.write (List.mem_of_getElem? ha) hm (DW.lst h)
  exact ⟨st, t.write ha hm (DW.lst h) ⟨ws, upd_same, r.step st⟩⟩
theorem om_append : OM X W "list.append" vAppend := om_of fun pins s σ H x xs v us Q ρ μ p ps I rx r r1 rp t h => by
  cases r1 with
  | @ref i a ha =>
    cases rp with
    | nil => exact h.elim
    | @cons y yv _ _ r2 r3 =>
      cases r3 with
      | nil =>
        have h : Post X.prog X.w X.K W ρ H (match isLst μ i with
          | some ps => if ps.length < sizeLine then .ok .non (μ.set i (.lst (ps ++ [y]))) else .bad
          | none => .bad) (RV X.K) Q := h
        cases e : isLst μ i with
        | none => rw [e] at h; exact h.elim
        | some qs =>
          rw [e] at h
          obtain ⟨vs, h1, h2⟩ := isLst_of t ha e
          by_cases c : qs.length < sizeLine
          · simp only [if_pos c] at h
            obtain ⟨st, s'⟩ := write_lst t ha h1 (h2.append (.cons r2 .nil))
            exact mt_append pins s σ H _ _ v us Q I rx r ⟨a, vs, _, rfl, rfl, h1, by rw [← h2.length]; exact c, h ρ _ _ st .non s'⟩
          · simp only [if_neg c] at h
            exact h.elim
      | cons _ _ => exact h.elim
  | _ => exact h.elim
theorem om_extend : OM X W "list.extend" vExtend := om_of fun pins s σ H x xs v us Q ρ μ p ps I rx r r1 rp t h => by
  cases r1 with
  | @ref i a ha =>
    cases rp with
    | nil => exact h.elim
    | @cons y yv _ _ r2 r3 =>
      cases r3 with
      | nil =>
        cases r2 with
        | @ref j b hb =>
          have h : Post X.prog X.w X.K W ρ H (match isLst μ i, isLst μ j with
            | some ps, some qs => if ps.length + qs.length ≤ sizeLine then .ok .non (μ.set i (.lst (ps ++ qs))) else .bad
            | _, _ => .bad) (RV X.K) Q := h
          cases e : isLst μ i with
          | none => rw [e] at h; exact h.elim
          | some qs =>
            cases e2 : isLst μ j with
            | none => rw [e, e2] at h; exact h.elim
            | some qs2 =>
              rw [e, e2] at h
              obtain ⟨vs, h1, h2⟩ := isLst_of t ha e
              obtain ⟨ws, k1, k2⟩ := isLst_of t hb e2
              by_cases c : qs.length + qs2.length ≤ sizeLine
              · simp only [if_pos c] at h
                obtain ⟨st, s'⟩ := write_lst t ha h1 (h2.append k2)
                exact mt_extend pins s σ H _ _ v us Q I rx r ⟨a, b, vs, ws, rfl, rfl, h1, k1, by rw [← h2.length, ← k2.length]; exact c, h ρ _ _ st .non s'⟩
              · simp only [if_neg c] at h
                exact h.elim
        | _ => exact h.elim
      | cons _ _ => cases r2 <;> exact h.elim
  | _ => exact h.elim
theorem om_pop : OM X W "list.pop" vPop := om_of fun pins s σ H x xs v us Q ρ μ p ps I rx r r1 rp t h => by
  cases r1 with
  | @ref i a ha =>
    cases rp with
    | nil =>
      have h : Post X.prog X.w X.K W ρ H (match isLst μ i with
        | some ps => match ps[ps.length - 1]? with
          | some p => .ok p (μ.set i (.lst ps.dropLast))
          | none => .bad
        | none => .bad) (RV X.K) Q := h
      cases e : isLst μ i with
      | none => rw [e] at h; exact h.elim
      | some qs =>
        rw [e] at h
        obtain ⟨vs, h1, h2⟩ := isLst_of t ha e
        cases e2 : qs[qs.length - 1]? with
        | none => simp only [e2] at h; exact h.elim
        | some y =>
          simp only [e2] at h
          obtain ⟨yv, k1, k2⟩ := h2.get e2
          obtain ⟨st, s'⟩ := write_lst t ha h1 h2.dropLast
          exact mt_pop pins s σ H _ _ v us Q I rx r ⟨a, vs, yv, rfl, rfl, h1, by rw [← h2.length]; exact k1, h ρ _ _ st (k2.step st) s'⟩
    | @cons y yv _ _ r2 r3 =>
      cases r3 with
      | nil =>
        cases r2 with
        | int z =>
          have h : Post X.prog X.w X.K W ρ H (match isLst μ i with
            | some ps => if -(2 ^ 63) ≤ z ∧ z < 2 ^ 63 then match seqIndex? z ps.length with
                | some k => match ps[k]? with
                  | some p => .ok p (μ.set i (.lst (ps.eraseIdx k)))
                  | none => .bad
                | none => .bad
              else .bad
            | none => .bad) (RV X.K) Q := h
          cases e : isLst μ i with
          | none => rw [e] at h; exact h.elim
          | some qs =>
            rw [e] at h
            obtain ⟨vs, h1, h2⟩ := isLst_of t ha e
            by_cases c : -(2 ^ 63) ≤ z ∧ z < 2 ^ 63
            · simp only [if_pos c] at h
              cases e2 : seqIndex? z qs.length with
              | none => simp only [e2] at h; exact h.elim
              | some k =>
                simp only [e2] at h
                cases e3 : qs[k]? with
                | none => simp only [e3] at h; exact h.elim
                | some y =>
                  simp only [e3] at h
                  obtain ⟨yv, k1, k2⟩ := h2.get e3
                  obtain ⟨st, s'⟩ := write_lst t ha h1 (h2.eraseIdx k)
                  exact mt_popAt pins s σ H _ _ v us Q I rx r ⟨a, vs, z, k, yv, rfl, rfl, h1, c.1, c.2, by rw [← h2.length]; exact e2, k1, h ρ _ _ st (k2.step st) s'⟩
            · simp only [if_neg c] at h
              exact h.elim
        | _ => exact h.elim
      | cons _ _ => cases r2 <;> exact h.elim
  | _ => cases rp with
    | nil => exact h.elim
    | cons r2 r3 => cases r3 <;> first | exact h.elim | (cases r2 <;> exact h.elim)

/-! ### methods of texts -/
theorem om_split : OM X W "str.split" vSplit := om_of fun pins s σ H x xs v us Q ρ μ p ps I rx r r1 rp t h => by
  cases r1 with
  | str a =>
    cases rp with
    | nil => exact h.elim
    | @cons y yv _ _ r2 r3 =>
      cases r3 with
      | nil =>
        cases r2 with
        | str b =>
          have h : Post X.prog X.w X.K W ρ H (if (b.length == 0) = false ∧ a.length + 2 ≤ sizeLine then .ok (.ref μ.length) (μ ++ [.lst ((Txt.split a b).map PV.str)]) else .bad) (RV X.K) Q := h
          by_cases c : (b.length == 0) = false ∧ a.length + 2 ≤ sizeLine
          · rw [if_pos c] at h
            exact mt_split pins s σ H _ _ v us Q I rx r ⟨a, b, rfl, rfl, c.1, c.2, fun p hp => ok_lst t (strs_rel _) hp h⟩
          · rw [if_neg c] at h
            exact h.elim
        | _ => exact h.elim
      | cons _ _ => cases r2 <;> exact h.elim
  | _ => exact h.elim
theorem om_join : OM X W "str.join" vJoin := om_of fun pins s σ H x xs v us Q ρ μ p ps I rx r r1 rp t h => by
  cases r1 with
  | str a =>
    cases rp with
    | nil => exact h.elim
    | @cons y yv _ _ r2 r3 =>
      cases r3 with
      | nil =>
        have h : Post X.prog X.w X.K W ρ H (match (items y μ).bind strsL with
          | some ys => if (ys.map (·.length)).sum + ys.length * a.length ≤ 16777216 then .ok (.str (Txt.join a ys)) μ else .bad
          | none => .bad) (RV X.K) Q := h
        cases e : items y μ with
        | none => rw [e] at h; exact h.elim
        | some qs =>
          rw [e, Option.bind_some] at h
          obtain ⟨b, vs, rfl, h1, h2⟩ := items_of t r2 e
          cases e2 : strsL qs with
          | none => rw [e2] at h; exact h.elim
          | some ys =>
            rw [e2] at h
            have e3 := strsL_of h2 e2
            by_cases c : (ys.map (·.length)).sum + ys.length * a.length ≤ 16777216
            · simp only [if_pos c] at h
              exact mt_join pins s σ H _ _ v us Q I rx r ⟨a, b, ys, rfl, rfl, by rw [← e3]; exact h1.symm, c, h ρ _ H Step.refl (.str _) t⟩
            · simp only [if_neg c] at h
              exact h.elim
      | cons _ _ => exact h.elim
  | _ => exact h.elim
theorem om_count : OM X W "str.count" vCount := om_of fun pins s σ H x xs v us Q ρ μ p ps I rx r r1 rp t h => by
  cases r1 with
  | str a =>
    cases rp with
    | nil => exact h.elim
    | @cons y yv _ _ r2 r3 =>
      cases r3 with
      | nil =>
        cases r2 with
        | str b => exact mt_count pins s σ H _ _ v us Q I rx r ⟨a, b, rfl, rfl, h ρ _ H Step.refl (.int _) t⟩
        | _ => exact h.elim
      | cons _ _ => cases r2 <;> exact h.elim
  | _ => exact h.elim
theorem om_endswith : OM X W "str.endswith" vEndswith := om_of fun pins s σ H x xs v us Q ρ μ p ps I rx r r1 rp t h => by
  cases r1 with
  | str a =>
    cases rp with
    | nil => exact h.elim
    | @cons y yv _ _ r2 r3 =>
      cases r3 with
      | nil =>
        cases r2 with
        | str b => exact mt_endswith pins s σ H _ _ v us Q I rx r ⟨a, b, rfl, rfl, h ρ _ H Step.refl (.bl _) t⟩
        | _ => exact h.elim
      | cons _ _ => cases r2 <;> exact h.elim
  | _ => exact h.elim
end
end DL
/-! D9: dicts -/
namespace DL
open PySem PySem.Spec PyProof.Rows L2

/-- a key that is carried by value -/
def keyOf : PV → Option Key
  | .int i => some (.inl i)
  | .str x => some (.inr x)
  | _ => none
mutual
/-- a key of trees -/
def nkOf : PV → Option NestedKey
  | .non => some .none
  | .int i => some (.num i)
  | .str x => some (.text x)
  | .tup ps => match nksOf ps with
    | some ks => some (.tup ks)
    | none => none
  | .bl _ => none
  | .ref _ => none
  | .ty _ => none
  | .glb _ => none
def nksOf : List PV → Option (List NestedKey)
  | [] => some []
  | p :: ps => match nkOf p, nksOf ps with
    | some k, some ks => some (k :: ks)
    | _, _ => none
end
mutual
theorem nkOf_pv : ∀ {p : PV} {k : NestedKey}, nkOf p = some k → pvN k = p
  | .non, _, h => by cases h; rfl
  | .int i, _, h => by cases h; rfl
  | .str x, _, h => by cases h; rfl
  | .tup ps, k, h => by
    rw [nkOf] at h
    cases e : nksOf ps with
    | none => rw [e] at h; cases h
    | some ks =>
      rw [e] at h
      cases h
      rw [pvN, nksOf_pv e]
  | .bl _, _, h => by cases h
  | .ref _, _, h => by cases h
  | .ty _, _, h => by cases h
  | .glb _, _, h => by cases h
theorem nksOf_pv : ∀ {ps : List PV} {ks : List NestedKey}, nksOf ps = some ks → pvNs ks = ps
  | [], _, h => by cases h; rfl
  | p :: ps, ks, h => by
    rw [nksOf] at h
    cases e : nkOf p with
    | none => rw [e] at h; cases h
    | some k =>
      cases e2 : nksOf ps with
      | none => rw [e, e2] at h; cases h
      | some ks' =>
        rw [e, e2] at h
        cases h
        rw [pvNs, nkOf_pv e, nksOf_pv e2]
end
theorem keyOf_pv {p : PV} {k : Key} (h : keyOf p = some k) : pvK k = p := by
  cases p <;> first | (cases h; rfl) | cases h
theorem pvK_inj {a b : Key} (e : pvK a = pvK b) : a = b := by
  cases a with
  | inl i => cases b with
    | inl j => injection e with e; rw [e]
    | inr y => cases e
  | inr x => cases b with
    | inl j => cases e
    | inr y => injection e with e; rw [e]
mutual
theorem pvN_inj : ∀ {a b : NestedKey}, pvN a = pvN b → a = b
  | .none, b, e => by cases b <;> first | rfl | cases e
  | .num i, b, e => by cases b <;> first | (injection e with e; rw [e]) | cases e
  | .text i, b, e => by cases b <;> first | (injection e with e; rw [e]) | cases e
  | .tup ks, b, e => by
    cases b with
    | tup js => injection e with e; rw [pvNs_inj e]
    | _ => cases e
theorem pvNs_inj : ∀ {a b : List NestedKey}, pvNs a = pvNs b → a = b
  | [], b, e => by cases b <;> first | rfl | cases e
  | k :: ks, b, e => by
    cases b with
    | nil => cases e
    | cons j js => injection e with e1 e2; rw [pvN_inj e1, pvNs_inj e2]
end
def isTup : PV → Bool
  | .tup _ => true
  | _ => false
/-- what may be asked of a dict: a key of its kind -/
def keyIn (kvs : List (PV × PV)) (k : PV) : Bool := (match k with
  | .int _ => true
  | .str _ => true
  | .tup _ => match nkOf k with
    | some n => decide (n.depth ≤ 8)
    | none => false
  | _ => false) && (match kvs with
  | [] => true
  | q :: _ => isTup q.1 == isTup k)
def dget (kvs : List (PV × PV)) (k : PV) : Option PV := (kvs.find? fun kv => decide (kv.1 = k)).map (·.2)
def dput (kvs : List (PV × PV)) (k v : PV) : List (PV × PV) :=
  if (kvs.any fun kv => decide (kv.1 = k)) = true then kvs.map (fun kv => if kv.1 = k then (kv.1, v) else kv) else kvs ++ [(k, v)]
theorem length_dput (kvs : List (PV × PV)) (k v : PV) : (dput kvs k v).length ≤ kvs.length + 1 := by
  unfold dput
  split
  · rw [List.length_map]; omega
  · rw [List.length_append, List.length_cons, List.length_nil]; omega
/-- none and none, or two that belong to one another -/
def RelOp {α β : Type} (R : α → β → Prop) : Option α → Option β → Prop
  | some a, some b => R a b
  | none, none => True
  | _, _ => False

section
variable {κ : Type} [DecidableEq κ] {e : κ → PV} {R : PV → Value → Prop}
abbrev PrE {κ : Type} (e : κ → PV) (R : PV → Value → Prop) : List (PV × PV) → List (κ × Value) → Prop := Paired fun p q => p.1 = e q.1 ∧ R p.2 q.2
theorem pr_get (inj : ∀ {a b : κ}, e a = e b → a = b) {kvs : List (PV × PV)} {vs : List (κ × Value)} (r : PrE e R kvs vs) (k : κ) : RelOp R (dget kvs (e k)) (valueAt vs k) := by
  induction r with
  | nil => exact True.intro
  | @cons p q ps qs h t ih =>
    obtain ⟨h1, h2⟩ := h
    by_cases c : q.1 = k
    · have a : dget (p :: ps) (e k) = some p.2 := by
        have : p.1 = e k := by rw [h1, c]
        simp [dget, List.find?_cons, this]
      have b : valueAt (q :: qs) k = some q.2 := by simp [valueAt, List.find?_cons, c]
      rw [a, b]
      exact h2
    · have c' : ¬ p.1 = e k := fun z => c (inj (h1.symm.trans z))
      have a : dget (p :: ps) (e k) = dget ps (e k) := by simp [dget, List.find?_cons, c']
      have b : valueAt (q :: qs) k = valueAt qs k := by simp [valueAt, List.find?_cons, c]
      rw [a, b]
      exact ih
theorem pr_any (inj : ∀ {a b : κ}, e a = e b → a = b) {kvs : List (PV × PV)} {vs : List (κ × Value)} (r : PrE e R kvs vs) (k : κ) : (kvs.any fun kv => decide (kv.1 = e k)) = vs.any fun kv => decide (kv.1 = k) := by
  induction r with
  | nil => rfl
  | @cons p q ps qs h t ih =>
    rw [List.any_cons, List.any_cons, ih]
    congr 1
    by_cases c : q.1 = k
    · rw [decide_eq_true c, decide_eq_true (by rw [h.1, c])]
    · rw [decide_eq_false c, decide_eq_false fun z => c (inj (h.1.symm.trans z))]
theorem pr_put (inj : ∀ {a b : κ}, e a = e b → a = b) {kvs : List (PV × PV)} {vs : List (κ × Value)} (r : PrE e R kvs vs) (k : κ) {v : PV} {u : Value} (rv : R v u) : PrE e R (dput kvs (e k) v) (stored vs k u) := by
  unfold dput stored
  rw [pr_any inj r k]
  by_cases c : (vs.any fun kv => decide (kv.1 = k)) = true
  · rw [if_pos c, if_pos c]
    clear c
    induction r with
    | nil => exact .nil
    | @cons p q ps qs h t ih =>
      rw [List.map_cons, List.map_cons]
      refine .cons ?_ ih
      obtain ⟨h1, h2⟩ := h
      by_cases c : q.1 = k
      · rw [if_pos c, if_pos (by rw [h1, c])]
        exact ⟨h1, rv⟩
      · rw [if_neg c, if_neg fun z => c (inj (h1.symm.trans z))]
        exact ⟨h1, h2⟩
  · rw [if_neg c, if_neg c]
    exact Paired.snoc r ⟨rfl, rv⟩
end

section
variable (K : PySem.W.Frag) (ρ : List Addr) (H : Hp)
abbrev PrF : List (PV × PV) → List (Key × Value) → Prop := Paired fun p q => p.1 = pvK q.1 ∧ RVal K ρ H p.2 q.2
abbrev PrN : List (PV × PV) → List (NestedKey × Addr × Value) → Prop := Paired fun p q => p.1 = pvN q.1 ∧ q.1.depth ≤ 8 ∧ RV K ρ H p.1 (.ref q.2.1) ∧ RVal K ρ H p.2 q.2.2
end
section
variable {K : PySem.W.Frag} {ρ : List Addr} {H : Hp}
theorem prn_pairs {kvs : List (PV × PV)} {xs : List (NestedKey × Addr × Value)} (r : PrN K ρ H kvs xs) : PrE pvN (RVal K ρ H) kvs (pairsH xs) := by
  induction r with
  | nil => exact .nil
  | cons h t ih => exact .cons ⟨h.1, h.2.2.2⟩ ih
theorem prn_put {kvs : List (PV × PV)} {xs : List (NestedKey × Addr × Value)} (r : PrN K ρ H kvs xs) {k : NestedKey} (hk : k.depth ≤ 8) {b : Addr} (rk : RV K ρ H (pvN k) (.ref b)) {v : PV} {u : Value} (rv : RVal K ρ H v u) :
    PrN K ρ H (dput kvs (pvN k) v) (storedH xs k b u) := by
  unfold dput storedH
  have e : (kvs.any fun kv => decide (kv.1 = pvN k)) = (atKey xs k).isSome := by
    rw [pr_any (fun {a b} => pvN_inj) (prn_pairs r) k, any_pairsH]
  rw [e]
  clear e
  by_cases c : (atKey xs k).isSome = true
  · rw [if_pos c, if_pos c]
    clear c
    induction r with
    | nil => exact .nil
    | @cons p q ps qs h t ih =>
      rw [List.map_cons, List.map_cons]
      refine .cons ?_ ih
      obtain ⟨h1, h2, h3, h4⟩ := h
      unfold putAt
      by_cases c : q.1 = k
      · rw [if_pos c, if_pos (by rw [h1, c])]
        exact ⟨h1, h2, h3, rv⟩
      · rw [if_neg c, if_neg fun z => c (pvN_inj (h1.symm.trans z))]
        exact ⟨h1, h2, h3, h4⟩
  · rw [if_neg c, if_neg c]
    exact Paired.snoc r ⟨rfl, hk, rk, rv⟩
end

section
variable {X : Cx} {pins : List (Addr × Obj)} {σ : L2.St} {H : Hp} {s : Shared} {ρ : List Addr}
mutual
theorem nkey_is (I : Inv X pins σ H s) : ∀ {k : NestedKey} {v : V} {u : Value}, RV X.K ρ H (pvN k) v → RelV v u → NestedIs s.heap k u
  | .none, _, _, r, q => by cases r; cases q; exact .none
  | .num i, _, _, r, q => by
    cases r
    obtain ⟨t, e⟩ := q
    subst e
    exact .int i t
  | .text x, _, _, r, q => by
    cases r
    obtain ⟨t, e⟩ := q
    subst e
    exact .text x t
  | .tup ks, v, u, r, q => by
    rw [pvN] at r
    cases r with
    | tup h1 h2 =>
      cases q
      obtain ⟨its, rv, pl, _⟩ := I.tuple h1
      obtain ⟨o, ho, hc, n, hd⟩ := (show IsTup s.heap _ _ from pl)
      exact .tup ho hc hd (by simpa using nkeys_is I h2 rv)
theorem nkeys_is (I : Inv X pins σ H s) : ∀ {ks : List NestedKey} {vs : List V} {us : List Value}, RVs X.K ρ H (pvNs ks) vs → Vals vs us → NestedAll s.heap ks us
  | [], _, _, r, q => by cases r; cases q; exact .nil
  | k :: ks, _, _, r, q => by
    rw [pvNs] at r
    cases r with
    | cons r1 r2 =>
      cases q with
      | cons q1 q2 => exact .cons (nkey_is I r1 q1) (nkeys_is I r2 q2)
end
end

section
variable {X : Cx} {pins : List (Addr × Obj)} {σ : L2.St} {H : Hp} {s : Shared} {ρ : List Addr} {μ : Sto}
/-- the dict with its number, in the heap -/
structure DIs (X : Cx) (H : Hp) (s : Shared) (ρ : List Addr) (a : Addr) (kvs : List (PV × PV)) : Prop where
  mu : Mut (H a)
  sys : (a == sysModules) = false
  len : kvs.length ≤ sizeLine
  raw : ∃ es ep, s.heap.DictRaw a es ep
  kind : (∃ vs, s.heap.DictOf (mixKind X.prog X.w) a vs ∧ PrF X.K ρ H kvs vs) ∨ ∃ xs, s.heap.DictOfH (nestedKind X.prog X.w) a xs ∧ PrN X.K ρ H kvs xs
theorem prn_is (I : Inv X pins σ H s) : ∀ {kvs : List (PV × PV)} {xs : List (NestedKey × Addr × Value)}, PrN X.K ρ H kvs xs → ∀ x ∈ xs, (nestedKind X.prog X.w).is s.heap x.1 x.2.1
  | _, _, .nil, x, hx => by cases hx
  | _, _, .cons h t, x, hx => by
    rcases List.mem_cons.mp hx with e | hx
    · subst e
      exact ⟨nkey_is I (v := .ref _) (h.1 ▸ h.2.2.1) rfl, h.2.1⟩
    · exact prn_is I t x hx
theorem dis_of (I : Inv X pins σ H s) (t : RSt X.prog X.w X.K ρ H μ) {i : Nat} {a : Addr} {kvs : List (PV × PV)} (ha : ρ[i]? = some a) (e : μ[i]? = some (.dct kvs)) : DIs X H s ρ a kvs := by
  obtain ⟨o, h1, h2, ex, hl, es, ep, hd, h3⟩ := t.obj i a _ ha e
  have ho : s.heap.get? a = some o := (I.hok a _ h1).1
  refine ⟨by rw [h1]; trivial, h2, hl, ⟨es, ep, o, ho, ex, hd⟩, ?_⟩
  rcases h3 with ⟨vs, k1, k2, k3, k4⟩ | ⟨xs, k1, k2, k4⟩
  · exact .inl ⟨vs, ⟨o, es, ep, ho, ex, hd, k1, k2, k3⟩, k4⟩
  · exact .inr ⟨xs, ⟨o, es, ep, ho, ex, hd, k1, prn_is I k4, k2⟩, k4⟩
/-- with a key of its kind -/
def DKy (X : Cx) (H : Hp) (s : Shared) (ρ : List Addr) (a : Addr) (kvs : List (PV × PV)) (k : PV) (u : Value) : Prop :=
  (∃ vs k', pvK k' = k ∧ (mixKind X.prog X.w).is k' u = true ∧ s.heap.DictOf (mixKind X.prog X.w) a vs ∧ PrF X.K ρ H kvs vs) ∨
  ∃ xs n b, pvN n = k ∧ n.depth ≤ 8 ∧ u = .ref b ∧ RV X.K ρ H k (.ref b) ∧ (nestedKind X.prog X.w).is s.heap n b ∧ s.heap.DictOfH (nestedKind X.prog X.w) a xs ∧ PrN X.K ρ H kvs xs
theorem tup_of_ref {K : PySem.W.Frag} {n : NestedKey} {p : PV} {b : Addr} (e : p = pvN n) (r : RV K ρ H p (.ref b)) : isTup p = true := by
  subst e
  cases n with
  | none => rw [pvN] at r; cases r
  | num i => rw [pvN] at r; cases r
  | text x => rw [pvN] at r; cases r
  | tup ks => rfl
theorem not_tup {k : Key} : isTup (pvK k) = false := by cases k <;> rfl
theorem pairs_nil {P : Program} {w : World} {es : List DictEntry} (h : Pairs (mixKind P w) es []) : es = [] := by cases h; rfl
theorem flat_nil (d : DIs X H s ρ a []) : s.heap.DictOf (mixKind X.prog X.w) a [] := by
  rcases d.kind with ⟨vs, h1, h2⟩ | ⟨xs, h1, h2⟩
  · cases h2; exact h1
  · cases h2
    obtain ⟨o, es, ep, k1, k2, k3, k4, k5, k6⟩ := h1
    have : es = #[] := by
      cases es with
      | mk l =>
        have : l = [] := k4
        rw [this]
    subst this
    exact ⟨o, #[], ep, k1, k2, k3, (fun e he => by simp at he), .nil, List.nodup_nil⟩
theorem nest_nil (d : DIs X H s ρ a []) : s.heap.DictOfH (nestedKind X.prog X.w) a [] := by
  rcases d.kind with ⟨vs, h1, h2⟩ | ⟨xs, h1, h2⟩
  · cases h2
    obtain ⟨o, es, ep, k1, k2, k3, k4, k5, k6⟩ := h1
    exact ⟨o, es, ep, k1, k2, k3, pairs_nil k5, (fun x hx => by cases hx), List.nodup_nil⟩
  · cases h2; exact h1
theorem dis_key (I : Inv X pins σ H s) (d : DIs X H s ρ a kvs) {k : PV} {y : V} {u : Value} (hk : keyIn kvs k = true) (rk : RV X.K ρ H k y) (ry : RelV y u) : DKy X H s ρ a kvs k u := by
  unfold keyIn at hk
  rw [Bool.and_eq_true] at hk
  obtain ⟨hk1, hk2⟩ := hk
  have flat : ∀ k', pvK k' = k → y = kV k' → DKy X H s ρ a kvs k u := by
    intro k' e1 e2
    subst e2
    have hu : (mixKind X.prog X.w).is k' u = true := kV_is ry
    rcases d.kind with ⟨vs, h1, h2⟩ | ⟨xs, h1, h2⟩
    · exact .inl ⟨vs, k', e1, hu, h1, h2⟩
    · cases h2 with
      | nil => exact .inl ⟨[], k', e1, hu, flat_nil d, .nil⟩
      | cons h t =>
        have z : (isTup _ == isTup k) = true := hk2
        rw [tup_of_ref h.1 h.2.2.1, ← e1, not_tup] at z
        cases z
  cases k with
  | int i => cases rk; exact flat (.inl i) rfl rfl
  | str x => cases rk; exact flat (.inr x) rfl rfl
  | tup ps =>
    have hk1 : (match nkOf (.tup ps) with | some n => decide (n.depth ≤ 8) | none => false) = true := hk1
    cases e : nkOf (.tup ps) with
    | none => rw [e] at hk1; cases hk1
    | some n =>
      rw [e] at hk1
      have hd : n.depth ≤ 8 := of_decide_eq_true hk1
      have en := nkOf_pv e
      cases rk with
      | @tup _ vs b h1 h2 =>
        obtain rfl : u = Value.ref b := ry
        have rk' : RV X.K ρ H (.tup ps) (.ref b) := .tup h1 h2
        have is : (nestedKind X.prog X.w).is s.heap n b := ⟨nkey_is I (v := .ref b) (by rw [en]; exact rk') rfl, hd⟩
        rcases d.kind with ⟨vs, h1, h2⟩ | ⟨xs, h1, h2⟩
        · cases h2 with
          | nil => exact .inr ⟨[], n, b, en, hd, rfl, rk', is, nest_nil d, .nil⟩
          | cons h t =>
            have z : (isTup _ == isTup (PV.tup ps)) = true := hk2
            rw [h.1, not_tup] at z
            cases z
        · exact .inr ⟨xs, n, b, en, hd, rfl, rk', is, h1, h2⟩
  | _ => cases hk1
/-- what it holds there -/
theorem relop_some {α β : Type} {R : α → β → Prop} {a : α} {o : Option β} (h : RelOp R (some a) o) : ∃ b, o = some b ∧ R a b := by
  cases o with
  | none => exact h.elim
  | some b => exact ⟨b, rfl, h⟩
theorem relop_isSome {α β : Type} {R : α → β → Prop} {o : Option α} {u : Option β} (h : RelOp R o u) : u.isSome = o.isSome := by
  cases o <;> cases u <;> first | rfl | exact h.elim
variable {A : Around} {E : Value → Shared → Prop} {a : Addr} {kvs : List (PV × PV)} {k : PV} {u : Value}
theorem dd_getItem {Q : Value → Shared → Prop} {v : PV} (hu : A.units + 9 < cLine) (I : Inv X pins σ H s) (d : DKy X H s ρ a kvs k u) (g : dget kvs k = some v) (h : ∀ x w' s', Inv X pins σ H s' → RV X.K ρ H v x → RelV x w' → Q w' s') :
    wpAny (model X.prog X.w) A (getItem (.ref a) u) Q E s := by
  rcases d with ⟨vs, k', e1, e2, e3, e4⟩ | ⟨xs, n, b, e1, e2, rfl, e3, e4, e5, e6⟩
  · subst e1
    have r := pr_get (fun {a b} => pvK_inj) e4 k'
    rw [g] at r
    obtain ⟨w', hw, x, r1, r2⟩ := relop_some r
    exact wpAny_getItem_of e2 e3.mapOf hw (h x w' _ (I.tok _) r2 r1)
  · subst e1
    have r := pr_get (fun {a b} => pvN_inj) (prn_pairs e6) n
    rw [g, valueAt_pairsH] at r
    obtain ⟨w', hw, x, r1, r2⟩ := relop_some r
    obtain ⟨p, hp, hp2⟩ := Option.map_eq_some_iff.mp hw
    refine wpAny_getItem_heap (show A.in1.units + 8 < cLine from by show A.units + 1 + 8 < cLine; omega) e4 e5 hp ?_
    rw [hp2]
    exact h x w' _ (I.tok _) r2 r1
theorem dd_in {Q : Value → Shared → Prop} (hu : A.units + 9 < cLine) (I : Inv X pins σ H s) (sys : (a == sysModules) = false) (d : DKy X H s ρ a kvs k u) (h : ∀ s', Inv X pins σ H s' → Q (.bool (dget kvs k).isSome) s') :
    wpAny (model X.prog X.w) A (compareOp .In u (.ref a)) Q E s := by
  rcases d with ⟨vs, k', e1, e2, e3, e4⟩ | ⟨xs, n, b, e1, e2, rfl, e3, e4, e5, e6⟩
  · subst e1
    refine wpAny_in_of e2 sys e3.mapOf ?_
    rw [relop_isSome (pr_get (fun {a b} => pvK_inj) e4 k')]
    exact h _ (I.tok _)
  · subst e1
    refine wpAny_in_heap (show A.in1.units + 8 < cLine from by show A.units + 1 + 8 < cLine; omega) e4 sys e5 ?_
    have r := relop_isSome (pr_get (fun {a b} => pvN_inj) (prn_pairs e6) n)
    rw [valueAt_pairsH, Option.isSome_map] at r
    rw [r]
    exact h _ (I.tok _)
theorem dd_notIn {Q : Value → Shared → Prop} (hu : A.units + 9 < cLine) (I : Inv X pins σ H s) (sys : (a == sysModules) = false) (d : DKy X H s ρ a kvs k u) (h : ∀ s', Inv X pins σ H s' → Q (.bool (!(dget kvs k).isSome)) s') :
    wpAny (model X.prog X.w) A (compareOp .NotIn u (.ref a)) Q E s := by
  rcases d with ⟨vs, k', e1, e2, e3, e4⟩ | ⟨xs, n, b, e1, e2, rfl, e3, e4, e5, e6⟩
  · subst e1
    refine wpAny_notIn_of e2 sys e3.mapOf ?_
    rw [relop_isSome (pr_get (fun {a b} => pvK_inj) e4 k')]
    exact h _ (I.tok _)
  · subst e1
    refine wpAny_notIn_heap (show A.in1.units + 8 < cLine from by show A.units + 1 + 8 < cLine; omega) e4 sys e5 ?_
    have r := relop_isSome (pr_get (fun {a b} => pvN_inj) (prn_pairs e6) n)
    rw [valueAt_pairsH, Option.isSome_map] at r
    rw [r]
    exact h _ (I.tok _)
theorem dd_get1 {Q : Value → Shared → Prop} (hu : A.units + 9 < cLine) (I : Inv X pins σ H s) (sys : (a == sysModules) = false) (d : DKy X H s ρ a kvs k u) (h : ∀ x w' s', Inv X pins σ H s' → RV X.K ρ H ((dget kvs k).getD .non) x → RelV x w' → Q w' s') :
    wpAny (model X.prog X.w) A (call (.builtin "dict.get") [.ref a, u]) Q E s := by
  have fin : ∀ {o : Option Value}, RelOp (RVal X.K ρ H) (dget kvs k) o → ∀ t, Q (o.getD .none) { s with toks := t } := by
    intro o r t
    cases e : dget kvs k with
    | none =>
      rw [e] at r h
      cases o with
      | none => exact h .non _ _ (I.tok _) .non rfl
      | some u => exact r.elim
    | some p =>
      rw [e] at r h
      obtain ⟨w', rfl, x, r1, r2⟩ := relop_some r
      exact h x _ _ (I.tok _) r2 r1
  rcases d with ⟨vs, k', e1, e2, e3, e4⟩ | ⟨xs, n, b, e1, e2, rfl, e3, e4, e5, e6⟩
  · subst e1
    exact call_meetsIn PySem.F.slot_dict_get e3.typeIs PySem.F.entry_dict_get (PySem.F.args_dict_get_2 _ _) (meets_dict_get (mixKind X.prog X.w) a e2 sys) ⟨_, e3.mapOf, fin (pr_get (fun {a b} => pvK_inj) e4 k') _⟩
  · subst e1
    have r := pr_get (fun {a b} => pvN_inj) (prn_pairs e6) n
    rw [valueAt_pairsH] at r
    exact call_meetsIn PySem.F.slot_dict_get e5.typeIs PySem.F.entry_dict_get (PySem.F.args_dict_get_2 _ _) (meetsH_dict_get (nestedKind X.prog X.w) a b sys) ⟨show A.in1.units + 8 < cLine from by show A.units + 1 + 8 < cLine; omega, n, xs, e4, e5, fin r _⟩
theorem dd_get2 {Q : Value → Shared → Prop} {dp : PV} {dx : V} {du : Value} (hu : A.units + 9 < cLine) (I : Inv X pins σ H s) (sys : (a == sysModules) = false) (d : DKy X H s ρ a kvs k u) (rd : RV X.K ρ H dp dx) (rd2 : RelV dx du)
    (h : ∀ x w' s', Inv X pins σ H s' → RV X.K ρ H ((dget kvs k).getD dp) x → RelV x w' → Q w' s') :
    wpAny (model X.prog X.w) A (call (.builtin "dict.get") [.ref a, u, du]) Q E s := by
  have fin : ∀ {o : Option Value}, RelOp (RVal X.K ρ H) (dget kvs k) o → ∀ t, Q (o.getD du) { s with toks := t } := by
    intro o r t
    cases e : dget kvs k with
    | none =>
      rw [e] at r h
      cases o with
      | none => exact h dx _ _ (I.tok _) rd rd2
      | some u => exact r.elim
    | some p =>
      rw [e] at r h
      obtain ⟨w', rfl, x, r1, r2⟩ := relop_some r
      exact h x _ _ (I.tok _) r2 r1
  rcases d with ⟨vs, k', e1, e2, e3, e4⟩ | ⟨xs, n, b, e1, e2, rfl, e3, e4, e5, e6⟩
  · subst e1
    exact call_meetsIn PySem.F.slot_dict_get e3.typeIs PySem.F.entry_dict_get (PySem.F.args_dict_get_3 _ _ _) (meets_dict_get_default (mixKind X.prog X.w) a e2 sys du) ⟨_, e3.mapOf, fin (pr_get (fun {a b} => pvK_inj) e4 k') _⟩
  · subst e1
    have r := pr_get (fun {a b} => pvN_inj) (prn_pairs e6) n
    rw [valueAt_pairsH] at r
    exact call_meetsIn PySem.F.slot_dict_get e5.typeIs PySem.F.entry_dict_get (PySem.F.args_dict_get_3 _ _ _) (meetsH_dict_get_default (nestedKind X.prog X.w) a b sys du) ⟨show A.in1.units + 8 < cLine from by show A.units + 1 + 8 < cLine; omega, n, xs, e4, e5, fin r _⟩
/-- the object at d is a dict still, of as many entries, at the same count of changes -/
def EpSame (d : Addr) (h h' : Heap) : Prop := ∀ o es ep, h.get? d = some o → o.data = .dict es ep → ∃ o' es', h'.get? d = some o' ∧ o'.data = .dict es' ep ∧ es'.size = es.size
end
section
open Sem (wp)
variable {prog : Program} {w : World} {κ : Type} [DecidableEq κ] {A : Around} {E : Value → Shared → Prop} {s : Shared} {d a : Addr} {k : κ}
theorem epSame_upd {h : Heap} {o : Obj} {es : Array DictEntry} {ep : Nat} {f : Array DictEntry → Array DictEntry} (ho : h.get? d = some o) (hd : o.data = .dict es ep) (hs : (f es).size = es.size) : EpSame d h (h.update d (Obj.mapDict f)) := by
  intro o1 es1 ep1 h1 h2
  rw [ho] at h1
  cases h1
  rw [hd] at h2
  cases h2
  exact ⟨_, _, Heap.get?_update_self _ ho (Obj.isFreed_of_dict (Obj.data_mapDict hd _)), Obj.data_mapDict hd _, hs⟩
theorem flat_old {knd : KeyKind prog w κ} {key v : Value} {kvs : List (κ × Value)} {Q : Unit → Shared → Prop} (hkey : knd.is k key = true) (hm : s.heap.DictOf knd d kvs) (hin : (kvs.any fun kv => decide (kv.1 = k)) = true)
    (hQ : ∀ h', h'.DictOf knd d (stored kvs k v) → Heap.SameBut d s.heap h' → EpSame d s.heap h' → Q () { s with heap := h', toks := s.toks + 1 }) : wpAny (model prog w) A (dictSet d key v) Q E s := by
  obtain ⟨o, es, ep, ho, hc, hdt, hk, hp, hnd⟩ := hm
  unfold dictSet
  try (with_reducible refine wpAny_holding ?_)
  refine wpAny_bind (knd.pyHash hkey (?_ : wpAny _ _ _ _ _ _))
  unfold dictSetHashed
  try (with_reducible refine wpAny_holding ?_)
  refine wpAny_bind (wpAny_dictFind_of (s := { s with toks := s.toks + 1 }) hkey ho hdt hk ?_)
  have hix : (es.findIdx? fun e => knd.is k e.key) = kvs.findIdx? fun kv => decide (kv.1 = k) := by
    have := hp.findIdx k
    obtain ⟨l⟩ := es
    simpa using this
  cases hi : es.findIdx? fun e => knd.is k e.key with
  | some i =>
    refine wpAny_bind (wpAny_rule (wpAny_bind (wpAny_updateDict (s := { s with toks := s.toks + 1 }) ho hdt (wpAny_point (hQ _ ⟨_, _, ep, Heap.get?_update_self _ ho (Obj.isFreed_of_dict (Obj.data_mapDict hdt _)), hc.mapDict _, Obj.data_mapDict hdt _, hk.modify _ _, ?_, ?_⟩ (Heap.SameBut.update ..) (epSame_upd ho hdt (by simp)))))))
    · have hl : (es.toList.findIdx? fun e => knd.is k e.key) = some i := by
        obtain ⟨l⟩ := es
        simpa using hi
      have q := hp.modify hnd hl v
      rw [stored, if_pos hin]
      obtain ⟨l⟩ := es
      simpa using q
    · rw [stored, if_pos hin, keys_map_store]
      exact hnd
  | none =>
    exfalso
    rw [hi] at hix
    have hnot := not_mem_of_findIdx_none hix.symm
    obtain ⟨kv, h1, h2⟩ := List.any_eq_true.mp hin
    exact hnot (List.mem_map.mpr ⟨kv, h1, of_decide_eq_true h2⟩)
theorem nest_old {knd : HeapKind prog w κ} {v : Value} {xs : List (κ × Addr × Value)} {Q : Unit → Shared → Prop} (hu : knd.room A) (hkey : knd.is s.heap k a) (hm : s.heap.DictOfH knd d xs) (hin : (atKey xs k).isSome = true)
    (hQ : ∀ h', h'.DictOfH knd d (storedH xs k a v) → Heap.SameBut d s.heap h' → EpSame d s.heap h' → Q () { s with heap := h', toks := s.toks + knd.draws k }) : wpAny (model prog w) A (dictSet d (.ref a) v) Q E s := by
  obtain ⟨o, es, ep, ho, hc, hdt, he, his, hnd⟩ := hm
  unfold dictSet
  try (with_reducible refine wpAny_holding ?_)
  refine wpAny_bind (knd.pyHash hu hkey (?_ : wpAny _ _ _ _ _ _))
  unfold dictSetHashed
  try (with_reducible refine wpAny_holding ?_)
  refine wpAny_bind (wpAny_dictFind_heap (s := { s with toks := s.toks + knd.draws k }) hu hkey ho hdt he his hnd (fun hno => ?_) (fun j p hj => ?_))
  · rw [atKey_none_of_get hno] at hin
    cases hin
  · refine wpAny_bind (wpAny_rule (wpAny_bind (wpAny_updateDict (s := { s with toks := s.toks + knd.draws k }) ho hdt (wpAny_point (hQ _ ⟨_, _, ep, Heap.get?_update_self _ ho (Obj.isFreed_of_dict (Obj.data_mapDict hdt _)), hc.mapDict _, Obj.data_mapDict hdt _, ?_, ?_, ?_⟩ (Heap.SameBut.update ..) (epSame_upd ho hdt (by simp)))))))
    · rw [storedH_old (atKey_of_get hnd hj)]
      have q := modify_map_putAt (entryOfKey knd) (fun e : DictEntry => { e with val := v }) k v (fun _ _ => rfl) hnd hj
      rw [← he] at q
      obtain ⟨l⟩ := es
      simpa using q
    · rw [storedH_old (atKey_of_get hnd hj)]
      intro x hx
      obtain ⟨y, hy, rfl⟩ := List.mem_map.mp hx
      have q : (putAt k v y).1 = y.1 ∧ (putAt k v y).2.1 = y.2.1 := by
        unfold putAt
        split <;> exact ⟨rfl, rfl⟩
      rw [q.1, q.2]
      exact knd.keeps (his y hy) ho hdt (Heap.SameBut.update ..)
    · rw [storedH_old (atKey_of_get hnd hj), List.map_map]
      have q : ((fun x : κ × Addr × Value => x.1) ∘ putAt k v) = fun x => x.1 := by
        funext y
        show (putAt k v y).1 = y.1
        unfold putAt
        split <;> rfl
      rw [q]
      exact hnd
theorem setItem_by {key v : Value} {Q : Unit → Shared → Prop} (hT : s.TypeIs (.ref d) "dict") (h : wpAny (model prog w) A.in1 (dictSet d key v) Q E s) : wpAny (model prog w) A (setItem (.ref d) key v) Q E s := by
  unfold setItem
  try (with_reducible refine wpAny_holding ?_)
  refine wpAny_bind (wpAny_sequenceKey hT (by decide) (?_ : wpAny _ _ _ _ _ _))
  refine wpAny_bind (wpAny_callSpecial?_slot (name := Str.ofString "__setitem__") hT slot_dict_setitem (wpAny_call_entry slot_dict_setitem hT entry_dict_setitem ?_ (args_dict_setitem _ _ _)))
  show wpAny _ _ (Builtin.Dict.notOrdered "__setitem__" ⟨[Value.ref d, key, v], []⟩ >>= _) _ _ s
  refine wpAny_bind (wpAny_notOrdered_dict hT (?_ : wpAny _ _ _ _ _ _))
  show wpAny _ A.in1 (dictSet d key v >>= _) _ _ s
  exact wpAny_bind (wpAny_mono h (fun _ s' q => wpAny_pure ⟨.none, rfl, wpAny_pure q⟩) fun _ _ e => e)
end
section
variable {X : Cx} {pins : List (Addr × Obj)} {σ : L2.St} {H : Hp} {s : Shared} {ρ : List Addr} {μ : Sto} {A : Around} {E : Value → Shared → Prop} {a : Addr} {kvs : List (PV × PV)} {k : PV} {u : Value}
theorem dd_write {h' : Heap} {t' : Nat} {o : Obj} (I : Inv X pins σ H s) (mu : Mut (H a)) (hs : Heap.SameBut a s.heap h') (he : h'.get? a = some o) : Inv X pins σ (upd H a (dO a o)) { s with heap := h', toks := t' } :=
  I.write (x := a) (e := a) mu (.inl rfl) (fun b q hb z => (hs.2 b hb).trans z) ⟨o, he⟩ ⟨he, ⟨o, he⟩, fun h1 h2 z k => k _ z⟩
theorem dw_of {h' : Heap} {o : Obj} {es : Array DictEntry} {ep : Nat} (I : Inv X pins σ H s) (he : h'.get? a = some o) (hd : o.data = .dict es ep)
    (h : (∀ o0 es0 ep0, s.heap.get? a = some o0 → o0.data = .dict es0 ep0 → es0.size < es.size) ∨ EpSame a s.heap h') : DW H a (dO a o) := by
  intro o0 es0 ep0 e1 e2
  have e3 : s.heap.get? a = some o0 := (I.hok a _ e1).1
  rcases h with h | h
  · have := h o0 es0 ep0 e3 e2
    exact ⟨o, es, ep, rfl, hd, by omega, fun z => by omega⟩
  · obtain ⟨o', es', h1, h2, h3⟩ := h o0 es0 ep0 e3 e2
    rw [he] at h1
    cases h1
    rw [hd] at h2
    cases h2
    exact ⟨o, es, _, rfl, hd, by omega, fun _ => rfl⟩
theorem dd_store {h' : Heap} (I : Inv X pins σ H s) (mu : Mut (H a)) (sys : (a == sysModules) = false) {i : Nat} (ha : ρ[i]? = some a) (t : RSt X.prog X.w X.K ρ H μ) {kvs' : List (PV × PV)} (hl : kvs'.length ≤ sizeLine)
    (hg : (∀ o0 es0 ep0, s.heap.get? a = some o0 → o0.data = .dict es0 ep0 → es0.size < kvs'.length) ∨ EpSame a s.heap h')
    (d : (∃ vs, h'.DictOf (mixKind X.prog X.w) a vs ∧ PrF X.K ρ H kvs' vs) ∨ ∃ xs, h'.DictOfH (nestedKind X.prog X.w) a xs ∧ PrN X.K ρ H kvs' xs) :
    ∃ o, h'.get? a = some o ∧ Step X.K ρ H ρ (upd H a (dO a o)) ∧ RSt X.prog X.w X.K ρ (upd H a (dO a o)) (μ.set i (.dct kvs')) := by
  rcases d with ⟨vs, ⟨o, es, ep, h1, h2, h3, h4, h5, h6⟩, r⟩ | ⟨xs, ⟨o, es, ep, h1, h2, h3, h4, h5, h6⟩, r⟩
  · have hz : es.size = kvs'.length := by rw [Paired.length r, ← h5.length]; exact Array.length_toList.symm
    have dw : DW H a (dO a o) := dw_of I h1 h3 (by rw [hz]; exact hg)
    have st : Step X.K ρ H ρ (upd H a (dO a o)) := Step.write (List.mem_of_getElem? ha) mu dw
    refine ⟨o, h1, st, t.write ha mu dw ⟨o, upd_same, sys, h2, hl, es, ep, h3, .inl ⟨vs, h4, h5, h6, Paired.mapP r fun p q h => ⟨h.1, h.2.step st.grow⟩⟩⟩⟩
  · have hz : es.size = kvs'.length := by rw [Paired.length r]; exact size_of_entries h4
    have dw : DW H a (dO a o) := dw_of I h1 h3 (by rw [hz]; exact hg)
    have st : Step X.K ρ H ρ (upd H a (dO a o)) := Step.write (List.mem_of_getElem? ha) mu dw
    refine ⟨o, h1, st, t.write ha mu dw ⟨o, upd_same, sys, h2, hl, es, ep, h3, .inr ⟨xs, h4, h6, Paired.mapP r fun p q h => ⟨h.1, h.2.1, h.2.2.1.step st, h.2.2.2.step st.grow⟩⟩⟩⟩
/-- a key that is not there: the dict grows -/
theorem any_get (kvs : List (PV × PV)) (k : PV) : (kvs.any fun kv => decide (kv.1 = k)) = (dget kvs k).isSome := by
  unfold dget
  rw [Option.isSome_map]
  induction kvs with
  | nil => rfl
  | cons q r ih =>
    rw [List.any_cons, List.find?_cons]
    cases c : decide (q.1 = k) with
    | true => rfl
    | false => rw [Bool.false_or]; exact ih
theorem dput_new {kvs : List (PV × PV)} {k v : PV} (h : dget kvs k = none) : (dput kvs k v).length = kvs.length + 1 := by
  unfold dput
  rw [any_get, h]
  simp
theorem raw_len (D : DIs X H s ρ a kvs) {o0 : Obj} {es0 : Array DictEntry} {ep0 : Nat} (h1 : s.heap.get? a = some o0) (h2 : o0.data = .dict es0 ep0) : es0.size = kvs.length := by
  rcases D.kind with ⟨vs, ⟨o, es, ep, k1, k2, k3, k4, k5, k6⟩, r⟩ | ⟨xs, ⟨o, es, ep, k1, k2, k3, k4, k5, k6⟩, r⟩
  · rw [k1] at h1
    cases h1
    rw [k3] at h2
    cases h2
    rw [Paired.length r, ← k5.length]
    exact Array.length_toList.symm
  · rw [k1] at h1
    cases h1
    rw [k3] at h2
    cases h2
    rw [Paired.length r]
    exact size_of_entries k4
theorem dd_setItem {Q : Unit → Shared → Prop} {vp : PV} {vx : V} {vu : Value} {i : Nat} (hu : A.units + 9 < cLine) (I : Inv X pins σ H s) (t : RSt X.prog X.w X.K ρ H μ) (ha : ρ[i]? = some a) (D : DIs X H s ρ a kvs) (d : DKy X H s ρ a kvs k u) (rv : RV X.K ρ H vp vx) (rv2 : RelV vx vu)
    (hl : kvs.length < sizeLine) (h : ∀ H' s', Step X.K ρ H ρ H' → RSt X.prog X.w X.K ρ H' (μ.set i (.dct (dput kvs k vp))) → Inv X pins σ H' s' → Q () s') :
    wpAny (model X.prog X.w) A (setItem (.ref a) u vu) Q E s := by
  have hlen := length_dput kvs k vp
  rcases d with ⟨vs, k', e1, e2, e3, e4⟩ | ⟨xs, n, b, e1, e2, rfl, e3, e4, e5, e6⟩
  · subst e1
    have hz : vs.length ≤ sizeLine := by rw [← Paired.length e4]; exact D.len
    cases c : dget kvs (pvK k') with
    | none =>
      refine wpAny_setItem_pairs (hsz := hz) e2 e3 fun h' dd' hs => ?_
      obtain ⟨o, h1, st, t'⟩ := dd_store I D.mu D.sys ha t (kvs' := dput kvs (pvK k') vp) (by omega) (.inl fun o0 es0 ep0 q1 q2 => by rw [raw_len D q1 q2, dput_new c]; omega) (.inl ⟨_, dd', pr_put (fun {a b} => pvK_inj) e4 k' ⟨vx, rv2, rv⟩⟩)
      exact h _ _ st t' (dd_write I D.mu hs h1)
    | some p0 =>
      refine setItem_by e3.typeIs (flat_old e2 e3 (by rw [← pr_any (fun {a b} => pvK_inj) e4 k', any_get, c]; rfl) fun h' dd' hs ep => ?_)
      obtain ⟨o, h1, st, t'⟩ := dd_store I D.mu D.sys ha t (kvs' := dput kvs (pvK k') vp) (by omega) (.inr ep) (.inl ⟨_, dd', pr_put (fun {a b} => pvK_inj) e4 k' ⟨vx, rv2, rv⟩⟩)
      exact h _ _ st t' (dd_write I D.mu hs h1)
  · subst e1
    have hz : xs.length ≤ sizeLine := by rw [← Paired.length e6]; exact D.len
    have hr : A.in1.units + 8 < cLine := by show A.units + 1 + 8 < cLine; omega
    cases c : dget kvs (pvN n) with
    | none =>
      refine wpAny_setItem_heap (hsz := hz) hr e4 e5 fun h' dd' hs => ?_
      obtain ⟨o, h1, st, t'⟩ := dd_store I D.mu D.sys ha t (kvs' := dput kvs (pvN n) vp) (by omega) (.inl fun o0 es0 ep0 q1 q2 => by rw [raw_len D q1 q2, dput_new c]; omega) (.inr ⟨_, dd', prn_put e6 e2 e3 ⟨vx, rv2, rv⟩⟩)
      exact h _ _ st t' (dd_write I D.mu hs h1)
    | some p0 =>
      refine setItem_by e5.typeIs (nest_old hr e4 e5 (by rw [← any_pairsH, ← pr_any (fun {a b} => pvN_inj) (prn_pairs e6) n, any_get, c]; rfl) fun h' dd' hs ep => ?_)
      obtain ⟨o, h1, st, t'⟩ := dd_store I D.mu D.sys ha t (kvs' := dput kvs (pvN n) vp) (by omega) (.inr ep) (.inr ⟨_, dd', prn_put e6 e2 e3 ⟨vx, rv2, rv⟩⟩)
      exact h _ _ st t' (dd_write I D.mu hs h1)
/-- d.setdefault(k, x) -/
theorem dd_setd {Q : Value → Shared → Prop} {vp : PV} {vx : V} {vu : Value} {i : Nat} (hu : A.units + 9 < cLine) (I : Inv X pins σ H s) (t : RSt X.prog X.w X.K ρ H μ) (ha : ρ[i]? = some a) (D : DIs X H s ρ a kvs) (d : DKy X H s ρ a kvs k u) (rv : RV X.K ρ H vp vx) (rv2 : RelV vx vu)
    (hl : kvs.length < sizeLine) (h0 : ∀ p, dget kvs k = some p → ∀ x w' s', Inv X pins σ H s' → RV X.K ρ H p x → RelV x w' → Q w' s')
    (h : dget kvs k = none → ∀ H' s', Step X.K ρ H ρ H' → RSt X.prog X.w X.K ρ H' (μ.set i (.dct (dput kvs k vp))) → Inv X pins σ H' s' → Q vu s') :
    wpAny (model X.prog X.w) A (call (.builtin "dict.setdefault") [.ref a, u, vu]) Q E s := by
  have hlen := length_dput kvs k vp
  rcases d with ⟨vs, k', e1, e2, e3, e4⟩ | ⟨xs, n, b, e1, e2, rfl, e3, e4, e5, e6⟩
  · subst e1
    have hz : vs.length ≤ sizeLine := by rw [← Paired.length e4]; exact D.len
    have r := pr_get (fun {a b} => pvK_inj) e4 k'
    refine call_meetsIn PySem.F.slot_dict_setdefault e3.typeIs PySem.F.entry_dict_setdefault (PySem.F.args_dict_setdefault_3 _ _ _) (kt_meets_setdefault (mixKind X.prog X.w) a e2 D.sys vu) ⟨vs, e3, hz, fun v hv => ?_, fun hn h' dd' hs => ?_⟩
    · rw [hv] at r
      cases c : dget kvs (pvK k') with
      | none => rw [c] at r; exact r.elim
      | some p =>
        rw [c] at r
        obtain ⟨x, r1, r2⟩ := (show RVal X.K ρ H p v from r)
        exact h0 p c x v _ (I.tok _) r2 r1
    · rw [hn] at r
      cases c : dget kvs (pvK k') with
      | some p => rw [c] at r; exact r.elim
      | none =>
        obtain ⟨o, h1, st, t'⟩ := dd_store I D.mu D.sys ha t (kvs' := dput kvs (pvK k') vp) (by omega) (.inl fun o0 es0 ep0 q1 q2 => by rw [raw_len D q1 q2, dput_new c]; omega) (.inl ⟨_, dd', pr_put (fun {a b} => pvK_inj) e4 k' ⟨vx, rv2, rv⟩⟩)
        exact h c _ _ st t' (dd_write I D.mu hs h1)
  · subst e1
    have hz : xs.length ≤ sizeLine := by rw [← Paired.length e6]; exact D.len
    have hr : A.in1.units + 8 < cLine := by show A.units + 1 + 8 < cLine; omega
    have r := pr_get (fun {a b} => pvN_inj) (prn_pairs e6) n
    rw [valueAt_pairsH] at r
    refine call_setdefault_heap (hsz := hz) hr e4 D.sys e5 (fun p hp => ?_) fun hn h' dd' hs => ?_
    · rw [hp] at r
      cases c : dget kvs (pvN n) with
      | none => rw [c] at r; exact r.elim
      | some q =>
        rw [c] at r
        obtain ⟨x, r1, r2⟩ := (show RVal X.K ρ H q p.2 from r)
        exact h0 q c x p.2 _ (I.tok _) r2 r1
    · rw [hn] at r
      cases c : dget kvs (pvN n) with
      | some p => rw [c] at r; exact r.elim
      | none =>
        obtain ⟨o, h1, st, t'⟩ := dd_store I D.mu D.sys ha t (kvs' := dput kvs (pvN n) vp) (by omega) (.inl fun o0 es0 ep0 q1 q2 => by rw [raw_len D q1 q2, dput_new c]; omega) (.inr ⟨_, dd', prn_put e6 e2 e3 ⟨vx, rv2, rv⟩⟩)
        exact h c _ _ st t' (dd_write I D.mu hs h1)
end
end DL
/-! D10: items, in, len of any built-in thing; dicts compared with {}; methods of dicts -/
namespace DL
open PySem PySem.Spec PyProof.Rows L2

def dctAt (μ : Sto) (i : Nat) : Option (List (PV × PV)) := match μ[i]? with
  | some (.dct kvs) => some kvs
  | _ => none
theorem dctAt_get {μ : Sto} {i : Nat} {kvs : List (PV × PV)} (h : dctAt μ i = some kvs) : μ[i]? = some (.dct kvs) := by
  unfold dctAt at h
  split at h
  · cases h; assumption
  · cases h
/-- a[k] of a tuple, a list, a text, a dict -/
def vIx : VF := fun xs μ => match xs with
  | [.ref i, k] => match dctAt μ i with
    | some kvs => if keyIn kvs k = true then match dget kvs k with
        | some v => .ok v μ
        | none => .bad
      else .bad
    | none => vItem [.ref i, k] μ
  | [.tup ps, k] => vItem [.tup ps, k] μ
  | [.str z, k] => vItem [.str z, k] μ
  | _ => .bad
/-- p in c -/
def isIn (μ : Sto) (p c : PV) : Option Bool := match c with
  | .ref i => match dctAt μ i with
    | some kvs => if keyIn kvs p = true then some (dget kvs p).isSome else none
    | none => inSeq μ p c
  | _ => inSeq μ p c
def vIn : VF := fun xs μ => match xs with
  | [p, c] => match isIn μ p c with
    | some b => .ok (.bl b) μ
    | none => .bad
  | _ => .bad
def vNotIn : VF := fun xs μ => match xs with
  | [p, c] => match isIn μ p c with
    | some b => .ok (.bl (!b)) μ
    | none => .bad
  | _ => .bad
def lenOf (μ : Sto) (p : PV) : Option Nat := match p with
  | .tup ps => some ps.length
  | .str z => if z.length ≤ sizeLine then some z.length else none
  | .ref i => match dctAt μ i with
    | some kvs => some kvs.length
    | none => (seqAt μ i).map (·.length)
  | _ => none
def vLen : VF := fun xs μ => match xs with
  | [p] => match lenOf μ p with
    | some n => .ok (.int n) μ
    | none => .bad
  | _ => .bad
/-- == and != where one side is a dict: the other is {} -/
def dEmp (μ : Sto) (p q : PV) : Option Bool := match p, q with
  | .ref i, .ref j => match dctAt μ i, dctAt μ j with
    | some kvs, some [] => some kvs.isEmpty
    | _, _ => none
  | _, _ => none
def vEqA : VF := fun xs μ => match xs with
  | [p, q] => match dEmp μ p q with
    | some b => .ok (.bl b) μ
    | none => vEq [p, q] μ
  | _ => .bad
def vNeA : VF := fun xs μ => match xs with
  | [p, q] => match dEmp μ p q with
    | some b => .ok (.bl (!b)) μ
    | none => vNe [p, q] μ
  | _ => .bad
/-- d.get(k), d.get(k, x), d.setdefault(k, x) -/
def vDGet : VF := fun xs μ => match xs with
  | [.ref i, k] => match dctAt μ i with
    | some kvs => if keyIn kvs k = true then .ok ((dget kvs k).getD .non) μ else .bad
    | none => .bad
  | [.ref i, k, x] => match dctAt μ i with
    | some kvs => if keyIn kvs k = true then .ok ((dget kvs k).getD x) μ else .bad
    | none => .bad
  | _ => .bad
def vSetd : VF := fun xs μ => match xs with
  | [.ref i, k, x] => match dctAt μ i with
    | some kvs => if keyIn kvs k = true ∧ kvs.length < sizeLine then match dget kvs k with
        | some v => .ok v μ
        | none => .ok x (μ.set i (.dct (dput kvs k x)))
      else .bad
    | none => .bad
  | _ => .bad

section
variable {prog : Program} {w : World} {A : Around} {E : Value → Shared → Prop} {s : Shared}
theorem raw_samePairs {nm : String} {a b : Addr} {es es' : Array DictEntry} {ep ep' : Nat} {Q : Bool → Shared → Prop} (ha : (a == sysModules) = false) (hb : (b == sysModules) = false)
    (da : s.heap.DictRaw a es ep) (db : s.heap.DictRaw b es' ep') (hsz : ¬ es.size = es'.size) (h : Q false s) : wpAny (model prog w) A (Builtin.Dict.samePairs nm a b) Q E s := by
  obtain ⟨oa, hoa, _, hda⟩ := da
  obtain ⟨ob, hob, _, hdb⟩ := db
  unfold Builtin.Dict.samePairs Builtin.Dict.showsAll
  rw [if_neg (show ¬ (a == sysModules) = true by rw [ha]; exact Bool.false_ne_true), if_neg (show ¬ (b == sysModules) = true by rw [hb]; exact Bool.false_ne_true)]
  refine wpAny_bind (wpAny_pure (wpAny_bind (wpAny_pure ?_)))
  refine wpAny_bind (wpAny_dictEntries hoa hda ?_)
  dsimp only
  refine wpAny_bind (wpAny_dictEntries hob hdb ?_)
  rw [if_pos (by simpa using hsz)]
  exact wpAny_bind (wpAny_rule (wpAny_pure h))
theorem raw_eq {a b : Addr} {es es' : Array DictEntry} {ep ep' : Nat} {Q : Value → Shared → Prop} (ha : (a == sysModules) = false) (hb : (b == sysModules) = false)
    (da : s.heap.DictRaw a es ep) (db : s.heap.DictRaw b es' ep') (hsz : ¬ es.size = es'.size) (hu : A.units < cLine) (h : Q (.bool false) s) : wpAny (model prog w) A (compareOp .Eq (.ref a) (.ref b)) Q E s := by
  refine wpAny_richCompare_same_room (op := .Eq) da.typeIs db.typeIs PySem.F.slot_dict_eq (wpAny_call_entry PySem.F.slot_dict_eq da.typeIs PySem.F.entry_dict_eq ?_ (PySem.F.args_dict_eq_2 _ _)) hu
  show wpAny _ _ (Builtin.Dict.dictSlotArgs "__eq__" ⟨[.ref a, .ref b], []⟩ >>= _) _ _ s
  refine wpAny_bind ?_
  unfold Builtin.Dict.dictSlotArgs
  refine wpAny_bind (wpAny_notOrdered_dict da.typeIs ?_)
  show wpAny _ _ (pure (Value.ref a, Value.ref b)) _ _ s
  refine wpAny_pure ?_
  refine wpAny_bind (wpAny_isInstance (T := "dict") db.typeIs PySem.F.sub_dict_dict ?_)
  simp only [Bool.not_true, Bool.false_eq_true, if_false]
  refine wpAny_bind (wpAny_pure (wpAny_bind (wpAny_pure ?_)))
  refine wpAny_bind (raw_samePairs ha hb da db hsz ?_)
  refine wpAny_pure ⟨_, rfl, ?_, ?_⟩
  · exact fun x => nomatch x
  · simpa using h
theorem raw_ne {a b : Addr} {es es' : Array DictEntry} {ep ep' : Nat} {Q : Value → Shared → Prop} (ha : (a == sysModules) = false) (hb : (b == sysModules) = false)
    (da : s.heap.DictRaw a es ep) (db : s.heap.DictRaw b es' ep') (hsz : ¬ es.size = es'.size) (hu : A.units < cLine) (h : Q (.bool true) s) : wpAny (model prog w) A (compareOp .NotEq (.ref a) (.ref b)) Q E s := by
  refine wpAny_richCompare_same_room (op := .NotEq) da.typeIs db.typeIs PySem.F.slot_dict_ne (wpAny_call_entry PySem.F.slot_dict_ne da.typeIs PySem.F.entry_dict_ne ?_ (PySem.F.args_dict_ne_2 _ _)) hu
  show wpAny _ _ (Builtin.Dict.dictSlotArgs "__ne__" ⟨[.ref a, .ref b], []⟩ >>= _) _ _ s
  refine wpAny_bind ?_
  unfold Builtin.Dict.dictSlotArgs
  refine wpAny_bind (wpAny_notOrdered_dict da.typeIs ?_)
  show wpAny _ _ (pure (Value.ref a, Value.ref b)) _ _ s
  refine wpAny_pure ?_
  refine wpAny_bind (wpAny_isInstance (T := "dict") db.typeIs PySem.F.sub_dict_dict ?_)
  simp only [Bool.not_true, Bool.false_eq_true, if_false]
  refine wpAny_bind (wpAny_pure (wpAny_bind (wpAny_pure ?_)))
  refine wpAny_bind (raw_samePairs ha hb da db hsz ?_)
  refine wpAny_pure ⟨_, rfl, ?_, ?_⟩
  · exact fun x => nomatch x
  · simpa using h
end
section
variable {X : Cx} {pins : List (Addr × Obj)} {σ : L2.St} {H : Hp} {s : Shared} {ρ : List Addr} {μ : Sto} {a b : Addr} {kvs : List (PV × PV)}
/-- the raw entries, as many as the pairs -/
theorem DIs.size (d : DIs X H s ρ a kvs) : ∃ es ep, s.heap.DictRaw a es ep ∧ es.size = kvs.length := by
  rcases d.kind with ⟨vs, h1, h2⟩ | ⟨xs, h1, h2⟩
  · obtain ⟨es, ep, k1, k2, _⟩ := h1.raw
    exact ⟨es, ep, k1, by rw [k2, Paired.length h2]⟩
  · obtain ⟨es, ep, k1, k2, _⟩ := h1.raw
    exact ⟨es, ep, k1, by rw [k2, Paired.length h2]⟩
theorem DIs.typeIs (d : DIs X H s ρ a kvs) : s.TypeIs (.ref a) "dict" := let ⟨_, _, h⟩ := d.raw; h.typeIs
theorem DIs.noDict (d : DIs X H s ρ a kvs) : ∃ ob, s.heap.get? a = some ob ∧ ob.dict = none := let ⟨_, _, o, h1, h2, _⟩ := d.raw; ⟨o, h1, h2.2.1⟩
end
section
variable {X : Cx} {W : EW}
theorem vIx_item {p k : PV} {μ : Sto} {P : Program} {w : World} {K : PySem.W.Frag} {ρ : List Addr} {H : Hp} {Q : VK} (hn : ∀ i, p = .ref i → dctAt μ i = none) (h : Post P w K W ρ H (vIx [p, k] μ) (RV K) Q) : Post P w K W ρ H (vItem [p, k] μ) (RV K) Q := by
  cases p with
  | ref i =>
    have h : Post P w K W ρ H (match dctAt μ i with
      | some kvs => if keyIn kvs k = true then match dget kvs k with
          | some v => .ok v μ
          | none => .bad
        else .bad
      | none => vItem [.ref i, k] μ) (RV K) Q := h
    rw [hn i rfl] at h
    exact h
  | tup ps => exact h
  | str z => exact h
  | _ => exact h.elim
theorem oi_ix (hu : X.A.units + 9 < cLine) : OI X W vIx := by
  intro value slice pins s σ H x y v u Q I rx ry h hs
  obtain ⟨ρ, μ, ps, r, t, q⟩ := h
  cases r with
  | @cons p _ _ _ r1 r' =>
    cases r' with
    | @cons k _ _ _ r2 r'' =>
      cases r''
      by_cases hn : ∀ i, p = .ref i → dctAt μ i = none
      · exact oi_item (W := W) value slice pins s σ H x y v u Q I rx ry ⟨ρ, μ, [p, k], .cons r1 (.cons r2 .nil), t, vIx_item hn q⟩ hs
      · cases r1 with
        | @ref i a ha =>
          cases e : dctAt μ i with
          | none => exact absurd (fun j (z : PV.ref i = .ref j) => by cases z; exact e) hn
          | some kvs =>
            have q : Post X.prog X.w X.K W ρ H (match dctAt μ i with
              | some kvs => if keyIn kvs k = true then match dget kvs k with
                  | some v => .ok v μ
                  | none => .bad
                else .bad
              | none => vItem [.ref i, k] μ) (RV X.K) Q := q
            rw [e] at q
            by_cases c : keyIn kvs k = true
            · simp only [if_pos c] at q
              cases e2 : dget kvs k with
              | none => rw [e2] at q; exact q.elim
              | some vp =>
                rw [e2] at q
                obtain rfl : v = Value.ref a := rx
                have D := dis_of I t ha (dctAt_get e)
                have d := dis_key I D c r2 ry
                unfold subscriptTail
                refine wpAny_bind ?_
                rw [getitemInPython_of_ne D.typeIs.not_modules]
                refine wpAny_bind (wpAny_specialOf D.typeIs PySem.F.slot_dict_getitem.lookup ?_)
                have fin : wpAny (model X.prog X.w) X.A (subscripted slice false (.ref a) u) (fun r s₃ => wpAny (model X.prog X.w) X.A (letTemporaryGo value (.ref a) r >>= fun _ => pure r) (EP X pins σ Q) X.xe s₃) X.xe s := by
                  rw [hs]
                  refine wpAny_operating (dd_getItem hu I d e2 fun x' w' s' I' r3 r4 => wpAny_bind (wpAny_letTemporaryGo (wpAny_pure ⟨x', H, I', r4, q ρ x' H Step.refl r3 t⟩)))
                first
                  | exact wpAny_pure (wpAny_bind fin)
                  | exact wpAny_bind (wpAny_pure (wpAny_bind fin))
                  | exact wpAny_bind fin
            · simp only [if_neg c] at q
              exact q.elim
        | _ => exact absurd (fun j z => by cases z) hn

/-! ### in -/
theorem in_seq (hu : X.A.units + 65 < cLine) {pins : List (Addr × Obj)} {σ : L2.St} {H : Hp} {s : Shared} {ρ : List Addr} {μ : Sto} {p c : PV} {x y : V} {v u : Value} {b : Bool} (I : Inv X pins σ H s) (rx : RelV x v) (ry : RelV y u)
    (r1 : RV X.K ρ H p x) (r2 : RV X.K ρ H c y) (t : RSt X.prog X.w X.K ρ H μ) (h : inSeq μ p c = some b) :
    (∀ (E : Value → Shared → Prop) (Q : Value → Shared → Prop), (∀ s', Inv X pins σ H s' → Q (.bool b) s') → wpAny (model X.prog X.w) X.A (compareOp .In v u) Q E s) ∧
    (∀ (E : Value → Shared → Prop) (Q : Value → Shared → Prop), (∀ s', Inv X pins σ H s' → Q (.bool (!b)) s') → wpAny (model X.prog X.w) X.A (compareOp .NotIn v u) Q E s) := by
  have data : (match pdat μ 12 p, pdat μ 12 c with
    | some d, some (.list ds) => if (SeqAt.shaped d && SeqAt.shaped (.list ds)) = true then some (ds.any fun z => PyData.eqv z d) else none
    | some d, some (.tuple ds) => if (SeqAt.shaped d && SeqAt.shaped (.tuple ds)) = true then some (ds.any fun z => PyData.eqv z d) else none
    | _, _ => none) = some b →
    (∀ (E : Value → Shared → Prop) (Q : Value → Shared → Prop), (∀ s', Inv X pins σ H s' → Q (.bool b) s') → wpAny (model X.prog X.w) X.A (compareOp .In v u) Q E s) ∧
    (∀ (E : Value → Shared → Prop) (Q : Value → Shared → Prop), (∀ s', Inv X pins σ H s' → Q (.bool (!b)) s') → wpAny (model X.prog X.w) X.A (compareOp .NotIn v u) Q E s) := by
    intro h
    cases e1 : pdat μ 12 p with
    | none => rw [e1] at h; cases h
    | some d =>
      have k1 := pdat_of t 12 p x d r1 e1
      obtain ⟨as, a1⟩ := Dp.reads I d x v k1 rx
      cases e2 : pdat μ 12 c with
      | none => rw [e1, e2] at h; cases h
      | some dc =>
        rw [e1, e2] at h
        have k2 := pdat_of t 12 c y dc r2 e2
        obtain ⟨bs, a2⟩ := Dp.reads I dc y u k2 ry
        cases dc with
        | list ds =>
          by_cases cc : (SeqAt.shaped d && SeqAt.shaped (.list ds)) = true
          · simp only [if_pos cc, Option.some.injEq] at h
            subst h
            rw [Bool.and_eq_true] at cc
            exact ⟨fun E Q hq => SeqAt.in_list_reads a2 a1 (SeqAt.canLay_of_shaped cc.2) (SeqAt.canLay_of_shaped cc.1) (room_in_shaped cc.1 hu) (hq _ I),
              fun E Q hq => SeqAt.notIn_list_reads a2 a1 (SeqAt.canLay_of_shaped cc.2) (SeqAt.canLay_of_shaped cc.1) (room_in_shaped cc.1 hu) (hq _ I)⟩
          · simp only [if_neg cc] at h
            cases h
        | tuple ds =>
          by_cases cc : (SeqAt.shaped d && SeqAt.shaped (.tuple ds)) = true
          · simp only [if_pos cc, Option.some.injEq] at h
            subst h
            rw [Bool.and_eq_true] at cc
            exact ⟨fun E Q hq => SeqAt.in_tuple_reads a2 a1 (SeqAt.canLay_of_shaped cc.2) (SeqAt.canLay_of_shaped cc.1) (room_in_shaped cc.1 hu) (hq _ I),
              fun E Q hq => SeqAt.notIn_tuple_reads a2 a1 (SeqAt.canLay_of_shaped cc.2) (SeqAt.canLay_of_shaped cc.1) (room_in_shaped cc.1 hu) (hq _ I)⟩
          · simp only [if_neg cc] at h
            cases h
        | _ => cases h
  cases r2 with
  | str z =>
    cases r1 with
    | str a =>
      have h : some (strIn a z) = some b := h
      cases h
      obtain ⟨t1, rfl⟩ := rx
      obtain ⟨t2, rfl⟩ := ry
      have e : strIn a z = !(Builtin.Str.occurrences z a 0 z.length 1).isEmpty := by
        unfold strIn
        by_cases c : a.cps.size = 1
        · rw [if_pos c]
          obtain ⟨⟨l⟩⟩ := a
          cases l with
          | nil => cases c
          | cons k l =>
            cases l with
            | nil => exact (PySem.StrLaws.found_one z k).symm
            | cons _ _ => simp at c
        · rw [if_neg c]
      rw [e]
      refine ⟨fun E Q hq => PyProof.Rows.in_str (hq _ I), fun E Q hq => ?_⟩
      exact PyProof.Rows.notIn_str (hq _ I)
    | _ => cases h
  | tup h1 h2 => exact data h
  | ref ha => exact data h
  | _ => exact data h

theorem in_any (hu : X.A.units + 65 < cLine) {pins : List (Addr × Obj)} {σ : L2.St} {H : Hp} {s : Shared} {ρ : List Addr} {μ : Sto} {p c : PV} {x y : V} {v u : Value} {b : Bool} (I : Inv X pins σ H s) (rx : RelV x v) (ry : RelV y u)
    (r1 : RV X.K ρ H p x) (r2 : RV X.K ρ H c y) (t : RSt X.prog X.w X.K ρ H μ) (h : isIn μ p c = some b) :
    (∀ (E : Value → Shared → Prop) (Q : Value → Shared → Prop), (∀ s', Inv X pins σ H s' → Q (.bool b) s') → wpAny (model X.prog X.w) X.A (compareOp .In v u) Q E s) ∧
    (∀ (E : Value → Shared → Prop) (Q : Value → Shared → Prop), (∀ s', Inv X pins σ H s' → Q (.bool (!b)) s') → wpAny (model X.prog X.w) X.A (compareOp .NotIn v u) Q E s) := by
  cases r2 with
  | @ref i a ha =>
    have h : (match dctAt μ i with
      | some kvs => if keyIn kvs p = true then some (dget kvs p).isSome else none
      | none => inSeq μ p (.ref i)) = some b := h
    cases e : dctAt μ i with
    | none => rw [e] at h; exact in_seq hu I rx ry r1 (.ref ha) t h
    | some kvs =>
      rw [e] at h
      by_cases c : keyIn kvs p = true
      · simp only [if_pos c, Option.some.injEq] at h
        subst h
        obtain rfl : u = Value.ref a := ry
        have D := dis_of I t ha (dctAt_get e)
        have d := dis_key I D c r1 rx
        exact ⟨fun E Q hq => dd_in (by omega) I D.sys d hq, fun E Q hq => dd_notIn (by omega) I D.sys d hq⟩
      · simp only [if_neg c] at h
        cases h
  | tup h1 h2 => exact in_seq hu I rx ry r1 (.tup h1 h2) t h
  | str z => exact in_seq hu I rx ry r1 (.str z) t h
  | non => exact in_seq hu I rx ry r1 .non t h
  | bl k => exact in_seq hu I rx ry r1 (.bl k) t h
  | int k => exact in_seq hu I rx ry r1 (.int k) t h
  | ty n => exact in_seq hu I rx ry r1 (.ty n) t h
  | glb n => exact in_seq hu I rx ry r1 (.glb n) t h
theorem o2_in (hu : X.A.units + 65 < cLine) : O2 X W (compareOp .In) vIn := o2_of fun pins s σ H x y v u Q ρ μ p q I rx ry r1 r2 t h => by
  have h : Post X.prog X.w X.K W ρ H (match isIn μ p q with | some b => .ok (.bl b) μ | none => .bad) (RV X.K) Q := h
  cases e : isIn μ p q with
  | none => rw [e] at h; exact h.elim
  | some b =>
    rw [e] at h
    exact (in_any hu I rx ry r1 r2 t e).1 _ _ fun s' I' => ⟨.bl b, H, I', rfl, h ρ _ H Step.refl (.bl _) t⟩
theorem o2_notin (hu : X.A.units + 65 < cLine) : O2 X W (compareOp .NotIn) vNotIn := o2_of fun pins s σ H x y v u Q ρ μ p q I rx ry r1 r2 t h => by
  have h : Post X.prog X.w X.K W ρ H (match isIn μ p q with | some b => .ok (.bl (!b)) μ | none => .bad) (RV X.K) Q := h
  cases e : isIn μ p q with
  | none => rw [e] at h; exact h.elim
  | some b =>
    rw [e] at h
    exact (in_any hu I rx ry r1 r2 t e).2 _ _ fun s' I' => ⟨.bl (!b), H, I', rfl, h ρ _ H Step.refl (.bl _) t⟩
theorem dEmp_of {pins : List (Addr × Obj)} {σ : L2.St} {H : Hp} {s : Shared} {ρ : List Addr} {μ : Sto} {p q : PV} {x y : V} {v u : Value} {b : Bool} (hu : X.A.units < cLine) (I : Inv X pins σ H s) (rx : RelV x v) (ry : RelV y u)
    (r1 : RV X.K ρ H p x) (r2 : RV X.K ρ H q y) (t : RSt X.prog X.w X.K ρ H μ) (h : dEmp μ p q = some b) :
    (∀ (E : Value → Shared → Prop) (Q : Value → Shared → Prop), Q (.bool b) s → wpAny (model X.prog X.w) X.A (compareOp .Eq v u) Q E s) ∧
    (∀ (E : Value → Shared → Prop) (Q : Value → Shared → Prop), Q (.bool (!b)) s → wpAny (model X.prog X.w) X.A (compareOp .NotEq v u) Q E s) := by
  unfold dEmp at h
  cases r1 with
  | @ref i a ha =>
    cases r2 with
    | @ref j b' hb =>
      dsimp only at h
      cases e1 : dctAt μ i with
      | none => rw [e1] at h; cases h
      | some kvs =>
        cases e2 : dctAt μ j with
        | none => rw [e1, e2] at h; cases h
        | some js =>
          rw [e1, e2] at h
          cases js with
          | cons _ _ => cases h
          | nil =>
            simp only [Option.some.injEq] at h
            obtain rfl : v = Value.ref a := rx
            obtain rfl : u = Value.ref b' := ry
            have D1 := dis_of I t ha (dctAt_get e1)
            have D2 := dis_of I t hb (dctAt_get e2)
            cases kvs with
            | nil =>
              subst h
              exact ⟨fun E Q hq => PySem.W.keq_eq (knd := mixKind X.prog X.w) (r := true) D1.sys D2.sys (flat_nil D1) (flat_nil D2) hu (fun _ => .nil) hq,
                fun E Q hq => PySem.W.keq_ne (knd := mixKind X.prog X.w) (r := true) D1.sys D2.sys (flat_nil D1) (flat_nil D2) hu (fun _ => .nil) hq⟩
            | cons kv kvs =>
              subst h
              obtain ⟨es, ep, k1, k2⟩ := D1.size
              obtain ⟨es', ep', k3, k4⟩ := D2.size
              have hsz : ¬ es.size = es'.size := by rw [k2, k4]; simp
              exact ⟨fun E Q hq => raw_eq D1.sys D2.sys k1 k3 hsz hu hq, fun E Q hq => raw_ne D1.sys D2.sys k1 k3 hsz hu hq⟩
    | _ => cases h
  | _ => cases h
theorem o2_eqA (hu : X.A.units + 64 < cLine) : O2 X W (compareOp .Eq) vEqA := o2_of fun pins s σ H x y v u Q ρ μ p q I rx ry r1 r2 t h => by
  have h : Post X.prog X.w X.K W ρ H (match dEmp μ p q with | some b => .ok (.bl b) μ | none => vEq [p, q] μ) (RV X.K) Q := h
  cases e : dEmp μ p q with
  | none =>
    rw [e] at h
    exact o2_eq (W := W) hu pins s σ H x y v u Q I rx ry ⟨ρ, μ, [p, q], .cons r1 (.cons r2 .nil), t, h⟩
  | some b =>
    rw [e] at h
    exact (dEmp_of (by omega) I rx ry r1 r2 t e).1 _ _ ⟨.bl b, H, I, rfl, h ρ _ H Step.refl (.bl _) t⟩
theorem o2_neA (hu : X.A.units + 64 < cLine) : O2 X W (compareOp .NotEq) vNeA := o2_of fun pins s σ H x y v u Q ρ μ p q I rx ry r1 r2 t h => by
  have h : Post X.prog X.w X.K W ρ H (match dEmp μ p q with | some b => .ok (.bl (!b)) μ | none => vNe [p, q] μ) (RV X.K) Q := h
  cases e : dEmp μ p q with
  | none =>
    rw [e] at h
    exact o2_ne (W := W) hu pins s σ H x y v u Q I rx ry ⟨ρ, μ, [p, q], .cons r1 (.cons r2 .nil), t, h⟩
  | some b =>
    rw [e] at h
    exact (dEmp_of (by omega) I rx ry r1 r2 t e).2 _ _ ⟨.bl (!b), H, I, rfl, h ρ _ H Step.refl (.bl _) t⟩
/-- len -/
theorem DIs.callLen {pins : List (Addr × Obj)} {σ : L2.St} {H : Hp} {s : Shared} {ρ : List Addr} {a : Addr} {kvs : List (PV × PV)} {A : Around} {E : Value → Shared → Prop} {Q : Value → Shared → Prop} (D : DIs X H s ρ a kvs) (I : Inv X pins σ H s)
    (h : ∀ t s', Inv X pins σ H s' → Q (.int kvs.length t) s') : wpAny (model X.prog X.w) A (call (.builtin "len") [.ref a]) Q E s := by
  have z := D.len
  rw [sizeLine_eq] at z
  rcases D.kind with ⟨vs, h1, h2⟩ | ⟨xs, h1, h2⟩
  · refine call_len_dict D.sys h1 (by rw [← Paired.length h2]; omega) ?_
    rw [← Paired.length h2]
    exact h _ _ (I.tok _)
  · refine call_len_dictH D.sys h1 (by rw [← Paired.length h2]; omega) ?_
    rw [← Paired.length h2]
    exact h _ _ (I.tok _)
theorem oc_len : OC X W (.builtin "len") vLen := oc1_of fun pins s σ H xs us Q ρ μ ps I r rp t h => by
  cases rp with
  | nil => exact h.elim
  | @cons p x _ _ r1 r2 =>
    cases r2 with
    | cons _ _ => exact h.elim
    | nil =>
      have h : Post X.prog X.w X.K W ρ H (match lenOf μ p with | some n => .ok (.int n) μ | none => .bad) (RV X.K) Q := h
      cases e : lenOf μ p with
      | none => rw [e] at h; exact h.elim
      | some n =>
        rw [e] at h
        have q : Q (.int n) H := h ρ _ H Step.refl (.int _) t
        cases r1 with
        | tup h1 h2 =>
          cases e
          rw [h2.length] at q
          exact call_len_seq pins s σ H _ us Q I r ⟨_, _, rfl, .inr h1, q⟩
        | str z =>
          have e : (if z.length ≤ sizeLine then some z.length else none) = some n := e
          by_cases c : z.length ≤ sizeLine
          · rw [if_pos c] at e
            cases e
            exact call_len_str pins s σ H _ us Q I r ⟨z, rfl, c, q⟩
          · rw [if_neg c] at e
            cases e
        | @ref i a ha =>
          have e : (match dctAt μ i with | some kvs => some kvs.length | none => (seqAt μ i).map (·.length)) = some n := e
          cases e1 : dctAt μ i with
          | some kvs =>
            rw [e1] at e
            cases e
            obtain ⟨u, rfl, rx⟩ := vals1 r
            obtain rfl : u = Value.ref a := rx
            exact (dis_of I t ha (dctAt_get e1)).callLen I fun tk s' I' => ⟨.int kvs.length, H, I', ⟨tk, rfl⟩, q⟩
          | none =>
            rw [e1] at e
            obtain ⟨qs, e2, rfl⟩ := Option.map_eq_some_iff.mp e
            obtain ⟨vs, h1, h2⟩ := seqAt_of t ha e2
            rw [h2.length] at q
            exact call_len_seq pins s σ H _ us Q I r ⟨_, _, rfl, .inl h1, q⟩
        | _ => cases e

/-! ### methods of built-in things -/
/-- a method call: the receiver of this type -/
def dM (tp : PV → Sto → Bool) (f : VF) (d : DE) (ds : DA) : DE := fun η μ => (d η μ).bind fun p μ1 => if tp p μ1 = true then (ds η μ1).bind fun ps μ2 => f (p :: ps) μ2 else .bad
def isStrP : PV → Sto → Bool := fun p _ => match p with | .str _ => true | _ => false
def isLstP : PV → Sto → Bool := fun p μ => match p with | .ref i => (seqAt μ i).isSome | _ => false
def isDctP : PV → Sto → Bool := fun p μ => match p with | .ref i => (dctAt μ i).isSome | _ => false
def tyE (X : Cx) (tp : PV → Sto → Bool) (x : V) (H : Hp) : Prop := ∃ ρ μ p, RV X.K ρ H p x ∧ RSt X.prog X.w X.K ρ H μ ∧ tp p μ = true
theorem ty_str : TyOk X "str" (tyE X isStrP) := fun pins σ H s x v I rx ⟨ρ, μ, p, r, t, h⟩ => by
  cases r with
  | str z =>
    obtain ⟨tk, rfl⟩ := rx
    exact ⟨typeIs_str s z tk, fun _ e => nomatch e⟩
  | _ => cases h
theorem ty_lst : TyOk X "list" (tyE X isLstP) := fun pins σ H s x v I rx ⟨ρ, μ, p, r, t, h⟩ => by
  cases r with
  | @ref i a ha =>
    have h : (seqAt μ i).isSome = true := h
    obtain ⟨ps, e⟩ := Option.isSome_iff_exists.mp h
    obtain ⟨vs, h1, h2⟩ := seqAt_of t ha e
    exact tyV_is I rx (.inl ⟨rfl, vs, h1⟩)
  | _ => cases h
theorem ty_dct : TyOk X "dict" (tyE X isDctP) := fun pins σ H s x v I rx ⟨ρ, μ, p, r, t, h⟩ => by
  cases r with
  | @ref i a ha =>
    have h : (dctAt μ i).isSome = true := h
    obtain ⟨kvs, e⟩ := Option.isSome_iff_exists.mp h
    have D := dis_of I t ha (dctAt_get e)
    obtain rfl : v = Value.ref a := rx
    refine ⟨D.typeIs, fun b q => ?_⟩
    cases q
    exact D.noDict
  | _ => cases h
theorem dM_of {tp : PV → Sto → Bool} {f : VF} {d : DE} {ds : DA} {σ : L2.St} {H : Hp} {Q : VK} (h : T X.prog X.w X.K W (dM tp f d ds) σ H Q) :
    T X.prog X.w X.K W d σ H fun x H1 => tyE X tp x H1 ∧ TL X.prog X.w X.K W ds σ H1 fun vs H2 => rL X.prog X.w X.K W f (x :: vs) H2 Q := by
  obtain ⟨ρ, η, μ, en, s, q⟩ := h
  refine ⟨ρ, η, μ, en, s, (Post.bind q).mono fun x H1 ⟨ρ1, a, μ1, st, r, s1, q1⟩ => ?_⟩
  by_cases c : tp a μ1 = true
  · simp only [if_pos c] at q1
    refine ⟨⟨ρ1, μ1, a, r, s1, c⟩, ρ1, η, μ1, en.step st, s1, (Post.bind q1).mono fun vs H2 ⟨ρ2, qs, μ2, st2, r2, s2, q2⟩ => ?_⟩
    exact ⟨ρ2, μ2, a :: qs, .cons (r.step st2) r2, s2, q2⟩
  · simp only [if_neg c] at q1
    exact q1.elim
theorem le_m {o e : Expr} {es : List Expr} {T id : String} {name : Str} {apos cpos : Pos} {tp : PV → Sto → Bool} {f : VF} {d : DE} {ds : DA} (ht : TyOk X T (tyE X tp)) (pa : PlainAttrs T) (slot : Slot T name id) (hty : typeOf (.builtin id) = pure (.type "method_descriptor")) (hm : OM X W id f) (ho : LE X W o d) (ha : LA X W (e :: es) ds)
    (hbase : attributeBase o name X.env (eval o X.env) = eval o X.env := by rfl)
    (hfew : ((backTo cpos (starEach (e :: es) X.env)).all (fun x => !x.1) && (backToKw cpos (keywordEach [] X.env)).all (fun x => x.1.isSome)
      && decide ((e :: es).length + ([] : List Keyword).length + (if ([] : List Keyword).isEmpty then 0 else 1) < 30)) = true := by rfl)
    (hline : (apos.endLine == cpos.line) = true := by rfl) (hs : starEach (e :: es) X.env = (false, eval e X.env) :: starEach es X.env := by rfl) (hplain : (backTo cpos (starEach es X.env)).any (·.1) = false := by rfl) :
    LE X W (.Call (.Attribute o name apos) (e :: es) [] cpos) (dM tp f d ds) := (pe_mG ht pa slot hty hm ho ha hbase hfew hline hs hplain).impD fun _ _ _ h => dM_of h
theorem le_m0 {o : Expr} {T id : String} {name : Str} {apos cpos : Pos} {tp : PV → Sto → Bool} {f : VF} {d : DE} (ht : TyOk X T (tyE X tp)) (pa : PlainAttrs T) (slot : Slot T name id) (hty : typeOf (.builtin id) = pure (.type "method_descriptor")) (hm : OM X W id f) (ho : LE X W o d)
    (hbase : attributeBase o name X.env (eval o X.env) = eval o X.env := by rfl) (hline : (apos.endLine == cpos.line) = true := by rfl) :
    LE X W (.Call (.Attribute o name apos) [] [] cpos) (dM tp f d dNil) := (pe_mG0 ht pa slot hty hm ho hbase hline).impD fun _ _ _ h => (dM_of h).mono fun x H1 ⟨h1, h2⟩ => ⟨h1, tl_nil h2⟩
theorem le_cb {x : Str} {e : Expr} {es : List Expr} {p pos : Pos} {f : VF} {ds : DA} {id : String} (hc : OC X W (.builtin id) f) (hg : Gl X x) (hm : X.mg x = none) (hv : bootBuiltins x = some (.builtin id)) (ha : LA X W (e :: es) ds) (hn : x ≠ "__name__" := by decide) (hdb : (x == ("__debug__" : Str)) = false := by decide)
    (he : starEach (e :: es) X.env = (false, eval e X.env) :: starEach es X.env := by rfl) (hpl : (backTo pos (starEach es X.env)).any (·.1) = false := by rfl) :
    LE X W (.Call (.Name x p) (e :: es) [] pos) (dApp f ds) := (pe_callB hc hg hm hv ha hn hdb he hpl).impD fun _ _ _ h => app_of h
theorem le_ct {x : Str} {e : Expr} {es : List Expr} {p pos : Pos} {f : VF} {ds : DA} {T : String} (hc : OC X W (.type T) f) (hg : Gl X x) (hm : X.mg x = none) (hv : bootBuiltins x = some (.type T)) (ha : LA X W (e :: es) ds) (hn : x ≠ "__name__" := by decide) (hdb : (x == ("__debug__" : Str)) = false := by decide)
    (he : starEach (e :: es) X.env = (false, eval e X.env) :: starEach es X.env := by rfl) (hpl : (backTo pos (starEach es X.env)).any (·.1) = false := by rfl) :
    LE X W (.Call (.Name x p) (e :: es) [] pos) (dApp f ds) := (pe_callTy hc hg hm hv ha hn hdb he hpl).impD fun _ _ _ h => app_of h

/-! ### methods of dicts -/
theorem om_dget (hu : X.A.units + 9 < cLine) : OM X W "dict.get" vDGet := om_of fun pins s σ H x xs v us Q ρ μ p ps I rx r r1 rp t h => by
  cases r1 with
  | @ref i a ha =>
    obtain rfl : v = Value.ref a := rx
    cases rp with
    | nil => exact h.elim
    | @cons k y _ _ r2 r3 =>
      cases r with
      | @cons _ ku _ _ ry rs =>
        cases r3 with
        | nil =>
          cases rs
          have h : Post X.prog X.w X.K W ρ H (match dctAt μ i with
            | some kvs => if keyIn kvs k = true then .ok ((dget kvs k).getD .non) μ else .bad
            | none => .bad) (RV X.K) Q := h
          cases e : dctAt μ i with
          | none => rw [e] at h; exact h.elim
          | some kvs =>
            rw [e] at h
            by_cases c : keyIn kvs k = true
            · simp only [if_pos c] at h
              have D := dis_of I t ha (dctAt_get e)
              exact dd_get1 hu I D.sys (dis_key I D c r2 ry) fun x' w' s' I' r4 r5 => ⟨x', H, I', r5, h ρ x' H Step.refl r4 t⟩
            · simp only [if_neg c] at h
              exact h.elim
        | @cons dp dx _ _ r4 r5 =>
          cases r5 with
          | cons _ _ => exact h.elim
          | nil =>
            cases rs with
            | @cons _ du _ _ rd rs' =>
              cases rs'
              have h : Post X.prog X.w X.K W ρ H (match dctAt μ i with
                | some kvs => if keyIn kvs k = true then .ok ((dget kvs k).getD dp) μ else .bad
                | none => .bad) (RV X.K) Q := h
              cases e : dctAt μ i with
              | none => rw [e] at h; exact h.elim
              | some kvs =>
                rw [e] at h
                by_cases c : keyIn kvs k = true
                · simp only [if_pos c] at h
                  have D := dis_of I t ha (dctAt_get e)
                  exact dd_get2 hu I D.sys (dis_key I D c r2 ry) r4 rd fun x' w' s' I' r6 r7 => ⟨x', H, I', r7, h ρ x' H Step.refl r6 t⟩
                · simp only [if_neg c] at h
                  exact h.elim
  | _ => first | exact h.elim | (cases rp <;> exact h.elim)
end
end DL
/-! D11: stores into items, isinstance, conversions, displays of dicts, a tuple once -/
namespace DL
open PySem PySem.Spec PyProof.Rows L2

/-! ### tuple * 1 -/
theorem tuple_mul1 (l : Addr) (items : Array Value) (n : Nat) (sl : Array (Option Value)) (dd : Option Addr) (u : Tok) :
    Meets (Builtin.«tuple.__mul__» ⟨[.ref l, .int 1 u], []⟩) (fun _ R s => s.heap.get? l = some { cls := .type "tuple", dict := dd, data := .seq items n, slots := sl } ∧ R (.ok (.ret (.ref l))) s) :=
  .of_wp fun prog w A R s h => by
    obtain ⟨hp, g, d, tk, os⟩ := s
    obtain ⟨hl, h⟩ := h
    have f1 := AutoSeq1.idx_int
    have c1 : (items.isEmpty || (1 : Int) == 1) = true := by simp
    wp_walk using wpAny_loadPart' hl
    repeat (first
      | exact ⟨_, rfl, h⟩
      | (rw [if_pos c1]; wp_walk using wpAny_loadPart' hl)
      | (refine wpAny_ite_true (decide_eq_true c1) ?_; wp_walk using wpAny_loadPart' hl))
def vMulA : VF := fun xs μ => match xs with
  | [.tup ps, .int k] => if k = 1 then .ok (.tup ps) μ else vMul [.tup ps, .int k] μ
  | [p, q] => vMul [p, q] μ
  | _ => .bad
section
variable {X : Cx} {W : EW}
theorem o2_mulA : O2 X W (binaryOp .Mult) vMulA := o2_of fun pins s σ H x y v u Q ρ μ p q I rx ry r1 r2 t h => by
  have other : Post X.prog X.w X.K W ρ H (vMul [p, q] μ) (RV X.K) Q → wpAny (model X.prog X.w) X.A (binaryOp .Mult v u) (EP X pins σ Q) X.xe s := fun h =>
    o2_mul (W := W) pins s σ H x y v u Q I rx ry ⟨ρ, μ, [p, q], .cons r1 (.cons r2 .nil), t, h⟩
  cases r1 with
  | @tup ps vs l h1 h2 =>
    cases r2 with
    | int k =>
      have h : Post X.prog X.w X.K W ρ H (if k = 1 then .ok (.tup ps) μ else vMul [.tup ps, .int k] μ) (RV X.K) Q := h
      by_cases c : k = 1
      · rw [if_pos c] at h
        subst c
        cases rx
        obtain ⟨tk, rfl⟩ := ry
        obtain ⟨its, r, ⟨⟨cls, dd, data, sl⟩, ho, hc, n, hd⟩, hs⟩ := I.tuple h1
        simp only at hc hd
        subst hc hd
        refine wpAny_binaryOp_repeat_ref (T := "tuple") (U := "int") (by decide) ⟨_, ho, rfl⟩ (fun s' => typeIs_int s' 1 tk) noFill_tuple_mul F.fills_int_mul F.slot_int_rmul repeat_tuple F.slot_int_index.lookup
          (call_meets F.slot_int_rmul (typeIs_int s 1 tk) F.entry_int_rmul (F.args_int_rmul_2 _ _) (int_rmul_tuple 1 tk l its.toArray n dd sl)
            ⟨ho, rfl, ⟨_, ho, rfl⟩, call_meets F.slot_tuple_mul ⟨_, ho, rfl⟩ F.entry_tuple_mul (F.args_tuple_mul_2 _ _) (tuple_mul1 l its.toArray n sl dd tk) ⟨ho, ?_⟩⟩)
        exact ⟨.ref l, H, I, rfl, h ρ _ H Step.refl (.tup h1 h2) t⟩
      · rw [if_neg c] at h
        exact other h
    | _ => exact other h
  | non => exact other (by cases r2 <;> exact h)
  | bl b => exact other (by cases r2 <;> exact h)
  | int i => exact other (by cases r2 <;> exact h)
  | str z => exact other (by cases r2 <;> exact h)
  | ty n => exact other (by cases r2 <;> exact h)
  | glb a => exact other (by cases r2 <;> exact h)
  | ref ha => exact other (by cases r2 <;> exact h)

/-! ### o[i] = v -/
def storeL (i v : PV) (ps : List PV) : Option (List PV) := match i with
  | .int k => (ixN ps.length k).map fun n => ps.set n v
  | _ => none
/-- of a list, of a dict: the store behind it -/
def vStore (o i v : PV) (μ : Sto) : Option Sto := match o with
  | .ref j => match dctAt μ j with
    | some kvs => if keyIn kvs i = true ∧ kvs.length < sizeLine then some (μ.set j (.dct (dput kvs i v))) else none
    | none => match (isLst μ j).bind (storeL i v) with
      | some ps => some (μ.set j (.lst ps))
      | none => none
  | _ => none
def gItem (d1 d2 : DE) : DG := fun p η μ => (d1 η μ).bind fun o μ1 => (d2 η μ1).bind fun i μ2 => match vStore o i p μ2 with
  | some μ3 => .ok η μ3
  | none => .bad
def rStore (P : Program) (w : World) (K : PySem.W.Frag) : TSet := fun ox ix vx H Q => ∃ ρ μ o i v μ', RV K ρ H o ox ∧ RV K ρ H i ix ∧ RV K ρ H v vx ∧ RSt P w K ρ H μ ∧ vStore o i v μ = some μ' ∧ ∀ H', Step K ρ H ρ H' → RSt P w K ρ H' μ' → Q H'
theorem set_any (hu : X.A.units + 9 < cLine) : PSet X (rStore X.prog X.w X.K) := by
  intro pins s σ H ox ix vx ov iv u Q I ro ri rv h
  obtain ⟨ρ, μ, o, i, v, μ', r1, r2, r3, t, e, q⟩ := h
  cases r1 with
  | @ref j a ha =>
    obtain rfl : ov = Value.ref a := ro
    have e : (match dctAt μ j with
      | some kvs => if keyIn kvs i = true ∧ kvs.length < sizeLine then some (μ.set j (.dct (dput kvs i v))) else none
      | none => match (isLst μ j).bind (storeL i v) with
        | some ps => some (μ.set j (.lst ps))
        | none => none) = some μ' := e
    cases e1 : dctAt μ j with
    | some kvs =>
      rw [e1] at e
      by_cases c : keyIn kvs i = true ∧ kvs.length < sizeLine
      · simp only [if_pos c, Option.some.injEq] at e
        subst e
        have D := dis_of I t ha (dctAt_get e1)
        exact dd_setItem hu I t ha D (dis_key I D c.1 r2 ri) r3 rv c.2 fun H' s' st t' I' => ⟨H', I', q H' st t'⟩
      · simp only [if_neg c] at e
        cases e
    | none =>
      rw [e1] at e
      cases e2 : isLst μ j with
      | none => simp only [e2, Option.bind_none] at e; cases e
      | some ps =>
        simp only [e2, Option.bind_some] at e
        obtain ⟨vs, h1, h2⟩ := isLst_of t ha e2
        cases r2 with
        | int k =>
          have e : (match (ixN ps.length k).map (fun n => ps.set n v) with
            | some ps => some (μ.set j (.lst ps))
            | none => none) = some μ' := e
          cases e3 : ixN ps.length k with
          | none => rw [e3] at e; cases e
          | some n =>
            rw [e3, Option.map_some] at e
            simp only [Option.some.injEq] at e
            subst e
            obtain ⟨st, t'⟩ := write_lst t ha h1 (h2.set r3 n)
            exact set_list pins s σ H (.ref a) (.int k) vx _ iv u Q I rfl ri rv ⟨a, vs, k, n, rfl, rfl, h1, by rw [← h2.length]; exact e3, q _ st t'⟩
        | _ => cases e
  | _ => cases e
theorem lg_item {o i : Expr} {pos : Pos} {d1 d2 : DE} {js : List Nat} (hu : X.A.units + 9 < cLine) (ho : LE X W o d1) (hi : LE X W i d2)
    (ha : ∀ v, assign (.Subscript o i pos) X.env v = (do
      let ov ← holding [v] (eval o X.env)
      let iv ← holding [v, ov] (eval i X.env)
      standAt pos
      holding [v, ov, iv] (setItem ov iv v)
      release [v, ov, iv] []) := by intro _; rfl) : LG X W js (.Subscript o i pos) (gItem d1 d2) := (pg_sub ho hi (set_any hu) ha).impD fun v σ H Q ⟨ρ, η, μ, p, en, r, s, q⟩ => by
  refine ⟨ρ, η, μ, en, s, (Post.bind q).mono fun ox H1 ⟨ρ1, o, μ1, st, r1, s1, q1⟩ => ?_⟩
  refine ⟨ρ1, η, μ1, en.step st, s1, (Post.bind q1).mono fun ix H2 ⟨ρ2, i, μ2, st2, r2, s2, q2⟩ => ?_⟩
  cases e : vStore o i p μ2 with
  | none => rw [e] at q2; exact q2.elim
  | some μ3 =>
    rw [e] at q2
    exact ⟨ρ2, μ2, o, i, p, μ3, r1.step st2, r2, (r.step st).step st2, s2, e, fun H' st' s' => q2 ρ2 σ H' st' ⟨((en.step st).step st2).step st', .refl⟩ s'⟩

/-! ### isinstance -/
inductive Tg where
  | non | bl | int | str | tup | lst | dct | own (C : Addr)
  deriving DecidableEq
def tgOf (p : PV) (μ : Sto) : Option Tg := match p with
  | .non => some .non
  | .bl _ => some .bl
  | .int _ => some .int
  | .str _ => some .str
  | .tup _ => some .tup
  | .ref i => match μ[i]? with
    | some (.lst _) => some .lst
    | some (.rol _) => some .lst
    | some (.dct _) => some .dct
    | some (.ins C _) => some (.own C)
    | none => none
  | _ => none
def tgVal : Tg → Value
  | .non => .type "NoneType"
  | .bl => .type "bool"
  | .int => .type "int"
  | .str => .type "str"
  | .tup => .type "tuple"
  | .lst => .type "list"
  | .dct => .type "dict"
  | .own C => .ref C
def vIsi (f : Tg → Option Bool) : VF := fun xs μ => match xs with
  | [p] => match (tgOf p μ).bind f with
    | some b => .ok (.bl b) μ
    | none => .bad
  | _ => .bad
/-- an own class, for isinstance -/
structure OwnI (K : PySem.W.Frag) (C : Addr) : Prop where
  cl : Cls K C
  ha : PySem.W.findIn K (.ref C) "__class__" = some (some (.builtin "object.__class__"))
  hn : PySem.W.specialIn K (.builtin "object.__class__") "__get__" = some (some (.builtin "getset_descriptor.__get__"))
  htk : PySem.W.takesIn K (.builtin "object.__class__") = some true
  hm : PySem.W.mroIn K C (.type "object") = some true
/-- what isinstance(.., c) answers -/
structure IsiC (K : PySem.W.Frag) (c : Value) (f : Tg → Option Bool) : Prop where
  one : ∀ t b, f t = some b → PySem.W.kitOne K (tgVal t) c = some b
  own : ∀ C b, f (.own C) = some b → OwnI K C
theorem isi_of {c : Value} {f : Tg → Option Bool} {pins : List (Addr × Obj)} {σ : L2.St} {H : Hp} {s : Shared} {ρ : List Addr} {μ : Sto} {p : PV} {x : V} {u : Value} {tg : Tg} {b : Bool} {Q : Value → Shared → Prop} {E : Value → Shared → Prop} (F : IsiC X.K c f) (I : Inv X pins σ H s) (t : RSt X.prog X.w X.K ρ H μ) (r : RV X.K ρ H p x) (rx : RelV x u)
    (h1 : tgOf p μ = some tg) (h2 : f tg = some b) (h : ∀ tk, Q (.bool b) { s with toks := tk }) : wpAny (model X.prog X.w) X.A (call (.builtin "isinstance") [u, c]) Q E s := by
  have e := F.one tg b h2
  have go : ∀ {P : Heap → Prop}, PySem.W.KitX X.K u (tgVal tg) P → P s.heap → u ≠ .builtin "__main__.__loader__#opaque" → wpAny (model X.prog X.w) X.A (call (.builtin "isinstance") [u, c]) Q E s := fun Z p hx => PySem.W.kia_one Z I.kIn p e hx h
  cases r with
  | non => cases h1; cases (show u = Value.none from rx); exact go PySem.W.kitx_none True.intro (fun z => nomatch z)
  | bl y => cases h1; cases (show u = Value.bool y from rx); exact go PySem.W.kitx_bool True.intro (fun z => nomatch z)
  | int i => cases h1; obtain ⟨t, q⟩ := (show ∃ t, u = Value.int i t from rx); cases q; exact go PySem.W.kitx_int True.intro (fun z => nomatch z)
  | str y => cases h1; obtain ⟨t, q⟩ := (show ∃ t, u = Value.str y t from rx); cases q; exact go PySem.W.kitx_str True.intro (fun z => nomatch z)
  | tup k1 k2 =>
    cases h1
    cases rx
    obtain ⟨its, rv, pl, _⟩ := I.tuple k1
    exact go PySem.W.kitx_tuple pl.typeIs (fun z => nomatch z)
  | @ref i a ha =>
    cases (show u = Value.ref a from rx)
    have h1 : (match μ[i]? with
      | some (.lst _) => some Tg.lst
      | some (.rol _) => some .lst
      | some (.dct _) => some .dct
      | some (.ins C _) => some (.own C)
      | none => none) = some tg := h1
    cases e1 : μ[i]? with
    | none => rw [e1] at h1; cases h1
    | some ob =>
      rw [e1] at h1
      cases ob with
      | lst ps =>
        cases h1
        obtain ⟨vs, k1, k2⟩ := seqAt_of t ha (show seqAt μ i = some ps by unfold seqAt; rw [e1])
        obtain ⟨its, rv, pl, _⟩ := I.list k1
        exact go PySem.W.kitx_list pl.isList.typeIs (fun z => nomatch z)
      | rol ps =>
        cases h1
        obtain ⟨vs, k1, k2⟩ := seqAt_of t ha (show seqAt μ i = some ps by unfold seqAt; rw [e1])
        obtain ⟨its, rv, pl, _⟩ := I.list k1
        exact go PySem.W.kitx_list pl.isList.typeIs (fun z => nomatch z)
      | dct kvs =>
        cases h1
        exact go PySem.W.kitx_dict (dis_of I t ha e1).typeIs (fun z => nomatch z)
      | ins C fs =>
        cases h1
        obtain ⟨dx, gs, k1, k2, k3⟩ := t.obj i a _ ha e1
        have O := F.own C b h2
        obtain ⟨P, Z, p, hx⟩ := kit_of I (x := .ref a) (u := .ref a) rfl (.base (.ins k1 O.cl O.ha O.hn O.htk O.hm))
        exact go Z p hx
  | _ => cases h1
theorem oc_isi {c : Value} {v0 : V} {f : Tg → Option Bool} (F : IsiC X.K c f) (hv : ∀ u, RelV v0 u → u = c) : CallR X (.builtin "isinstance") (fun xs H Q => ∃ x, xs = [x, v0] ∧ rL X.prog X.w X.K W (vIsi f) [x] H Q) := by
  intro pins s σ H xs us Q I r h
  obtain ⟨x, rfl, ρ, μ, ps, rp, t, q⟩ := h
  obtain ⟨u, u', rfl, r1, r2⟩ := vals2 r
  obtain rfl := hv u' r2
  cases rp with
  | @cons p _ _ _ rp1 rp2 =>
    cases rp2
    have q : Post X.prog X.w X.K W ρ H (match (tgOf p μ).bind f with | some b => .ok (.bl b) μ | none => .bad) (RV X.K) Q := q
    cases e : tgOf p μ with
    | none => rw [e] at q; exact q.elim
    | some tg =>
      rw [e, Option.bind_some] at q
      cases e2 : f tg with
      | none => rw [e2] at q; exact q.elim
      | some b =>
        rw [e2] at q
        exact isi_of F I t rp1 r1 e e2 fun tk => ⟨.bl b, H, I.tok tk, rfl, q ρ _ H Step.refl (.bl _) t⟩
theorem le_isi {c : Value} {v0 : V} {f : Tg → Option Bool} {e ce : Expr} {p pos : Pos} {d : DE} (F : IsiC X.K c f) (hv : ∀ u, RelV v0 u → u = c) (hg : Gl X "isinstance") (hm : X.mg "isinstance" = none) (h1 : LE X W e d) (h2 : PE X ce (tC v0))
    (s1 : starEach (e :: [ce]) X.env = (false, eval e X.env) :: starEach [ce] X.env := by rfl) (s2 : starEach (ce :: []) X.env = (false, eval ce X.env) :: starEach [] X.env := by rfl) (hpl : (backTo pos (starEach [ce] X.env)).any (·.1) = false := by rfl) :
    LE X W (.Call (.Name "isinstance" p) [e, ce] [] pos) (dApp (vIsi f) (dCons d dNil)) :=
  (pe_callB (oc_isi (W := W) F hv) hg hm (by decide +kernel) (pa_cons h1 (pa_cons h2 pa_nil s2) s1) (by decide) (by decide) s1 hpl).impD fun σ H Q h => (app1 h).mono fun x H1 h => ⟨x, rfl, h⟩
end
/-- isinstance(.., a built-in type) -/
def isiB (n : Tg) (cs : List Addr) : Tg → Option Bool
  | .own C => if C ∈ cs then some false else none
  | t => some (decide (t = n) || (decide (t = .bl) && decide (n = .int)))
def builtTg (n : Tg) : Prop := n = .int ∨ n = .str ∨ n = .bl ∨ n = .tup ∨ n = .lst ∨ n = .dct
theorem isiB_of {K : PySem.W.Frag} {n : Tg} {cs : List Addr} (hb : builtTg n) (hc : ∀ C ∈ cs, OwnI K C ∧ PySem.W.kitOne K (.ref C) (tgVal n) = some false) : IsiC K (tgVal n) (isiB n cs) where
  one := fun t b h => by
    cases t with
    | own C =>
      have h : (if C ∈ cs then some false else none) = some b := h
      by_cases c : C ∈ cs
      · rw [if_pos c] at h
        cases h
        exact (hc C c).2
      · rw [if_neg c] at h
        cases h
    | _ => rcases hb with e | e | e | e | e | e <;> subst e <;> (cases h; exact kit_ty (by decide +kernel))
  own := fun C b h => by
    have h : (if C ∈ cs then some false else none) = some b := h
    by_cases c : C ∈ cs
    · exact (hc C c).1
    · rw [if_neg c] at h
      cases h
end DL
/-! D12: displays of dicts, setdefault, list(), tuple() -/
namespace DL
open PySem PySem.Spec PyProof.Rows L2

/-! ### a new dict -/
section
variable {X : Cx} {W : EW} {pins : List (Addr × Obj)} {σ : L2.St} {H : Hp} {s : Shared} {ρ : List Addr} {μ : Sto}
/-- a new object, whatever it is, is known by itself -/
theorem ext_laid {h' : Heap} {a : Addr} {o : Obj} {t' : Nat} (I : Inv X pins σ H s) (k : ∀ b u, s.heap.get? b = some u → h'.get? b = some u) (hp : s.heap.objs.size ≤ a) (he : h'.get? a = some o) :
    Inv X pins σ (upd H a (dO a o)) { s with heap := h', toks := t' } := I.laid (o := dO a o) k hp ⟨he, ⟨o, he⟩, fun h1 h2 z k => k _ z⟩
theorem obj_empty {P : Program} {w : World} {K : PySem.W.Frag} {ρ : List Addr} {H : Hp} : DObj P w K ρ H { cls := .type "dict", data := .dict #[] } [] :=
  ⟨⟨rfl, rfl, rfl⟩, Nat.zero_le _, #[], 0, rfl, .inl ⟨[], (fun e he => by simp at he), .nil, List.nodup_nil, .nil⟩⟩
theorem ne_sys (I : Inv X pins σ H s) {a : Addr} (h : s.heap.objs.size ≤ a) : (a == sysModules) = false := beq_eq_false_iff_ne.mpr (Ne.symm (Nat.ne_of_lt (Nat.lt_of_lt_of_le I.big h)))
def dNewD : DE := fun _ μ => .ok (.ref μ.length) (μ ++ [.dct []])
theorem le_newD {pos : Pos} : LE X W (.Dict [] [] pos) dNewD := ⟨fun pins s σ H Q I ⟨ρ, η, μ, en, t, q⟩ => by
  have hn : H s.heap.objs.size = none := I.hok.fresh (Nat.le_refl _)
  have I1 : Inv X pins σ (upd H s.heap.objs.size (dO s.heap.objs.size { cls := .type "dict", data := .dict #[] })) { s with heap := s.heap.push { cls := .type "dict", data := .dict #[] }, toks := s.toks } :=
    ext_laid I (fun _ _ q => Heap.get?_push_of_some _ q) (Nat.le_refl _) (Heap.get?_push_size _ rfl)
  refine wpAny_Dict_empty ⟨.ref s.heap.objs.size, _, I1, rfl, ?_⟩
  exact q (ρ ++ [s.heap.objs.size]) (.ref s.heap.objs.size) _ (Step.new hn) (.ref t.nextId) (t.new hn ⟨_, upd_same, ne_sys I (Nat.le_refl _), obj_empty⟩)⟩
end

/-! ### a display of pairs -/
def dPairs : List (DE × DE) → Env' → Sto → Rz (List (PV × PV))
  | [], _, μ => .ok [] μ
  | d :: ds, η, μ => (d.1 η μ).bind fun k μ1 => (d.2 η μ1).bind fun v μ2 => (dPairs ds η μ2).bind fun r μ3 => .ok ((k, v) :: r) μ3
def mergeP (kvs more : List (PV × PV)) : List (PV × PV) := more.foldl (fun acc kv => dput acc kv.1 kv.2) kvs
/-- keys of one kind, each within reach -/
def keysOne : List (PV × PV) → Bool
  | [] => false
  | q :: r => keyIn (q :: r) q.1 && r.all fun z => keyIn (q :: r) z.1
def dDisp (ds : List (DE × DE)) : DE := fun η μ => (dPairs ds η μ).bind fun kvs μ1 => if keysOne kvs = true ∧ kvs.length ≤ 15 then .ok (.ref μ1.length) (μ1 ++ [.dct (mergeP [] kvs)]) else .bad
abbrev RPs (K : PySem.W.Frag) (ρ : List Addr) (H : Hp) : List (PV × PV) → List (V × V) → Prop := Paired fun p q => RV K ρ H p.1 q.1 ∧ RV K ρ H p.2 q.2
theorem length_mergeP : ∀ (more kvs : List (PV × PV)), (mergeP kvs more).length ≤ kvs.length + more.length
  | [], kvs => Nat.le_refl _
  | p :: r, kvs => by
    have h1 := length_mergeP r (dput kvs p.1 p.2)
    have h2 := length_dput kvs p.1 p.2
    show (mergeP (dput kvs p.1 p.2) r).length ≤ _
    rw [List.length_cons]
    omega
section
variable {X : Cx} {W : EW}
def trsOf (X : Cx) (W : EW) (ds : List (DE × DE)) : List (TE × TE) := ds.map fun d => (T X.prog X.w X.K W d.1, T X.prog X.w X.K W d.2)
abbrev LP (X : Cx) (W : EW) (pos : Pos) (keys : List (Option Expr)) (values : List Expr) (ds : List (DE × DE)) : Prop := PPs X pos keys values (trsOf X W ds)
theorem lp_nil {pos : Pos} : LP X W pos [] [] [] := pps_nil
theorem lp_cons {pos : Pos} {k v : Expr} {ks : List (Option Expr)} {vs : List Expr} {dk dv : DE} {ds : List (DE × DE)} (hk : LE X W k dk) (hv : LE X W v dv) (hr : LP X W pos ks vs ds) : LP X W pos (some k :: ks) (v :: vs) ((dk, dv) :: ds) := pps_cons hk hv hr
theorem pairs_tr : ∀ {ds : List (DE × DE)} {ρ : List Addr} {η : Env'} {μ : Sto} {σ : L2.St} {H : Hp} {Q : List (V × V) → Hp → Prop}, REnv X.K ρ H η σ → RSt X.prog X.w X.K ρ H μ → Post X.prog X.w X.K W ρ H (dPairs ds η μ) (RPs X.K) Q → tPairs (trsOf X W ds) σ H Q
  | [], ρ, η, μ, σ, H, Q, en, t, q => q ρ [] H Step.refl .nil t
  | d :: ds, ρ, η, μ, σ, H, Q, en, t, q => by
    unfold dPairs at q
    refine ⟨ρ, η, μ, en, t, (Post.bind q).mono fun x H1 ⟨ρ1, a, μ1, st, r, s1, q1⟩ => ?_⟩
    refine ⟨ρ1, η, μ1, en.step st, s1, (Post.bind q1).mono fun y H2 ⟨ρ2, b, μ2, st2, r2, s2, q2⟩ => ?_⟩
    refine pairs_tr ((en.step st).step st2) s2 ((Post.bind q2).mono fun ps H3 ⟨ρ3, kvs, μ3, st3, r3, s3, q3⟩ => ?_)
    exact q3 ρ3 ((x, y) :: ps) H3 Step.refl (.cons ⟨(r.step st2).step st3, r2.step st3⟩ r3) s3
theorem dict_pairsA {κ : Type} [DecidableEq κ] {prog : Program} {w : World} {knd : HeapKind prog w κ} {A : Around} {E : Value → Shared → Prop} {s : Shared} {env : Env} {keys : List (Option Expr)} {values : List Expr} {pos : Pos} {Q : Value → Shared → Prop} (hu : knd.room A)
    (hall : keys.all (·.isSome) = true) (hl : keys.length = values.length) (h0 : keys ≠ []) (hlen : keys.length ≤ 15)
    (h : wpAny (model prog w) A (evalPairs (pairTrees keys values env pos)) (fun vs s₁ => ∃ ps, CarriesH knd s₁.heap vs ps ∧ s₁.heap.DictOfH knd s.heap.objs.size [] ∧
      ∀ h' tk, h'.DictOfH knd s.heap.objs.size (storedAllH [] ps) → Heap.SameBut s.heap.objs.size s₁.heap h' → Q (.ref s.heap.objs.size) { s₁ with heap := h', toks := tk }) E
      { s with heap := s.heap.push { cls := .type "dict", data := .dict #[] } }) : wpAny (model prog w) A (eval (.Dict keys values pos) env) Q E s := by
  have hn := pairTrees_length keys values env pos hall hl
  have hne : pairTrees keys values env pos ≠ [] := fun he => by
    rw [he] at hn
    exact h0 (List.length_eq_zero_iff.mp hn.symm)
  rw [arm_eval_Dict, zip_pairTrees keys values env pos hall hl, dictDisplay_pairs (pairTrees keys values env pos) hne (by omega)]
  refine wpAny_bind (wpAny_standAt (wpAny_bind (wpAny_subDictH (knd := knd) (Q := fun d s' => wpAny (model prog w) A (pure (Value.ref d)) Q E s') hu (by omega) (wpAny_mono h (fun vs s₁ h₁ => ?_) fun _ _ e => e))))
  obtain ⟨ps, hc, hm, hq⟩ := h₁
  exact ⟨ps, hc, hm, fun h' tk a b => wpAny_pure (hq h' tk a b)⟩
/-- all keys flat, or all nested -/
theorem keys_flat {q : PV × PV} {r : List (PV × PV)} (h : keysOne (q :: r) = true) (hq : isTup q.1 = false) : ∀ z ∈ q :: r, ∃ k, keyOf z.1 = some k := by
  have one : ∀ z : PV × PV, keyIn (q :: r) z.1 = true → ∃ k, keyOf z.1 = some k := by
    intro z h
    unfold keyIn at h
    rw [Bool.and_eq_true] at h
    obtain ⟨h1, h2⟩ := h
    have h2 : (isTup q.1 == isTup z.1) = true := h2
    rw [hq] at h2
    cases e : z.1 with
    | int i => exact ⟨_, rfl⟩
    | str x => exact ⟨_, rfl⟩
    | tup ps => rw [e] at h2; cases h2
    | _ => rw [e] at h1; cases h1
  unfold keysOne at h
  rw [Bool.and_eq_true, List.all_eq_true] at h
  intro z hz
  rcases List.mem_cons.mp hz with e | hz
  · exact one z (by rw [e]; exact h.1)
  · exact one z (h.2 z hz)
theorem keys_nest {q : PV × PV} {r : List (PV × PV)} (h : keysOne (q :: r) = true) (hq : isTup q.1 = true) : ∀ z ∈ q :: r, ∃ ps n, z.1 = .tup ps ∧ nkOf z.1 = some n ∧ n.depth ≤ 8 := by
  have one : ∀ z : PV × PV, keyIn (q :: r) z.1 = true → ∃ ps n, z.1 = .tup ps ∧ nkOf z.1 = some n ∧ n.depth ≤ 8 := by
    intro z h
    unfold keyIn at h
    rw [Bool.and_eq_true] at h
    obtain ⟨h1, h2⟩ := h
    have h2 : (isTup q.1 == isTup z.1) = true := h2
    rw [hq] at h2
    cases e : z.1 with
    | tup ps =>
      rw [e] at h1
      have h1 : (match nkOf (.tup ps) with | some n => decide (n.depth ≤ 8) | none => false) = true := h1
      cases e2 : nkOf (.tup ps) with
      | none => rw [e2] at h1; cases h1
      | some n => rw [e2] at h1; exact ⟨ps, n, rfl, rfl, of_decide_eq_true h1⟩
    | _ => rw [e] at h2; cases h2
  unfold keysOne at h
  rw [Bool.and_eq_true, List.all_eq_true] at h
  intro z hz
  rcases List.mem_cons.mp hz with e | hz
  · exact one z (by rw [e]; exact h.1)
  · exact one z (h.2 z hz)
theorem carry_flat {P : Program} {w : World} {K : PySem.W.Frag} {ρ : List Addr} {H : Hp} : ∀ {kvs : List (PV × PV)} {vs : List (V × V)} {us : List (Value × Value)}, (∀ z ∈ kvs, ∃ k, keyOf z.1 = some k) → RPs K ρ H kvs vs → VV vs us →
    ∃ rs, Carries (mixKind P w) us rs ∧ PrF K ρ H kvs rs
  | [], [], [], _, .nil, .nil => ⟨[], True.intro, .nil⟩
  | p :: _, q :: _, u :: _, hk, .cons h t, .cons g t' => by
    obtain ⟨rs, c, r⟩ := carry_flat (P := P) (w := w) (fun z hz => hk z (List.mem_cons_of_mem _ hz)) t t'
    obtain ⟨k, e⟩ := hk p List.mem_cons_self
    have e1 := keyOf_pv e
    obtain ⟨u1, u2⟩ := u
    have is : (mixKind P w).is k u1 = true := by
      obtain ⟨h1, h2⟩ := h
      rw [← e1] at h1
      cases k with
      | inl i => cases q with | mk q1 q2 => cases h1; exact kV_is g.1
      | inr x => cases q with | mk q1 q2 => cases h1; exact kV_is g.1
    exact ⟨(k, u2) :: rs, ⟨is, rfl, c⟩, .cons ⟨e1.symm, q.2, g.2, h.2⟩ r⟩
theorem carry_nest {pins : List (Addr × Obj)} {σ : L2.St} {H : Hp} {s : Shared} {ρ : List Addr} (I : Inv X pins σ H s) : ∀ {kvs : List (PV × PV)} {vs : List (V × V)} {us : List (Value × Value)}, (∀ z ∈ kvs, ∃ ps n, z.1 = .tup ps ∧ nkOf z.1 = some n ∧ n.depth ≤ 8) → RPs X.K ρ H kvs vs → VV vs us →
    ∃ xs, CarriesH (nestedKind X.prog X.w) s.heap us xs ∧ PrN X.K ρ H kvs xs
  | [], [], [], _, .nil, .nil => ⟨[], True.intro, .nil⟩
  | p :: _, q :: _, u :: _, hk, .cons h t, .cons g t' => by
    obtain ⟨xs, c, r⟩ := carry_nest I (fun z hz => hk z (List.mem_cons_of_mem _ hz)) t t'
    obtain ⟨ps, n, e, e1, e2⟩ := hk p List.mem_cons_self
    have e3 := nkOf_pv e1
    obtain ⟨u1, u2⟩ := u
    obtain ⟨q1, q2⟩ := q
    obtain ⟨h1, h2⟩ := h
    obtain ⟨g1, g2⟩ := g
    have h1' : RV X.K ρ H (.tup ps) q1 := e ▸ h1
    cases h1' with
    | @tup _ vs b k1 k2 =>
      obtain rfl : u1 = Value.ref b := g1
      have is : (nestedKind X.prog X.w).is s.heap n b := ⟨nkey_is I (v := .ref b) (by rw [e3]; exact h1) rfl, e2⟩
      exact ⟨(n, b, u2) :: xs, ⟨rfl, rfl, is, c⟩, .cons ⟨e3.symm, e2, h1, q2, g2, h2⟩ r⟩
theorem prf_merge {K : PySem.W.Frag} {ρ : List Addr} {H : Hp} : ∀ {more : List (PV × PV)} {rs : List (Key × Value)} {kvs : List (PV × PV)} {vs : List (Key × Value)}, PrF K ρ H more rs → PrF K ρ H kvs vs → PrF K ρ H (mergeP kvs more) (merged vs rs)
  | _, _, _, _, .nil, r => r
  | _, _, kvs, vs, .cons (a := p) (b := q) h t, r => by
    have z := pr_put (fun {a b} => pvK_inj) r q.1 (v := p.2) (u := q.2) h.2
    rw [← h.1] at z
    exact prf_merge (kvs := dput kvs p.1 p.2) (vs := stored vs q.1 q.2) t z
theorem prn_merge {K : PySem.W.Frag} {ρ : List Addr} {H : Hp} : ∀ {more : List (PV × PV)} {rs : List (NestedKey × Addr × Value)} {kvs : List (PV × PV)} {vs : List (NestedKey × Addr × Value)}, PrN K ρ H more rs → PrN K ρ H kvs vs → PrN K ρ H (mergeP kvs more) (storedAllH vs rs)
  | _, _, _, _, .nil, r => r
  | _, _, kvs, vs, .cons (a := p) (b := q) h t, r => by
    have z := prn_put r h.2.1 (k := q.1) (b := q.2.1) (v := p.2) (u := q.2.2) (h.1 ▸ h.2.2.1) h.2.2.2
    rw [← h.1] at z
    exact prn_merge (kvs := dput kvs p.1 p.2) (vs := storedH vs q.1 q.2.1 q.2.2) t z
theorem dw0 {X : Cx} {pins : List (Addr × Obj)} {σ : L2.St} {s2 : Shared} {H2 : Hp} {p : Addr} {o0 o : Obj} {kvs : List (PV × PV)} {es : Array DictEntry} {ep : Nat} (I2 : Inv X pins σ H2 s2) (hp : H2 p = some (dO p o0)) (hz : ∀ es ep, o0.data = .dict es ep → es.size = 0) (hd : o.data = .dict es ep) (hsz : es.size = kvs.length) (hne : kvs ≠ []) : DW H2 p (dO p o) := fun o1 es1 ep1 e1 e2 => by
  have e0 : s2.heap.get? p = some o0 := (I2.hok p _ hp).1
  have : s2.heap.get? p = some o1 := (I2.hok p _ e1).1
  rw [e0] at this
  cases this
  have := hz es1 ep1 e2
  have : 0 < kvs.length := List.length_pos_iff.mpr hne
  exact ⟨o, es, ep, rfl, hd, by omega, fun z => by omega⟩
/-- the dict at p, ahead not numbered, gets the next number -/
theorem dict_done {pins : List (Addr × Obj)} {σ : L2.St} {s2 : Shared} {H H2 : Hp} {ρ ρ2 : List Addr} {μ2 : Sto} {p : Addr} {o0 : Obj} {Q : VK} {kvs : List (PV × PV)} {h' : Heap} {tk : Nat} {W' : EW} (I2 : Inv X pins σ H2 s2) (h0 : H p = none) (st : Step X.K ρ H ρ2 H2) (t2 : RSt X.prog X.w X.K ρ2 H2 μ2) (np : p ∉ ρ2)
    (hp : H2 p = some (dO p o0)) (sys : (p == sysModules) = false) (hl : kvs.length ≤ sizeLine) (hs : Heap.SameBut p s2.heap h') (hz : ∀ es ep, o0.data = .dict es ep → es.size = 0)
    (d : (∃ vs, h'.DictOf (mixKind X.prog X.w) p vs ∧ PrF X.K ρ2 H2 kvs vs) ∨ ∃ xs, h'.DictOfH (nestedKind X.prog X.w) p xs ∧ PrN X.K ρ2 H2 kvs xs) (hne : kvs ≠ [])
    (q : Post X.prog X.w X.K W' ρ H (.ok (.ref μ2.length) (μ2 ++ [.dct kvs])) (RV X.K) Q) : EP X pins σ Q (.ref p) { s2 with heap := h', toks := tk } := by
  have e0 : s2.heap.get? p = some o0 := (I2.hok p _ hp).1
  have mu : Mut (H2 p) := by rw [hp]; trivial
  have key : ∀ (o : Obj) es ep, h'.get? p = some o → o.data = .dict es ep → es.size = kvs.length → DObj X.prog X.w X.K (ρ2 ++ [p]) (upd H2 p (dO p o)) o kvs → EP X pins σ Q (.ref p) { s2 with heap := h', toks := tk } := by
    intro o es ep ho hd hsz D
    have dw : DW H2 p (dO p o) := fun o1 es1 ep1 e1 e2 => by
      have : s2.heap.get? p = some o1 := (I2.hok p _ e1).1
      rw [e0] at this
      cases this
      have := hz es1 ep1 e2
      have : 0 < kvs.length := List.length_pos_iff.mpr hne
      exact ⟨o, es, ep, rfl, hd, by omega, fun z => by omega⟩
    have I3 : Inv X pins σ (upd H2 p (dO p o)) { s2 with heap := h', toks := tk } := dd_write I2 mu hs ho
    have gr : Grow X.K ρ2 H2 (ρ2 ++ [p]) (upd H2 p (dO p o)) := ⟨fun i a ha => by
      rw [List.getElem?_append_left (List.getElem?_eq_some_iff.mp ha).1]
      exact ha, (Grow.write (ρ := ρ2) mu dw).tup, DKeep.upd dw⟩
    have st3 := st.over h0 mu dw (u := dO p o)
    obtain ⟨more, em, fm⟩ := st3.ext
    refine ⟨.ref p, _, I3, rfl, q (ρ2 ++ [p]) (.ref p) _ ⟨⟨more ++ [p], by rw [em, List.append_assoc], fun b hb => ?_⟩, st3.keep, st3.tup, st3.live, st3.dct⟩ (.ref ?_) ⟨by simp [t2.len], ?_, fun i a ob ha ho => ?_⟩⟩
    · rcases List.mem_append.mp hb with hb | hb
      · exact fm b hb
      · rw [List.mem_singleton.mp hb]; exact h0
    · rw [t2.len, List.getElem?_append_right (Nat.le_refl _), Nat.sub_self]
      rfl
    · rw [List.nodup_append]
      refine ⟨t2.nd, by simp, fun a ha b hb => ?_⟩
      rw [List.mem_singleton.mp hb]
      exact fun e => np (e ▸ ha)
    · by_cases hi : i < ρ2.length
      · rw [List.getElem?_append_left hi] at ha
        rw [List.getElem?_append_left (by rw [t2.len]; exact hi)] at ho
        exact (t2.obj i a ob ha ho).step gr fun u hu => by
          rw [upd_ne fun e => np (by rw [← e]; exact List.mem_of_getElem? ha)]
          exact hu
      · have e : i = ρ2.length := by
          have := (List.getElem?_eq_some_iff.mp ha).1
          simp at this
          omega
        subst e
        rw [List.getElem?_append_right (Nat.le_refl _), Nat.sub_self] at ha
        rw [List.getElem?_append_right (by rw [t2.len]; exact Nat.le_refl _), t2.len, Nat.sub_self] at ho
        cases ha
        cases ho
        exact ⟨o, upd_same, sys, D⟩
  rcases d with ⟨vs, ⟨o, es, ep, h1, h2, h3, h4, h5, h6⟩, r⟩ | ⟨xs, ⟨o, es, ep, h1, h2, h3, h4, h5, h6⟩, r⟩
  · have hsz : es.size = kvs.length := by rw [Paired.length r, ← h5.length]; exact Array.length_toList.symm
    refine key o es ep h1 h3 hsz ⟨h2, hl, es, ep, h3, .inl ⟨vs, h4, h5, h6, Paired.mapP r fun p q h => ⟨h.1, h.2.step ?_⟩⟩⟩
    exact ⟨fun i a ha => by
      rw [List.getElem?_append_left (List.getElem?_eq_some_iff.mp ha).1]
      exact ha, (Grow.write (ρ := ρ2) mu (dw0 I2 hp hz h3 hsz hne)).tup, DKeep.upd (dw0 I2 hp hz h3 hsz hne)⟩
  · have hsz : es.size = kvs.length := by rw [Paired.length r]; exact size_of_entries h4
    have gr : Grow X.K ρ2 H2 (ρ2 ++ [p]) (upd H2 p (dO p o)) := ⟨fun i a ha => by
      rw [List.getElem?_append_left (List.getElem?_eq_some_iff.mp ha).1]
      exact ha, (Grow.write (ρ := ρ2) mu (dw0 I2 hp hz h3 hsz hne)).tup, DKeep.upd (dw0 I2 hp hz h3 hsz hne)⟩
    exact key o es ep h1 h3 hsz ⟨h2, hl, es, ep, h3, .inr ⟨xs, h4, h6, Paired.mapP r fun p q h => ⟨h.1, h.2.1, h.2.2.1.grow gr, h.2.2.2.step gr⟩⟩⟩

theorem dput_ne (kvs : List (PV × PV)) (k v : PV) (h : kvs ≠ []) : dput kvs k v ≠ [] := by
  unfold dput
  split
  · simpa using h
  · simp
theorem merge_ne : ∀ (more kvs : List (PV × PV)), kvs ≠ [] → mergeP kvs more ≠ []
  | [], _, h => h
  | p :: r, kvs, h => merge_ne r (dput kvs p.1 p.2) (dput_ne kvs p.1 p.2 h)
theorem le_disp {pos : Pos} {keys : List (Option Expr)} {values : List Expr} {ds : List (DE × DE)} (hu : X.A.units + 9 < cLine) (h : LP X W pos keys values ds) (hall : keys.all (·.isSome) = true := by rfl) (hl : keys.length = values.length := by rfl) (h0 : keys ≠ [] := by exact fun z => nomatch z) (h15 : keys.length ≤ 15 := by decide) :
    LE X W (.Dict keys values pos) (dDisp ds) := ⟨fun pins s σ H Q I ⟨ρ, η, μ, en, t, q⟩ => by
  have hn : H s.heap.objs.size = none := I.hok.fresh (Nat.le_refl _)
  have I1 : Inv X pins σ (upd H s.heap.objs.size (dO s.heap.objs.size { cls := .type "dict", data := .dict #[] })) { s with heap := s.heap.push { cls := .type "dict", data := .dict #[] }, toks := s.toks } :=
    ext_laid I (fun _ _ q => Heap.get?_push_of_some _ q) (Nat.le_refl _) (Heap.get?_push_size _ rfl)
  have st1 : Step X.K ρ H ρ (upd H s.heap.objs.size (dO s.heap.objs.size { cls := .type "dict", data := .dict #[] })) := Step.quiet hn
  have t1 : RSt X.prog X.w X.K ρ (upd H s.heap.objs.size (dO s.heap.objs.size { cls := .type "dict", data := .dict #[] })) μ := t.quiet hn
  have np := t.fresh hn
  cases e : dPairs ds η μ with
  | bad => unfold dDisp at q; rw [e] at q; exact q.elim
  | err C v μ2 =>
    unfold dDisp at q
    rw [e] at q
    refine dict_pairsA (knd := nestedKind X.prog X.w) (show X.A.units + 8 < cLine by omega) hall hl h0 h15 (thn (h.run pins _ σ _ (fun _ _ => False) I1 (pairs_tr (W := W) (en.step st1) t1 ?_)) fun us s2 ⟨vs, H2, I2, rel, z⟩ => z.elim)
    rw [e]
    exact fun ρ2 H2 st2 t2 => q ρ2 H2 (st1.trans st2) t2
  | ok kvs μ2 =>
    unfold dDisp at q
    rw [e, Rz.bind_ok] at q
    by_cases c : keysOne kvs = true ∧ kvs.length ≤ 15
    · rw [if_pos c] at q
      have run : wpAny (model X.prog X.w) X.A (evalPairs (pairTrees keys values X.env pos)) (fun us s2 => ∃ vs H2 ρ2, Inv X pins σ H2 s2 ∧ VV vs us ∧ Step X.K ρ H ρ2 H2 ∧ RSt X.prog X.w X.K ρ2 H2 μ2 ∧ RPs X.K ρ2 H2 kvs vs ∧ s.heap.objs.size ∉ ρ2 ∧
          H2 s.heap.objs.size = some (dO s.heap.objs.size { cls := .type "dict", data := .dict #[] })) X.xe { s with heap := s.heap.push { cls := .type "dict", data := .dict #[] } } := by
        refine thn (h.run pins _ σ _ (fun vs H2 => ∃ ρ2, Step X.K ρ H ρ2 H2 ∧ RSt X.prog X.w X.K ρ2 H2 μ2 ∧ RPs X.K ρ2 H2 kvs vs ∧ s.heap.objs.size ∉ ρ2 ∧ H2 s.heap.objs.size = some (dO s.heap.objs.size { cls := .type "dict", data := .dict #[] })) I1 (pairs_tr (W := W) (en.step st1) t1 ?_))
          fun us s2 ⟨vs, H2, I2, rel, ρ2, a1, a2, a3, a4, a5⟩ => ⟨vs, H2, ρ2, I2, rel, a1, a2, a3, a4, a5⟩
        rw [e]
        intro ρ2 vs H2 st2 rel t2
        refine ⟨ρ2, st1.trans st2, t2, rel, fun hm => ?_, st2.keep _ _ upd_same np⟩
        obtain ⟨more, em, fm⟩ := st2.ext
        rw [em] at hm
        rcases List.mem_append.mp hm with hm | hm
        · exact np hm
        · have := fm _ hm
          rw [upd_same] at this
          cases this
      have sys := ne_sys I (Nat.le_refl s.heap.objs.size)
      have hz : ∀ es ep, ({ cls := .type "dict", data := .dict #[] } : Obj).data = .dict es ep → es.size = 0 := fun es ep z => by cases z; rfl
      have hlen : (mergeP [] kvs).length ≤ sizeLine := by
        have := length_mergeP kvs []
        rw [List.length_nil] at this
        rw [sizeLine_eq]
        omega
      cases kvs with
      | nil => exact absurd c.1 (by decide)
      | cons z r =>
        have hne : mergeP [] (z :: r) ≠ [] := merge_ne r (dput [] z.1 z.2) (by simp [dput])
        cases ct : isTup z.1 with
        | false =>
          refine wpAny_Dict_walk (knd := mixKind X.prog X.w) hall hl h0 h15 (thn run fun us s2 ⟨vs, H2, ρ2, I2, rel, st, t2, rp, np2, hp⟩ => ?_)
          obtain ⟨rs, cr, rf⟩ := carry_flat (P := X.prog) (w := X.w) (keys_flat c.1 ct) rp rel
          refine ⟨rs, cr, ?_, fun h' dd' hs => ?_⟩
          · exact ⟨_, #[], 0, (I2.hok _ _ hp).1, ⟨rfl, rfl, rfl⟩, rfl, (fun e he => by simp at he), .nil, List.nodup_nil⟩
          · exact dict_done I2 hn st t2 np2 hp sys hlen hs hz (.inl ⟨_, dd', prf_merge rf .nil⟩) hne q
        | true =>
          refine dict_pairsA (knd := nestedKind X.prog X.w) (show X.A.units + 8 < cLine by omega) hall hl h0 h15 (thn run fun us s2 ⟨vs, H2, ρ2, I2, rel, st, t2, rp, np2, hp⟩ => ?_)
          obtain ⟨xs, cr, rf⟩ := carry_nest I2 (keys_nest c.1 ct) rp rel
          refine ⟨xs, cr, ?_, fun h' tk dd' hs => ?_⟩
          · exact ⟨_, #[], 0, (I2.hok _ _ hp).1, ⟨rfl, rfl, rfl⟩, rfl, rfl, (fun x hx => by cases hx), List.nodup_nil⟩
          · exact dict_done I2 hn st t2 np2 hp sys hlen hs hz (.inr ⟨_, dd', prn_merge rf .nil⟩) hne q
    · rw [if_neg c] at q
      exact q.elim⟩
end

/-! ### setdefault -/
section
variable {X : Cx} {W : EW}
theorem om_setd (hu : X.A.units + 9 < cLine) : OM X W "dict.setdefault" vSetd := om_of fun pins s σ H x xs v us Q ρ μ p ps I rx r r1 rp t h => by
  cases r1 with
  | @ref i a ha =>
    obtain rfl : v = Value.ref a := rx
    cases rp with
    | nil => exact h.elim
    | @cons k y _ _ r2 r3 =>
      cases r with
      | @cons _ ku _ _ ry rs =>
        cases r3 with
        | nil => exact h.elim
        | @cons dp dx _ _ r4 r5 =>
          cases r5 with
          | cons _ _ => exact h.elim
          | nil =>
            cases rs with
            | @cons _ du _ _ rd rs' =>
              cases rs'
              have h : Post X.prog X.w X.K W ρ H (match dctAt μ i with
                | some kvs => if keyIn kvs k = true ∧ kvs.length < sizeLine then match dget kvs k with
                    | some v => .ok v μ
                    | none => .ok dp (μ.set i (.dct (dput kvs k dp)))
                  else .bad
                | none => .bad) (RV X.K) Q := h
              cases e : dctAt μ i with
              | none => rw [e] at h; exact h.elim
              | some kvs =>
                rw [e] at h
                by_cases c : keyIn kvs k = true ∧ kvs.length < sizeLine
                · simp only [if_pos c] at h
                  have D := dis_of I t ha (dctAt_get e)
                  have d := dis_key I D c.1 r2 ry
                  refine dd_setd hu I t ha D d r4 rd c.2 (fun p hp x' w' s' I' r6 r7 => ?_) fun hn H' s' st t' I' => ?_
                  · rw [hp] at h
                    exact ⟨x', H, I', r7, h ρ x' H Step.refl r6 t⟩
                  · rw [hn] at h
                    exact ⟨dx, H', I', rd, h ρ dx H' st (r4.step st) t'⟩
                · simp only [if_neg c] at h
                  exact h.elim
  | _ => first | exact h.elim | (cases rp <;> exact h.elim)

/-! ### list(), tuple() -/
def vList : VF := fun xs μ => match xs with
  | [.tup ps] => .ok (.ref μ.length) (μ ++ [.lst ps])
  | [.ref i] => match seqAt μ i with
    | some ps => .ok (.ref μ.length) (μ ++ [.lst ps])
    | none => .bad
  | _ => .bad
def vTuple : VF := fun xs μ => match xs with
  | [.tup ps] => .ok (.tup ps) μ
  | [.ref i] => match seqAt μ i with
    | some ps => .ok (.tup ps) μ
    | none => .bad
  | _ => .bad
theorem oc_list : OC X W (.type "list") vList := oc1_of fun pins s σ H xs us Q ρ μ ps I r rp t h => by
  cases rp with
  | nil => exact h.elim
  | cons r1 r2 =>
    cases r2 with
    | cons _ _ => cases r1 <;> exact h.elim
    | nil =>
      cases r1 with
      | tup h1 h2 => exact call_list_of pins s σ H _ us Q I r ⟨_, _, rfl, .inr h1, fun l hl => ok_lst t h2 hl h⟩
      | @ref i a ha =>
        have h : Post X.prog X.w X.K W ρ H (match seqAt μ i with
          | some ps => .ok (.ref μ.length) (μ ++ [.lst ps])
          | none => .bad) (RV X.K) Q := h
        cases e : seqAt μ i with
        | none => rw [e] at h; exact h.elim
        | some ps =>
          rw [e] at h
          obtain ⟨vs, h1, h2⟩ := seqAt_of t ha e
          exact call_list_of pins s σ H _ us Q I r ⟨_, _, rfl, .inl h1, fun l hl => ok_lst t h2 hl h⟩
      | _ => exact h.elim
theorem oc_tuple : OC X W (.type "tuple") vTuple := oc1_of fun pins s σ H xs us Q ρ μ ps I r rp t h => by
  cases rp with
  | nil => exact h.elim
  | cons r1 r2 =>
    cases r2 with
    | cons _ _ => cases r1 <;> exact h.elim
    | nil =>
      cases r1 with
      | tup h1 h2 => exact call_tuple_of pins s σ H _ us Q I r ⟨_, _, rfl, .inr ⟨h1, h ρ _ H Step.refl (.tup h1 h2) t⟩⟩
      | @ref i a ha =>
        have h : Post X.prog X.w X.K W ρ H (match seqAt μ i with
          | some ps => .ok (.tup ps) μ
          | none => .bad) (RV X.K) Q := h
        cases e : seqAt μ i with
        | none => rw [e] at h; exact h.elim
        | some ps =>
          rw [e] at h
          obtain ⟨vs, h1, h2⟩ := seqAt_of t ha e
          exact call_tuple_of pins s σ H _ us Q I r ⟨_, _, rfl, .inl ⟨h1, fun l hl => ok_tup t h2 hl h⟩⟩
      | _ => exact h.elim
end
end DL
/-! D13: what is walked -/
namespace DL
open PySem PySem.Spec PyProof.Rows L2

def vOf : Value → V
  | .bool b => .bl b
  | .int i _ => .int i
  | .str x _ => .str x
  | .bytes b _ => .byt b
  | .float b _ => .flt b
  | .ref a => .ref a
  | .type n => .ty n
  | _ => .non
theorem vOf_of {x : V} {u : Value} (a : L2.RelV x u) : vOf u = x := by
  cases x with
  | non => cases a; rfl
  | bl b => cases a; rfl
  | int i => obtain ⟨t, rfl⟩ := a; rfl
  | str z => obtain ⟨t, rfl⟩ := a; rfl
  | byt z => obtain ⟨t, rfl⟩ := a; rfl
  | flt z => obtain ⟨t, rfl⟩ := a; rfl
  | ref z => cases a; rfl
  | ty z => cases a; rfl
theorem relV_uniq {x y : V} {u : Value} (a : L2.RelV x u) (b : L2.RelV y u) : x = y := (vOf_of a).symm.trans (vOf_of b)
theorem vals_uniq : ∀ {xs ys : List V} {us : List Value}, Vals xs us → Vals ys us → xs = ys
  | _, _, _, .nil, .nil => rfl
  | _, _, _, .cons a t, .cons b t' => by rw [relV_uniq a b, vals_uniq t t']

section
variable (P : Program) (w : World) (K : PySem.W.Frag) (ρ0 : List Addr) (H0 : Hp) (gd : Sto → Bool)
def gS (H : Hp) (ρ : List Addr) (μ : Sto) : Prop := Grow K ρ0 H0 ρ H ∧ RSt P w K ρ H μ ∧ gd μ = true
/-- values that stand already -/
def J1 (its : List PV) : It :=
  ⟨fun i H => (∃ ρ μ, gS P w K ρ0 H0 gd H ρ μ) ∧ i < its.length, fun i H x H' => H' = H ∧ ∀ ρ μ p, gS P w K ρ0 H0 gd H ρ μ → its[i]? = some p → RV K ρ H p x, fun i H => (∃ ρ μ, gS P w K ρ0 H0 gd H ρ μ) ∧ i = its.length⟩
/-- new tuples -/
def J2 (its : List (List PV)) : It :=
  ⟨fun i H => (∃ ρ μ, gS P w K ρ0 H0 gd H ρ μ) ∧ i < its.length, fun i H x H' => ∃ T vs, x = .ref T ∧ H T = none ∧ H' = upd H T (.tup vs) ∧ ∀ ρ μ ps, gS P w K ρ0 H0 gd H ρ μ → its[i]? = some ps → RVs K ρ H ps vs, fun i H => (∃ ρ μ, gS P w K ρ0 H0 gd H ρ μ) ∧ i = its.length⟩
theorem wk1 (its : List PV) : Wk P w K (J1 P w K ρ0 H0 gd its) ρ0 H0 its gd where
  go := fun i p ρ H μ gr t hg hp => ⟨⟨⟨ρ, μ, gr, t, hg⟩, (List.getElem?_eq_some_iff.mp hp).1⟩, fun x H' ⟨e, h⟩ => by
    subst e
    exact ⟨Step.refl, t, h ρ μ p ⟨gr, t, hg⟩ hp⟩⟩
  stop := fun ρ H μ gr t hg => ⟨⟨ρ, μ, gr, t, hg⟩, rfl⟩
theorem wk2 (its : List (List PV)) : Wk P w K (J2 P w K ρ0 H0 gd its) ρ0 H0 (its.map PV.tup) gd where
  go := fun i p ρ H μ gr t hg hp => by
    rw [List.getElem?_map] at hp
    obtain ⟨ps, hp', rfl⟩ := Option.map_eq_some_iff.mp hp
    clear hp
    have hp := hp'
    refine ⟨⟨⟨ρ, μ, gr, t, hg⟩, (List.getElem?_eq_some_iff.mp hp').1⟩, fun x H' ⟨T, vs, e1, hT, e2, h⟩ => ?_⟩
    subst e1 e2
    exact ⟨Step.quiet hT, t.quiet hT, .tup (SqT.of upd_same) ((h ρ μ ps ⟨gr, t, hg⟩ hp).step (Step.quiet hT))⟩
  stop := fun ρ H μ gr t hg => ⟨⟨ρ, μ, gr, t, hg⟩, by rw [List.length_map]⟩
end

/-- what stands in the heap, of which its are the values -/
structure Src (P : Program) (w : World) (K : PySem.W.Frag) (ρ0 : List Addr) (H0 : Hp) (gd : Sto → Bool) (its : List PV) (con : Heap → List V → Prop) : Prop where
  fn : ∀ h vs vs', con h vs → con h vs' → vs = vs'
  val : ∀ (X : Cx) (pins : List (Addr × Obj)) (σ : L2.St) (H : Hp) (s : Shared), X.prog = P → X.w = w → X.K = K → Inv X pins σ H s → ∀ ρ μ, gS P w K ρ0 H0 gd H ρ μ → ∃ vs, con s.heap vs ∧ RVs K ρ H its vs
/-- an iterator's own state, in cells of its own -/
structure Own (own : List Addr) (it : Addr) (tn : Nat → Heap → Prop) : Prop where
  mem : it ∈ own
  obj : ∀ i h, tn i h → ∀ b ∈ own, ∃ o, h.get? b = some o ∧ ∀ v, o.data ≠ .cell v
  keep : ∀ i h h', tn i h → (∀ b ∈ own, ∀ o, h.get? b = some o → h'.get? b = some o) → tn i h'
  self : ∀ (prog : Program) (w : World) (A : Around) (i : Nat) (s : Shared) (Q : Value → Shared → Prop) (E : Value → Shared → Prop), tn i s.heap → Q (.ref it) s → wpAny (model prog w) A (pyIter (.ref it)) Q E s
section
variable {P : Program} {w : World} {K : PySem.W.Frag} {ρ0 : List Addr} {H0 : Hp} {gd : Sto → Bool} {own : List Addr} {it : Addr} {tn : Nat → Heap → Prop} {tg : Expr}
/-- values that stand already -/
theorem turn1 {its : List PV} {con : Heap → List V → Prop} (S : Src P w K ρ0 H0 gd its con) (O : Own own it tn)
    (goes : ∀ (A : Around) (i : Nat) (h : Heap) (vs : List V), A.handled = none → con h vs → tn i h → (∀ b ∈ own, b < h.objs.size) → ∃ fp wr Y St, GoesN P w A tg it fp wr vs.length Y St ∧ St i h ∧ (∀ b ∈ wr, b ∈ own) ∧ (∀ j h, St j h → tn j h) ∧ ∀ j h0 v h', Y j h0 v h' → ∃ x, vs[j]? = some x ∧ L2.RelV x v) :
    Turn P w K tg (J1 P w K ρ0 H0 gd its) own it tn where
  mem := O.mem
  obj := O.obj
  keep := O.keep
  item := by
    intro X hP hw hK hc i pins s σ H E I hf st hg
    obtain ⟨⟨ρ, μ, g⟩, hlt⟩ := hg
    obtain ⟨vs, c, r⟩ := S.val X pins σ H s hP hw hK I ρ μ g
    have hl := r.length
    obtain ⟨fp, wr, Y, St, G, st1, hw1, hst, hY⟩ := goes X.A i s.heap vs (I.ok.hd hc) c st fun b hb => let ⟨o, ho, _⟩ := O.obj i _ st b hb; Heap.lt_size ho
    refine wpAny_mono (G.goes i s (fun u s2 => ∃ x H', Inv X pins σ H' s2 ∧ L2.RelV x u ∧ (J1 P w K ρ0 H0 gd its).yld i H x H' ∧ tn (i + 1) s2.heap ∧ ∀ b ∈ own, H' b = none) E (by omega) st1 fun v h' tk hy st2 hk htk => ?_) (fun _ _ q => q) fun _ _ e => e
    obtain ⟨x, hx, rx⟩ := hY i _ v h' hy
    refine ⟨x, H, I.turnedL (t' := tk) (ch := wr) hk (fun b hb => hf b (hw1 b hb)), rx, ⟨rfl, fun ρ' μ' p g' hp => ?_⟩, hst _ _ st2, fun b hb => (hf b hb).1⟩
    obtain ⟨vs', c', r'⟩ := S.val X pins σ H s hP hw hK I ρ' μ' g'
    have := S.fn _ _ _ c c'
    subst this
    obtain ⟨y, hy1, hy2⟩ := r'.get hp
    rw [hx] at hy1
    cases hy1
    exact hy2
  done := by
    intro X hP hw hK hc i pins s σ H E I hf st hg
    obtain ⟨⟨ρ, μ, g⟩, rfl⟩ := hg
    obtain ⟨vs, c, r⟩ := S.val X pins σ H s hP hw hK I ρ μ g
    obtain ⟨fp, wr, Y, St, G, st1, hw1, hst, hY⟩ := goes X.A its.length s.heap vs (I.ok.hd hc) c st fun b hb => let ⟨o, ho, _⟩ := O.obj _ _ st b hb; Heap.lt_size ho
    rw [r.length] at st1
    exact G.stops s (fun s1 => Inv X pins σ H s1) E st1 fun h' tk hk htk => I.turnedL (t' := tk) (ch := wr) hk fun b hb => hf b (hw1 b hb)
  self := fun A i s Q E st q => O.self P w A i s Q E st q
/-- new tuples of what stands in two places -/
theorem turn2 {its : List (List PV)} {con : Heap → List (List V) → Prop} (fn : ∀ h vs vs', con h vs → con h vs' → vs = vs')
    (val : ∀ (X : Cx) (pins : List (Addr × Obj)) (σ : L2.St) (H : Hp) (s : Shared), X.prog = P → X.w = w → X.K = K → Inv X pins σ H s → ∀ ρ μ, gS P w K ρ0 H0 gd H ρ μ → ∃ vs : List (List V), con s.heap vs ∧ its.length = vs.length ∧ ∀ (i : Nat) (ps : List PV), its[i]? = some ps → ∃ ws : List V, vs[i]? = some ws ∧ RVs K ρ H ps ws ∧ ws.length ≤ 3)
    (O : Own own it tn)
    (goes : ∀ (A : Around) (i : Nat) (h : Heap) (vs : List (List V)), A.handled = none → con h vs → tn i h → (∀ b ∈ own, b < h.objs.size) → ∃ fp wr Y St, GoesN P w A tg it fp wr vs.length Y St ∧ St i h ∧ (∀ b ∈ wr, b ∈ own) ∧ (∀ j h, St j h → tn j h) ∧
      ∀ j h0 v h', Y j h0 v h' → ∃ (T : Addr) (ws : List V) (us : List Value), vs[j]? = some ws ∧ v = .ref T ∧ h0.objs.size ≤ T ∧ Vals ws us ∧ h'.IsTuple T us.toArray) :
    Turn P w K tg (J2 P w K ρ0 H0 gd its) own it tn where
  mem := O.mem
  obj := O.obj
  keep := O.keep
  item := by
    intro X hP hw hK hc i pins s σ H E I hf st hg
    obtain ⟨⟨ρ, μ, g⟩, hlt⟩ := hg
    obtain ⟨vs, c, hl, r⟩ := val X pins σ H s hP hw hK I ρ μ g
    obtain ⟨fp, wr, Y, St, G, st1, hw1, hst, hY⟩ := goes X.A i s.heap vs (I.ok.hd hc) c st fun b hb => let ⟨o, ho, _⟩ := O.obj i _ st b hb; Heap.lt_size ho
    refine wpAny_mono (G.goes i s (fun u s2 => ∃ x H', Inv X pins σ H' s2 ∧ L2.RelV x u ∧ (J2 P w K ρ0 H0 gd its).yld i H x H' ∧ tn (i + 1) s2.heap ∧ ∀ b ∈ own, H' b = none) E (by omega) st1 fun v h' tk hy st2 hk htk => ?_) (fun _ _ q => q) fun _ _ e => e
    obtain ⟨T, ws, us, hx, ev, hT, rv, ht⟩ := hY i _ v h' hy
    subst ev
    have hlw : ws.length ≤ sizeLine := by
      obtain ⟨ps, hp⟩ : ∃ ps, its[i]? = some ps := ⟨its[i], List.getElem?_eq_getElem hlt⟩
      obtain ⟨ws', e1, _, e3⟩ := r i ps hp
      rw [hx] at e1
      cases e1
      exact Nat.le_trans e3 (by rw [sizeLine_eq]; omega)
    have new : ObjOk X.prog X.w (upd H T (.tup ws)) h' T (.tup ws) := ⟨hlw, us, rv, ht⟩
    refine ⟨.ref T, _, I.turnedNew (t' := tk) (ch := wr) hk (fun b hb => hf b (hw1 b hb)) hT new, rfl, ⟨T, ws, rfl, I.hok.fresh hT, rfl, fun ρ' μ' p g' hp => ?_⟩, hst _ _ st2, fun b hb => ?_⟩
    · obtain ⟨vs', c', _, r'⟩ := val X pins σ H s hP hw hK I ρ' μ' g'
      have := fn _ _ _ c c'
      subst this
      obtain ⟨y, hy1, hy2, _⟩ := r' i p hp
      rw [hx] at hy1
      cases hy1
      exact hy2
    · obtain ⟨o, ho, _⟩ := O.obj i _ st b hb
      rw [upd_ne (Nat.ne_of_lt (Nat.lt_of_lt_of_le (Heap.lt_size ho) hT))]
      exact (hf b hb).1
  done := by
    intro X hP hw hK hc i pins s σ H E I hf st hg
    obtain ⟨⟨ρ, μ, g⟩, rfl⟩ := hg
    obtain ⟨vs, c, hl, r⟩ := val X pins σ H s hP hw hK I ρ μ g
    obtain ⟨fp, wr, Y, St, G, st1, hw1, hst, hY⟩ := goes X.A its.length s.heap vs (I.ok.hd hc) c st fun b hb => let ⟨o, ho, _⟩ := O.obj _ _ st b hb; Heap.lt_size ho
    rw [hl] at st1
    exact G.stops s (fun s1 => Inv X pins σ H s1) E st1 fun h' tk hk htk => I.turnedL (t' := tk) (ch := wr) hk fun b hb => hf b (hw1 b hb)
  self := fun A i s Q E st q => O.self P w A i s Q E st q
end
end DL
/-! D14: lists, tuples, texts, dicts walked; enumerate, zip, items, values, range -/
namespace DL
open PySem PySem.Spec PyProof.Rows L2

def signs (z : Str) : List PV := z.cps.toList.map fun c => PV.str ⟨#[c]⟩
def sameSeq (μ : Sto) (i : Nat) (ps : List PV) : Bool := match seqAt μ i with
  | some qs => PV.beqs qs ps
  | none => false
def sameKvs : List (PV × PV) → List (PV × PV) → Bool
  | [], [] => true
  | a :: as, b :: bs => PV.beq a.1 b.1 && PV.beq a.2 b.2 && sameKvs as bs
  | _, _ => false
def sameDct (μ : Sto) (i : Nat) (ps : List (PV × PV)) : Bool := match dctAt μ i with
  | some qs => sameKvs qs ps
  | none => false
theorem sameSeq_of {μ : Sto} {i : Nat} {ps : List PV} (h : sameSeq μ i ps = true) : seqAt μ i = some ps := by
  unfold sameSeq at h
  cases e : seqAt μ i with
  | none => rw [e] at h; cases h
  | some qs => rw [e] at h; rw [PV.eqs_of qs ps h]
theorem sameKvs_of : ∀ {a b : List (PV × PV)}, sameKvs a b = true → a = b
  | [], [], _ => rfl
  | (a1, a2) :: as, (b1, b2) :: bs, h => by
    unfold sameKvs at h
    rw [Bool.and_eq_true, Bool.and_eq_true] at h
    rw [PV.eq_of a1 b1 h.1.1, PV.eq_of a2 b2 h.1.2, sameKvs_of h.2]
  | [], _ :: _, h => by cases h
  | _ :: _, [], h => by cases h
theorem sameDct_of {μ : Sto} {i : Nat} {ps : List (PV × PV)} (h : sameDct μ i ps = true) : dctAt μ i = some ps := by
  unfold sameDct at h
  cases e : dctAt μ i with
  | none => rw [e] at h; cases h
  | some qs => rw [e] at h; rw [sameKvs_of h]
/-- a tuple, a text, a list: what is walked, and what must stand at each turn -/
def srcOf (p : PV) (μ : Sto) : Option (List PV × (Sto → Bool)) := match p with
  | .tup ps => some (ps, fun _ => true)
  | .str z => some (signs z, fun _ => true)
  | .ref i => match seqAt μ i with
    | some ps => some (ps, fun μ' => sameSeq μ' i ps)
    | none => none
  | _ => none

/-- a kind of thing that is walked: its iterator when made, the cells that it reads, the iterator's state -/
structure Kd (v : Value) (con : Heap → List V → Prop) (o : Obj) (src : List Addr) (tn : Addr → Nat → Heap → Prop) : Prop where
  beg : ∀ h vs, con h vs → ∃ Hb, Begins v o Hb ∧ Hb h
  live : ∀ h vs, con h vs → ∀ b ∈ src, b < h.objs.size
  apart : ∀ h vs it i, con h vs → tn it i h → it ∉ src
  tn0 : ∀ h it, h.get? it = some o → tn it 0 h
  obj : ∀ it i h, tn it i h → ∃ o, h.get? it = some o ∧ ∀ v, o.data ≠ .cell v
  keep : ∀ it i h h', tn it i h → (∀ o, h.get? it = some o → h'.get? it = some o) → tn it i h'
  self : ∀ (prog : Program) (w : World) (A : Around) (it : Addr) (i : Nat) (s : Shared) (Q : Value → Shared → Prop) (E : Value → Shared → Prop), tn it i s.heap → Q (.ref it) s → wpAny (model prog w) A (pyIter (.ref it)) Q E s
  draws : ∀ (prog : Program) (w : World) (A : Around) it h vs, A.handled = none → con h vs → it ∉ src → ∃ (Pv : Nat → Value → Prop) (So : Heap → Prop), Draws prog w A it (it :: src) vs.length Pv (fun i h => tn it i h ∧ So h) ∧ So h ∧ ∀ i v, Pv i v → ∃ x, vs[i]? = some x ∧ L2.RelV x v
  goes : ∀ (prog : Program) (w : World) (A : Around) (tg : Expr) it h vs, A.handled = none → con h vs → it ∉ src → ∃ (Pv : Nat → Value → Prop) (So : Heap → Prop), Goes prog w A tg it (it :: src) [it] vs.length (fun i v _ => Pv i v) (fun i h => tn it i h ∧ So h) ∧ So h ∧ ∀ i v, Pv i v → ∃ x, vs[i]? = some x ∧ L2.RelV x v
def conL (a : Addr) : Heap → List V → Prop := fun h vs => ∃ us : List Value, h.IsList a us.toArray ∧ Vals vs us
def conT (a : Addr) : Heap → List V → Prop := fun h vs => ∃ us : List Value, h.IsTuple a us.toArray ∧ Vals vs us
def conS (x : Str) : Heap → List V → Prop := fun _ vs => vs = x.cps.toList.map fun c => V.str ⟨#[c]⟩
theorem vals_at {vs : List V} {us : List Value} (r : Vals vs us) {i : Nat} {v : Value} (h : us.toArray[i]? = some v) : ∃ x, vs[i]? = some x ∧ L2.RelV x v := by
  have hu : us[i]? = some v := by simpa using h
  have hl := r.length
  obtain ⟨hi, _⟩ := List.getElem?_eq_some_iff.mp hu
  obtain ⟨u, h1, h2⟩ := r.get (List.getElem?_eq_getElem (h := (by omega : i < vs.length)))
  rw [hu] at h1
  cases h1
  exact ⟨_, List.getElem?_eq_getElem (by omega), h2⟩
theorem kd_list (a : Addr) : Kd (.ref a) (conL a) { cls := .type "list_iterator", data := .fields #[.ref a, .int 0 0] } [a] (fun it i h => h.IsListIter it a i) where
  beg := fun h vs ⟨us, h1, h2⟩ => ⟨_, begins_list a us.toArray, h1⟩
  live := fun h vs ⟨us, ⟨o, h1, _⟩, h2⟩ b hb => by
    rw [List.mem_singleton.mp hb]
    exact Heap.lt_size h1
  apart := fun h vs it i ⟨us, ⟨o, h1, h2, _⟩, _⟩ ⟨o', k1, k2, _⟩ hm => by
    rw [List.mem_singleton.mp hm, h1] at k1
    cases k1
    rw [h2] at k2
    injection k2 with k2
    exact absurd k2 (by decide)
  tn0 := fun h it e => ⟨_, e, rfl, rfl⟩
  obj := fun it i h ⟨o, h1, h2, h3⟩ => ⟨o, h1, fun v z => by rw [h3] at z; cases z⟩
  keep := fun it i h h' st k => st.at k
  self := fun prog w A it i s Q E st q => wpAny_pyIter_listiter st q
  draws := fun prog w A it h vs hh ⟨us, h1, h2⟩ hn => ⟨_, _, (by rw [h2.length]; exact (Draws.list hh it a (fun e => hn (by simp [e])) us.toArray)), h1, fun i v hv => vals_at h2 hv⟩
  goes := fun prog w A tg it h vs hh ⟨us, h1, h2⟩ hn => ⟨_, _, (by rw [h2.length]; exact (Goes.list hh it a (fun e => hn (by simp [e])) us.toArray)), h1, fun i v hv => vals_at h2 hv⟩
theorem kd_tup (a : Addr) : Kd (.ref a) (conT a) { cls := .type "tuple_iterator", data := .fields #[.ref a, .int 0 0] } [a] (fun it i h => h.IsTupleIter it a i) where
  beg := fun h vs ⟨us, h1, h2⟩ => ⟨_, begins_tuple a us.toArray, h1⟩
  live := fun h vs ⟨us, ⟨o, h1, _⟩, h2⟩ b hb => by
    rw [List.mem_singleton.mp hb]
    exact Heap.lt_size h1
  apart := fun h vs it i ⟨us, ⟨o, h1, h2, _⟩, _⟩ ⟨o', k1, k2, _⟩ hm => by
    rw [List.mem_singleton.mp hm, h1] at k1
    cases k1
    rw [h2] at k2
    injection k2 with k2
    exact absurd k2 (by decide)
  tn0 := fun h it e => ⟨_, e, rfl, rfl⟩
  obj := fun it i h ⟨o, h1, h2, h3⟩ => ⟨o, h1, fun v z => by rw [h3] at z; cases z⟩
  keep := fun it i h h' st k => st.at k
  self := fun prog w A it i s Q E st q => wpAny_pyIter_tupleiter st q
  draws := fun prog w A it h vs hh ⟨us, h1, h2⟩ hn => ⟨_, _, (by rw [h2.length]; exact (Draws.tuple hh it a (fun e => hn (by simp [e])) us.toArray)), h1, fun i v hv => vals_at h2 hv⟩
  goes := fun prog w A tg it h vs hh ⟨us, h1, h2⟩ hn => ⟨_, _, (by rw [h2.length]; exact (Goes.tuple hh it a (fun e => hn (by simp [e])) us.toArray)), h1, fun i v hv => vals_at h2 hv⟩
theorem sign_at {x : Str} {i : Nat} {v : Value} (h : SignAt x i v) : ∃ y, (x.cps.toList.map fun c => V.str ⟨#[c]⟩)[i]? = some y ∧ L2.RelV y v := by
  obtain ⟨c, u, h1, rfl⟩ := h
  refine ⟨.str ⟨#[c]⟩, ?_, u, rfl⟩
  rw [List.getElem?_map]
  have : x.cps.toList[i]? = some c := by simpa using h1
  rw [this]
  rfl
theorem kd_str (x : Str) (t : Tok) : Kd (.str x t) (conS x) { cls := .type (strIterType x), data := .fields #[.str x t, .int 0 0] } [] (fun it i h => h.IsStrIter it (strIterType x) x t i) where
  beg := fun h vs _ => ⟨_, begins_text x t, trivial⟩
  live := fun h vs _ b hb => by cases hb
  apart := fun h vs it i _ _ hm => by cases hm
  tn0 := fun h it e => ⟨_, e, rfl, rfl⟩
  obj := fun it i h ⟨o, h1, h2, h3⟩ => ⟨o, h1, fun v z => by rw [h3] at z; cases z⟩
  keep := fun it i h h' ⟨o, h1, r⟩ k => ⟨o, k o h1, r⟩
  self := fun prog w A it i s Q E st q => by
    cases ha : x.cps.all (· < 128)
    · exact wpAny_pyIter_striter_wide (by simpa [strIterType, ha] using st) q
    · exact wpAny_pyIter_striter_ascii (by simpa [strIterType, ha] using st) q
  draws := fun prog w A it h vs hh e hn => ⟨_, fun _ => True, (by
    have D := Draws.text (prog := prog) (w := w) (A := A) hh it x t
    rw [show vs.length = x.cps.size by rw [show vs = _ from e]; simp]
    exact ⟨fun i h st => D.live i h st.1, fun i h h' st k => ⟨D.frame i h h' st.1 k, trivial⟩, fun i s Q E hi st hQ => D.item i s Q E hi st.1 fun y h' tk a b c => hQ y h' tk a ⟨b, trivial⟩ c, fun s Q E st hE => D.done s Q E st.1 hE⟩), trivial, fun i v hv => by rw [show vs = _ from e]; exact sign_at hv⟩
  goes := fun prog w A tg it h vs hh e hn => ⟨_, fun _ => True, (by
    have D := Goes.text (prog := prog) (w := w) (A := A) (target := tg) hh it x t
    rw [show vs.length = x.cps.size by rw [show vs = _ from e]; simp]
    exact ⟨D.sub, fun i h h' st k => ⟨D.frame i h h' st.1 k, trivial⟩, fun i s Q E hi st hQ => D.goes i s Q E hi st.1 fun y h' tk a b c d => hQ y h' tk a ⟨b, trivial⟩ c d, fun s Q E st hE => D.stops s Q E st.1 hE, fun i s Q E st q => D.self i s Q E st.1 q⟩), trivial, fun i v hv => by rw [show vs = _ from e]; exact sign_at hv⟩

/-- the values of what is walked -/
theorem src_list {P : Program} {w : World} {K : PySem.W.Frag} {ρ0 : List Addr} {H0 : Hp} {i : Nat} {a : Addr} {ps : List PV} (ha : ρ0[i]? = some a) : Src P w K ρ0 H0 (fun μ => sameSeq μ i ps) ps (conL a) where
  fn := fun h vs vs' ⟨us, ⟨o, h1, h2, n, h3⟩, h4⟩ ⟨us', ⟨o', k1, k2, n', k3⟩, k4⟩ => by
    rw [h1] at k1
    cases k1
    rw [h3] at k3
    injection k3 with e1 e2
    have e1 : us = us' := by simpa using e1
    subst e1
    exact vals_uniq h4 k4
  val := fun X pins σ H s hP hw hK I ρ μ g => by
    subst hP hw hK
    obtain ⟨gr, t, hg⟩ := g
    obtain ⟨vs, h1, h2⟩ := seqAt_of t (gr.get _ _ ha) (sameSeq_of hg)
    obtain ⟨us, r, pl, _⟩ := I.list h1
    exact ⟨vs, ⟨us, pl.isList, r⟩, h2⟩
theorem src_tup {P : Program} {w : World} {K : PySem.W.Frag} {ρ0 : List Addr} {H0 : Hp} {a : Addr} {ps : List PV} {vs : List V} (h1 : SqT K H0 a vs) (h2 : RVs K ρ0 H0 ps vs) : Src P w K ρ0 H0 (fun _ => true) ps (conT a) where
  fn := fun h vs vs' ⟨us, ⟨o, h1, h2, n, h3⟩, h4⟩ ⟨us', ⟨o', k1, k2, n', k3⟩, k4⟩ => by
    rw [h1] at k1
    cases k1
    rw [h3] at k3
    injection k3 with e1 e2
    have e1 : us = us' := by simpa using e1
    subst e1
    exact vals_uniq h4 k4
  val := fun X pins σ H s hP hw hK I ρ μ g => by
    subst hP hw hK
    obtain ⟨gr, t, hg⟩ := g
    obtain ⟨us, r, pl, _⟩ := I.tuple (gr.tup _ _ h1)
    exact ⟨vs, ⟨us, pl, r⟩, h2.grow gr⟩
theorem signs_rel {K : PySem.W.Frag} {ρ : List Addr} {H : Hp} : ∀ l : List Nat, RVs K ρ H (l.map fun c => PV.str ⟨#[c]⟩) (l.map fun c => V.str ⟨#[c]⟩)
  | [] => .nil
  | c :: l => .cons (.str _) (signs_rel l)
theorem src_str {P : Program} {w : World} {K : PySem.W.Frag} {ρ0 : List Addr} {H0 : Hp} {x : Str} : Src P w K ρ0 H0 (fun _ => true) (signs x) (conS x) where
  fn := fun h vs vs' e e' => by rw [show vs = _ from e, show vs' = _ from e']
  val := fun X pins σ H s hP hw hK I ρ μ g => ⟨_, rfl, signs_rel _⟩
/-- all three -/
theorem src_any {P : Program} {w : World} {K : PySem.W.Frag} {ρ : List Addr} {H : Hp} {μ : Sto} {p : PV} {x : V} {u : Value} {its : List PV} {gd : Sto → Bool} (t : RSt P w K ρ H μ) (r : RV K ρ H p x) (rx : L2.RelV x u) (h : srcOf p μ = some (its, gd)) :
    gd μ = true ∧ ∃ con o src tn, Src P w K ρ H gd its con ∧ Kd u con o src tn := by
  cases r with
  | tup h1 h2 =>
    cases h
    cases rx
    exact ⟨rfl, _, _, _, _, src_tup h1 h2, kd_tup _⟩
  | str z =>
    cases h
    obtain ⟨tk, rfl⟩ := rx
    exact ⟨rfl, _, _, _, _, src_str, kd_str z tk⟩
  | @ref i a ha =>
    have h : (match seqAt μ i with | some ps => some (ps, fun μ' => sameSeq μ' i ps) | none => none) = some (its, gd) := h
    cases e : seqAt μ i with
    | none => rw [e] at h; cases h
    | some ps =>
      rw [e] at h
      cases h
      cases rx
      refine ⟨?_, _, _, _, _, src_list ha, kd_list a⟩
      show sameSeq μ i its = true
      unfold sameSeq
      rw [e]
      exact PV.beqs_self its
  | _ => cases h
end DL
/-! D15: loops over sources: plain, enumerate, zip -/
namespace DL
open PySem PySem.Spec PyProof.Rows L2

/-! ### for x in v -/
def dIt (d : DE) : DI := fun η μ => (d η μ).bind fun p μ1 => match srcOf p μ1 with
  | some x => .ok x μ1
  | none => .bad
section
variable {X : Cx} {W : EW}
theorem own_one {v : Value} {con : Heap → List V → Prop} {o : Obj} {src : List Addr} {tn : Addr → Nat → Heap → Prop} (k : Kd v con o src tn) (it : Addr) : Own [it] it (tn it) where
  mem := by simp
  obj := fun i h st b hb => by
    rw [List.mem_singleton.mp hb]
    exact k.obj it i h st
  keep := fun i h h' st kp => k.keep it i h h' st (kp it (by simp))
  self := fun prog w A i s Q E st q => k.self prog w A it i s Q E st q
theorem goes_one {P : Program} {w : World} {A : Around} {tg : Expr} {v : Value} {con : Heap → List V → Prop} {o : Obj} {src : List Addr} {tn : Addr → Nat → Heap → Prop} (k : Kd v con o src tn) (it : Addr) (i : Nat) (h : Heap) (vs : List V) (hh : A.handled = none) (c : con h vs) (st : tn it i h) :
    ∃ fp wr Y St, GoesN P w A tg it fp wr vs.length Y St ∧ St i h ∧ (∀ b ∈ wr, b ∈ [it]) ∧ (∀ j h, St j h → tn it j h) ∧ ∀ j h0 v h', Y j h0 v h' → ∃ x, vs[j]? = some x ∧ L2.RelV x v := by
  obtain ⟨Pv, So, G, hs, hv⟩ := k.goes P w A tg it h vs hh c (k.apart h vs it i c st)
  exact ⟨_, _, _, _, G.toN, ⟨st, hs⟩, fun b hb => hb, fun j h z => z.1, fun j h0 v h' z => hv j v z⟩
theorem li_it {tg e : Expr} {d : DE} (h : LE X W e d) : LI X W tg e (dIt d) := ⟨fun pins s σ H R I ⟨ρ, η, μ, en, t, q⟩ => by
  refine thn (h.run pins s σ H (fun x H1 => ∃ ρ1 p μ1, RV X.K ρ1 H1 p x ∧ RSt X.prog X.w X.K ρ1 H1 μ1 ∧ Post X.prog X.w X.K W ρ1 H1 (match srcOf p μ1 with | some x => .ok x μ1 | none => .bad) (RI X.prog X.w X.K) R) I ⟨ρ, η, μ, en, t, (Post.bind q).mono fun x H1 ⟨ρ1, p, μ1, st, r, s1, q1⟩ => ⟨ρ1, p, μ1, r, s1, q1⟩⟩)
    fun u s1 ⟨x, H1, I1, rx, ρ1, p, μ1, r, t1, q1⟩ => ?_
  cases e1 : srcOf p μ1 with
  | none => rw [e1] at q1; exact q1.elim
  | some z =>
    obtain ⟨its, gd⟩ := z
    rw [e1] at q1
    obtain ⟨hg, con, o, src, tn, S, k⟩ := src_any t1 r rx e1
    obtain ⟨vs, c, rv⟩ := S.val X pins σ H1 s1 rfl rfl rfl I1 ρ1 μ1 ⟨Step.refl.grow, t1, hg⟩
    obtain ⟨Hb, B, hb⟩ := k.beg _ _ c
    refine B.iter _ _ _ _ _ _ hb ?_
    refine ⟨s1.heap.objs.size, [s1.heap.objs.size], tn s1.heap.objs.size, J1 X.prog X.w X.K ρ1 H1 gd its, H1, rfl, I1.kept (t' := s1.toks) fun b ob q => Heap.get?_push_of_some _ q, ?_, k.tn0 _ _ (Heap.get?_push_size _ B.free), fun b hb => ?_, ?_⟩
    · exact turn1 S (own_one k _) fun A i h vs hh c st _ => goes_one k _ i h vs hh c st
    · rw [List.mem_singleton.mp hb]
      exact I1.fpOk (Nat.le_refl _) (I1.hok.fresh (Nat.le_refl _))
    · exact q1 ρ1 _ H1 Step.refl (wk1 _ _ _ _ _ gd its) t1⟩

/-! ### enumerate -/
theorem meets_enum1 {v : Value} {o : Obj} {Hb : Heap → Prop} (B : Begins v o Hb) :
    Meets (Builtin.«enumerate.__new__» ⟨[.type "enumerate", v], []⟩) (fun _ R s => Hb s.heap ∧ R (.ok (.ret (.ref (s.heap.push o).objs.size))) { s with heap := (s.heap.push o).push { cls := .type "enumerate", data := .fields #[.none, .bool false, .ref s.heap.objs.size, rawInt 0, .none, .none] } }) :=
  .of_wp fun prog w A R s h => by
    obtain ⟨hp, g, d, tk, os⟩ := s
    obtain ⟨h1, h⟩ := h
    have hsub := sub_enumerate
    have qq : ∀ {A' : Around} {E : Value → Shared → Prop} {Q : Value → Shared → Prop}, Q (.ref hp.objs.size) ⟨hp.push o, g, d, tk, os⟩ → wpAny (model prog w) A' (pyIter v) Q E ⟨hp, g, d, tk, os⟩ := fun q => B.iter prog w _ _ ⟨hp, g, d, tk, os⟩ _ h1 q
    wp_walk using qq
    refine wpAny_stack_any fun st => wpAny_pure ?_
    split
    · rename_i c _ _ _ _ _
      cases (c == Value.type "enumerate") <;> (wp_walk using qq; exact ⟨_, rfl, h⟩)
    · wp_walk using qq
      exact ⟨_, rfl, h⟩
theorem enum1_begins {prog : Program} {w : World} {A : Around} {E : Value → Shared → Prop} {s : Shared} {v : Value} {o : Obj} {Hb : Heap → Prop} {Q : Value → Shared → Prop} (B : Begins v o Hb) (h1 : Hb s.heap)
    (h : ∀ h', IsEnum h' (s.heap.objs.size + 1) s.heap.objs.size 0 .none → h'.get? s.heap.objs.size = some o → (∀ b o, s.heap.get? b = some o → h'.get? b = some o) → Q (.ref (s.heap.objs.size + 1)) { s with heap := h' }) :
    wpAny (model prog w) A (call (.type "enumerate") [v]) Q E s := by
  have hz : (s.heap.push o).objs.size = s.heap.objs.size + 1 := Heap.size_push ..
  have he : IsEnum ((s.heap.push o).push { cls := .type "enumerate", data := .fields #[.none, .bool false, .ref s.heap.objs.size, rawInt 0, .none, .none] }) (s.heap.objs.size + 1) s.heap.objs.size 0 .none := by
    have z := Heap.get?_push_size (s.heap.push o) (o := { cls := .type "enumerate", data := .fields #[.none, .bool false, .ref s.heap.objs.size, rawInt 0, .none, .none] }) rfl
    rw [hz] at z
    exact z
  refine callType_new F.called_enumerate (by decide) (F.typeCall_enumerate_1 _) (F.newCall_enumerate_1 _) (fun obj => F.args_object_init_2 obj _) F.entry_enumerate_new (meets_enum1 B) ⟨h1, ?_⟩
  rw [hz]
  exact ⟨⟨_, he, rfl⟩, h _ he (Heap.get?_push_of_some _ (Heap.get?_push_size _ B.free)) fun b o x => Heap.get?_push_of_some _ (Heap.get?_push_of_some _ x)⟩
def enum2 : List PV → Nat → List (List PV)
  | [], _ => []
  | p :: r, n => [.int n, p] :: enum2 r (n + 1)
theorem enum2_length : ∀ (its : List PV) (n : Nat), (enum2 its n).length = its.length
  | [], _ => rfl
  | p :: r, n => by rw [enum2, List.length_cons, List.length_cons, enum2_length r]
theorem enum2_get : ∀ (its : List PV) (n i : Nat) {ps : List PV}, (enum2 its n)[i]? = some ps → ∃ p, its[i]? = some p ∧ ps = [.int ((n + i : Nat) : Int), p]
  | [], _, _, _, h => by simp [enum2] at h
  | p :: r, n, 0, ps, h => by
    simp [enum2] at h
    exact ⟨p, rfl, by rw [← h]; rfl⟩
  | p :: r, n, i + 1, ps, h => by
    obtain ⟨q, h1, h2⟩ := enum2_get r (n + 1) i (ps := ps) (by simpa [enum2] using h)
    exact ⟨q, by simpa using h1, by rw [h2, show n + 1 + i = n + (i + 1) by omega]⟩
def enumV (vs : List V) : List (List V) := vs.zipIdx.map fun x => [.int (x.2 : Int), x.1]
theorem enumV_get {vs : List V} {i : Nat} {x : V} (h : vs[i]? = some x) : (enumV vs)[i]? = some [.int (i : Int), x] := by
  unfold enumV
  rw [List.getElem?_map, List.getElem?_zipIdx, h]
  simp
theorem enumV_length (vs : List V) : (enumV vs).length = vs.length := by simp [enumV]
def dEnum (d : DE) : DI := fun η μ => (d η μ).bind fun p μ1 => match srcOf p μ1 with
  | some x => .ok ((enum2 x.1 0).map PV.tup, x.2) μ1
  | none => .bad
theorem own_enum {v : Value} {con : Heap → List V → Prop} {o : Obj} {src : List Addr} {tn : Addr → Nat → Heap → Prop} (k : Kd v con o src tn) (e it : Addr) : Own [e, it] e (fun i h => (∃ old, IsEnum h e it (0 + (i : Int)) old) ∧ tn it i h) where
  mem := by simp
  obj := fun i h st b hb => by
    obtain ⟨⟨old, he⟩, h2⟩ := st
    have hb : b = e ∨ b = it := by simpa using hb
    rcases hb with e1 | e1
    · rw [e1]; exact ⟨_, he, fun v z => nomatch z⟩
    · rw [e1]; exact k.obj it i h h2
  keep := fun i h h' st kp => by
    obtain ⟨⟨old, he⟩, h2⟩ := st
    exact ⟨⟨old, kp e (by simp) _ he⟩, k.keep it i h h' h2 (kp it (by simp))⟩
  self := fun prog w A i s Q E st q => by
    obtain ⟨⟨old, he⟩, h2⟩ := st
    exact wpAny_pyIter_enum he q
theorem li_enum {e : Expr} {d : DE} {p pos tpos : Pos} {elts : List Expr} {kk : Nat} (hg : Gl X "enumerate") (hm : X.mg "enumerate" = none) (h : LE X W e d) (hs : starEach [e] X.env = (false, eval e X.env) :: starEach [] X.env := by rfl) :
    LI X W (.Tuple elts kk tpos) (.Call (.Name "enumerate" p) [e] [] pos) (dEnum d) := ⟨fun pins s σ H R I ⟨ρ, η, μ, en, t, q⟩ => by
  have ha : LA X W [e] (dCons d dNil) := la_cons h la_nil hs
  refine Call_ (ld_blt I hg hm boot_enumerate (PyProof.Rows.callWith_type1 (thn (ha.run pos pins s σ H (fun vs H1 => ∃ x ρ1 p μ1, vs = [x] ∧ RV X.K ρ1 H1 p x ∧ RSt X.prog X.w X.K ρ1 H1 μ1 ∧
    Post X.prog X.w X.K W ρ1 H1 (match srcOf p μ1 with | some x => .ok ((enum2 x.1 0).map PV.tup, x.2) μ1 | none => .bad) (RI X.prog X.w X.K) R) I ⟨ρ, η, μ, en, t, ?_⟩) fun us s1 ⟨vs, H1, I1, r1, x, ρ1, p, μ1, ev, r, t1, q1⟩ => ?_) hs rfl))
  · unfold dCons dNil
    unfold dEnum at q
    cases e1 : d η μ with
    | ok pv μ1 =>
      rw [e1] at q
      intro ρ1 vs H1 st rv t1
      have rv : RVs X.K ρ1 H1 [pv] vs := rv
      cases rv with
      | cons r1 r2 =>
        cases r2
        exact ⟨_, ρ1, pv, μ1, rfl, r1, t1, Post.step st q⟩
    | err C v μ1 => rw [e1] at q; exact q
    | bad => rw [e1] at q; exact q
  · subst ev
    obtain ⟨u, rfl, rx⟩ := vals1 r1
    cases e1 : srcOf p μ1 with
    | none => rw [e1] at q1; exact q1.elim
    | some z =>
      obtain ⟨its, gd⟩ := z
      rw [e1] at q1
      obtain ⟨hgd, con, o, src, tn, S, k⟩ := src_any t1 r rx e1
      obtain ⟨vs, c, rv⟩ := S.val X pins σ H1 s1 rfl rfl rfl I1 ρ1 μ1 ⟨Step.refl.grow, t1, hgd⟩
      obtain ⟨Hb, B, hb⟩ := k.beg _ _ c
      have hsrc := k.live _ _ c
      refine enum1_begins B hb fun h' he ho hk => wpAny_pyIter_enum he ?_
      refine ⟨s1.heap.objs.size + 1, [s1.heap.objs.size + 1, s1.heap.objs.size], (fun i h => (∃ old, IsEnum h (s1.heap.objs.size + 1) s1.heap.objs.size (0 + (i : Int)) old) ∧ tn s1.heap.objs.size i h), J2 X.prog X.w X.K ρ1 H1 gd (enum2 its 0), H1, rfl, I1.kept (t' := s1.toks) hk, ?_, ⟨⟨Value.none, by simpa using he⟩, k.tn0 _ _ ho⟩, fun b hb => ?_, ?_⟩
      · refine turn2 (con := fun h vss => ∃ vs, con h vs ∧ vss = enumV vs) (fun h vs vs' ⟨a, a1, a2⟩ ⟨b, b1, b2⟩ => by rw [a2, b2, S.fn h a b a1 b1]) (fun X' pins' σ' H' s' hP hw hK I' ρ' μ' g => ?_) (own_enum k _ _) fun A i h vss hh cc st hlt => ?_
        · obtain ⟨vs', c', r'⟩ := S.val X' pins' σ' H' s' hP hw hK I' ρ' μ' g
          refine ⟨_, ⟨vs', c', rfl⟩, by rw [enum2_length, enumV_length, r'.length], fun i ps hp => ?_⟩
          obtain ⟨q, h1, h2⟩ := enum2_get its 0 i hp
          obtain ⟨y, h3, h4⟩ := r'.get h1
          refine ⟨_, enumV_get h3, ?_, by simp⟩
          rw [h2, Nat.zero_add]
          exact .cons (.int _) (.cons h4 .nil)
        · obtain ⟨vs', c', rfl⟩ := cc
          obtain ⟨⟨old, he'⟩, st'⟩ := st
          have ap := k.apart _ _ _ _ c' st'
          obtain ⟨Pv, So, D, hso, hv⟩ := k.draws X.prog X.w A.in1 s1.heap.objs.size h vs' hh c' ap
          have ne : s1.heap.objs.size + 1 ≠ s1.heap.objs.size := Nat.succ_ne_self _
          have nin : s1.heap.objs.size + 1 ∉ s1.heap.objs.size :: src := fun hm => by
            rcases List.mem_cons.mp hm with hm | hm
            · exact ne hm
            · have : s1.heap.objs.size + 1 < s1.heap.objs.size := hsrc _ hm
              omega
          have G := GoesN.enumFrom (elts := elts) (x1 := kk) (pos := tpos) 0 D (s1.heap.objs.size + 1) ne nin (List.mem_cons_self ..)
          rw [← enumV_length vs'] at G
          refine ⟨_, _, _, _, G, ⟨⟨old, he'⟩, st', hso⟩, fun b hb => hb, fun j h z => ⟨z.1, z.2.1⟩, fun j h0 v h' z => ?_⟩
          obtain ⟨T, tk, x, ev, hT, hp, ht⟩ := z
          obtain ⟨y, hy, ry⟩ := hv j x hp
          exact ⟨T, _, [.int (0 + (j : Int)) tk, x], enumV_get hy, ev, hT, .cons ⟨tk, by rw [Int.zero_add]⟩ (.cons ry .nil), ht⟩
      · have hb : b = s1.heap.objs.size + 1 ∨ b = s1.heap.objs.size := by simpa using hb
        have hle : s1.heap.objs.size ≤ b := by
          rcases hb with z | z
          · rw [z]; exact Nat.le_add_right _ _
          · rw [z]; exact Nat.le_refl _
        exact I1.fpOk hle (I1.hok.fresh hle)
      · exact q1 ρ1 _ H1 Step.refl (wk2 _ _ _ _ _ gd (enum2 its 0)) t1⟩
end
end DL
/-! D16: zip of two sources -/
namespace DL
open PySem PySem.Spec PyProof.Rows L2
def zip2 : List PV → List PV → List (List PV)
  | p :: ps, q :: qs => [p, q] :: zip2 ps qs
  | _, _ => []
theorem zip2_length : ∀ (a b : List PV), (zip2 a b).length = min a.length b.length
  | [], b => by simp [zip2]
  | p :: ps, [] => by simp [zip2]
  | p :: ps, q :: qs => by rw [zip2, List.length_cons, zip2_length, List.length_cons, List.length_cons]; omega
theorem zip2_get : ∀ (a b : List PV) (i : Nat) {ps : List PV}, (zip2 a b)[i]? = some ps → ∃ p q, a[i]? = some p ∧ b[i]? = some q ∧ ps = [p, q]
  | [], b, i, ps, h => by simp [zip2] at h
  | p :: as, [], i, ps, h => by simp [zip2] at h
  | p :: as, q :: bs, 0, ps, h => by
    simp [zip2] at h
    exact ⟨p, q, rfl, rfl, h.symm⟩
  | p :: as, q :: bs, i + 1, ps, h => by
    obtain ⟨x, y, h1, h2, h3⟩ := zip2_get as bs i (ps := ps) (by simpa [zip2] using h)
    exact ⟨x, y, by simpa using h1, by simpa using h2, h3⟩
def zipV (a b : List V) : List (List V) := List.zipWith (fun x y => [x, y]) a b
theorem zipV_length (a b : List V) : (zipV a b).length = min a.length b.length := by simp [zipV]
theorem zipV_get {a b : List V} {i : Nat} {x y : V} (h1 : a[i]? = some x) (h2 : b[i]? = some y) : (zipV a b)[i]? = some [x, y] := by
  unfold zipV
  rw [List.getElem?_zipWith, h1, h2]
def dZip (da db : DE) : DI := fun η μ => (da η μ).bind fun p μ1 => (db η μ1).bind fun q μ2 => match srcOf p μ2, srcOf q μ2 with
  | some x, some y => .ok ((zip2 x.1 y.1).map PV.tup, fun μ' => x.2 μ' && y.2 μ') μ2
  | _, _ => .bad
abbrev zipTn (tn1 tn2 : Addr → Nat → Heap → Prop) (z TI TO i1 i2 : Addr) : Nat → Heap → Prop := fun i h => IsZip h z TI TO .none ∧ IsTupOf2 h TI (.ref i1) (.ref i2) ∧ (∃ a1 a2, IsTupOf2 h TO a1 a2) ∧ tn1 i1 i h ∧ tn2 i2 i h
section
variable {X : Cx} {W : EW}
theorem own_zip {v v' : Value} {con con' : Heap → List V → Prop} {o o' : Obj} {src src' : List Addr} {tn tn' : Addr → Nat → Heap → Prop} (k : Kd v con o src tn) (k' : Kd v' con' o' src' tn') (z TI TO i1 i2 : Addr) : Own [z, TI, TO, i1, i2] z (zipTn tn tn' z TI TO i1 i2) where
  mem := by simp
  obj := fun i h st b hb => by
    obtain ⟨hz, hTI, ⟨x, y, hTO⟩, h1, h2⟩ := st
    have hb : b = z ∨ b = TI ∨ b = TO ∨ b = i1 ∨ b = i2 := by simpa using hb
    rcases hb with e1 | e1 | e1 | e1 | e1
    · rw [e1]; exact ⟨_, hz, fun v q => nomatch q⟩
    · rw [e1]; exact ⟨_, hTI, fun v q => nomatch q⟩
    · rw [e1]; exact ⟨_, hTO, fun v q => nomatch q⟩
    · rw [e1]; exact k.obj i1 i h h1
    · rw [e1]; exact k'.obj i2 i h h2
  keep := fun i h h' st kp => by
    obtain ⟨hz, hTI, ⟨x, y, hTO⟩, h1, h2⟩ := st
    exact ⟨kp z (by simp) _ hz, kp TI (by simp) _ hTI, ⟨x, y, kp TO (by simp) _ hTO⟩, k.keep i1 i h h' h1 (kp i1 (by simp)), k'.keep i2 i h h' h2 (kp i2 (by simp))⟩
  self := fun prog w A i s Q E st q => wpAny_pyIter_zip st.1 q
theorem li_zip {e e2 : Expr} {d d2 : DE} {p pos tpos : Pos} {elts : List Expr} {kk : Nat} (hg : Gl X "zip") (hm : X.mg "zip" = none) (h : LE X W e d) (h' : LE X W e2 d2)
    (hs : starEach [e, e2] X.env = (false, eval e X.env) :: starEach [e2] X.env := by rfl) (hs2 : starEach [e2] X.env = (false, eval e2 X.env) :: starEach [] X.env := by rfl) (hpl : (backTo pos (starEach [e2] X.env)).any (·.1) = false := by rfl) :
    LI X W (.Tuple elts kk tpos) (.Call (.Name "zip" p) [e, e2] [] pos) (dZip d d2) := ⟨fun pins s σ H R I ⟨ρ, η, μ, en, t, q⟩ => by
  have ha : LA X W [e, e2] (dCons d (dCons d2 dNil)) := la_cons h (la_cons h' la_nil hs2) hs
  refine Call_ (ld_blt I hg hm PyProof.Rows.boot_zip (PyProof.Rows.callWith_type1 (thn (ha.run pos pins s σ H (fun vs H1 => ∃ x x' ρ1 p p' μ1, vs = [x, x'] ∧ RV X.K ρ1 H1 p x ∧ RV X.K ρ1 H1 p' x' ∧ RSt X.prog X.w X.K ρ1 H1 μ1 ∧
    Post X.prog X.w X.K W ρ1 H1 (match srcOf p μ1, srcOf p' μ1 with | some x, some y => .ok ((zip2 x.1 y.1).map PV.tup, fun μ' => x.2 μ' && y.2 μ') μ1 | _, _ => .bad) (RI X.prog X.w X.K) R) I ⟨ρ, η, μ, en, t, ?_⟩) fun us s1 ⟨vs, H1, I1, r1, x, x', ρ1, p, p', μ1, ev, r, r', t1, q1⟩ => ?_) hs hpl))
  · unfold dCons dNil
    unfold dZip at q
    cases e1 : d η μ with
    | ok pv μ1 =>
      rw [e1] at q
      simp only [Rz.bind_ok] at q ⊢
      cases e2 : d2 η μ1 with
      | ok pv2 μ2 =>
        rw [e2] at q
        intro ρ1 vs H1 st rv t1
        have rv : RVs X.K ρ1 H1 [pv, pv2] vs := rv
        cases rv with
        | cons r1 r2 =>
          cases r2 with
          | cons r3 r4 =>
            cases r4
            exact ⟨_, _, ρ1, pv, pv2, μ2, rfl, r1, r3, t1, Post.step st q⟩
      | err C v μ1 => rw [e2] at q; exact q
      | bad => rw [e2] at q; exact q
    | err C v μ1 => rw [e1] at q; exact q
    | bad => rw [e1] at q; exact q
  · subst ev
    obtain ⟨u, u', rfl, rx, rx'⟩ := vals2 r1
    cases e1 : srcOf p μ1 with
    | none => rw [e1] at q1; exact q1.elim
    | some z =>
      cases e2 : srcOf p' μ1 with
      | none => rw [e1, e2] at q1; exact q1.elim
      | some z' =>
        obtain ⟨its, gd⟩ := z
        obtain ⟨its', gd'⟩ := z'
        rw [e1, e2] at q1
        obtain ⟨hgd, con, o, src, tn, S, k⟩ := src_any t1 r rx e1
        obtain ⟨hgd', con', o', src', tn', S', k'⟩ := src_any t1 r' rx' e2
        obtain ⟨vs, c, rv⟩ := S.val X pins σ H1 s1 rfl rfl rfl I1 ρ1 μ1 ⟨Step.refl.grow, t1, hgd⟩
        obtain ⟨vs', c', rv'⟩ := S'.val X pins σ H1 s1 rfl rfl rfl I1 ρ1 μ1 ⟨Step.refl.grow, t1, hgd'⟩
        obtain ⟨Hb, B, hb⟩ := k.beg _ _ c
        obtain ⟨Hb', B', hb'⟩ := k'.beg _ _ c'
        have hsrc := k.live _ _ c
        have hsrc' := k'.live _ _ c'
        have sep := zip_sep2 hsrc hsrc'
        refine zip_begins2 B B' hb hb' fun h' hz hTI hTO ho ho' hsz hk => wpAny_pyIter_zip hz ?_
        refine ⟨s1.heap.objs.size + 4, [s1.heap.objs.size + 4, s1.heap.objs.size + 2, s1.heap.objs.size + 3, s1.heap.objs.size, s1.heap.objs.size + 1], zipTn tn tn' (s1.heap.objs.size + 4) (s1.heap.objs.size + 2) (s1.heap.objs.size + 3) s1.heap.objs.size (s1.heap.objs.size + 1),
          J2 X.prog X.w X.K ρ1 H1 (fun μ' => gd μ' && gd' μ') (zip2 its its'), H1, rfl, I1.kept (t' := s1.toks) hk, ?_, ⟨hz, hTI, ⟨_, _, hTO⟩, k.tn0 _ _ ho, k'.tn0 _ _ ho'⟩, fun b hb => ?_, ?_⟩
        · refine turn2 (con := fun h vss => ∃ vs vs', con h vs ∧ con' h vs' ∧ vss = zipV vs vs') (fun h vs vs' ⟨a, a', a1, a2, a3⟩ ⟨b, b', b1, b2, b3⟩ => by rw [a3, b3, S.fn h a b a1 b1, S'.fn h a' b' a2 b2]) (fun X' pins' σ' H' s' hP hw hK I' ρ' μ' g => ?_) (own_zip k k' _ _ _ _ _) fun A i h vss hh cc st hlt => ?_
          · obtain ⟨gr, t', hg⟩ := g
            rw [Bool.and_eq_true] at hg
            obtain ⟨ws, cw, rw'⟩ := S.val X' pins' σ' H' s' hP hw hK I' ρ' μ' ⟨gr, t', hg.1⟩
            obtain ⟨ws', cw', rw2⟩ := S'.val X' pins' σ' H' s' hP hw hK I' ρ' μ' ⟨gr, t', hg.2⟩
            refine ⟨_, ⟨ws, ws', cw, cw', rfl⟩, by rw [zip2_length, zipV_length, rw'.length, rw2.length], fun i ps hp => ?_⟩
            obtain ⟨a, b, h1, h2, h3⟩ := zip2_get its its' i hp
            obtain ⟨y, h4, h5⟩ := rw'.get h1
            obtain ⟨y', h6, h7⟩ := rw2.get h2
            exact ⟨_, zipV_get h4 h6, by rw [h3]; exact .cons h5 (.cons h7 .nil), by simp⟩
          · obtain ⟨ws, ws', cw, cw', rfl⟩ := cc
            obtain ⟨hz, hTI, hTO, st1, st2⟩ := st
            obtain ⟨Pv, So, D, hso, hv⟩ := k.draws X.prog X.w A.in1 s1.heap.objs.size h ws hh cw (k.apart _ _ _ _ cw st1)
            obtain ⟨Pv', So', D', hso', hv'⟩ := k'.draws X.prog X.w A.in1 (s1.heap.objs.size + 1) h ws' hh cw' (k'.apart _ _ _ _ cw' st2)
            have G := GoesN.zip2 (elts := elts) (x1 := kk) (pos := tpos) sep D D'
            rw [← zipV_length ws ws'] at G
            refine ⟨_, _, _, _, G, ⟨hz, hTI, hTO, ⟨st1, hso⟩, ⟨st2, hso'⟩⟩, fun b hb => ?_, fun j h z => ⟨z.1, z.2.1, z.2.2.1, z.2.2.2.1.1, z.2.2.2.2.1⟩, fun j h0 v h' z => ?_⟩
            · have hb : b = s1.heap.objs.size + 4 ∨ b = s1.heap.objs.size + 3 ∨ b = s1.heap.objs.size ∨ b = s1.heap.objs.size + 1 := by simpa using hb
              rcases hb with z | z | z | z <;> (rw [z]; simp)
            · obtain ⟨T, x, y, ev, hT, hp, hp', ht⟩ := z
              obtain ⟨a, ha1, ra⟩ := hv j x hp
              obtain ⟨b, hb1, rb⟩ := hv' j y hp'
              exact ⟨T, _, [x, y], zipV_get ha1 hb1, ev, hT, .cons ra (.cons rb .nil), ht⟩
        · have e' : b = s1.heap.objs.size + 4 ∨ b = s1.heap.objs.size + 2 ∨ b = s1.heap.objs.size + 3 ∨ b = s1.heap.objs.size ∨ b = s1.heap.objs.size + 1 := by simpa using hb
          have hle : s1.heap.objs.size ≤ b := by
            rcases e' with z | z | z | z | z
            · rw [z]; exact Nat.le_add_right _ _
            · rw [z]; exact Nat.le_add_right _ _
            · rw [z]; exact Nat.le_add_right _ _
            · rw [z]; exact Nat.le_refl _
            · rw [z]; exact Nat.le_add_right _ _
          exact I1.fpOk hle (I1.hok.fresh hle)
        · exact q1 ρ1 _ H1 Step.refl (wk2 _ _ _ _ _ _ (zip2 its its')) t1⟩
end
end DL
/-! D17: dicts walked: keys, values, items; list(d); ranges -/
namespace DL
open PySem PySem.Spec PyProof.Rows L2

/-- the entries of a dict, as its pairs tell -/
theorem pairs_flat {P : Program} {w : World} {K : PySem.W.Frag} {ρ : List Addr} {H : Hp} : ∀ {es : List DictEntry} {vs : List (Key × Value)} {kvs : List (PV × PV)}, Pairs (mixKind P w) es vs → PrF K ρ H kvs vs →
    ∃ ws : List (V × V), Paired (fun w e => L2.RelV w.1 e.key ∧ L2.RelV w.2 e.val) ws es ∧ RPs K ρ H kvs ws
  | [], [], [], .nil, .nil => ⟨[], .nil, .nil⟩
  | e :: es, v :: vs, p :: kvs, .cons h1 h2 t, .cons h t' => by
    obtain ⟨ws, a, b⟩ := pairs_flat t t'
    obtain ⟨y, y1, y2⟩ := h.2
    refine ⟨(kV v.1, y) :: ws, .cons ⟨relV_key (show keyIs v.1 e.key = true from h1), h2 ▸ y1⟩ a, .cons ⟨?_, y2⟩ b⟩
    rw [h.1]
    cases v with
    | mk k u => cases k with
      | inl i => exact .int i
      | inr x => exact .str x
theorem pairs_nest {P : Program} {w : World} {K : PySem.W.Frag} {ρ : List Addr} {H : Hp} : ∀ {xs : List (NestedKey × Addr × Value)} {kvs : List (PV × PV)}, PrN K ρ H kvs xs →
    ∃ ws : List (V × V), Paired (fun w e => L2.RelV w.1 e.key ∧ L2.RelV w.2 e.val) ws (xs.map (entryOfKey (nestedKind P w))) ∧ RPs K ρ H kvs ws
  | [], [], .nil => ⟨[], .nil, .nil⟩
  | x :: xs, p :: kvs, .cons h t => by
    obtain ⟨ws, a, b⟩ := pairs_nest (P := P) (w := w) t
    obtain ⟨y, y1, y2⟩ := h.2.2.2
    exact ⟨(.ref x.2.1, y) :: ws, .cons ⟨rfl, y1⟩ a, .cons ⟨h.2.2.1, y2⟩ b⟩
theorem dobj_pairs {P : Program} {w : World} {K : PySem.W.Frag} {ρ : List Addr} {H : Hp} {o : Obj} {kvs : List (PV × PV)} (D : DObj P w K ρ H o kvs) {es : Array DictEntry} {ep : Nat} (hd : o.data = .dict es ep) :
    ∃ ws : List (V × V), Paired (fun w e => L2.RelV w.1 e.key ∧ L2.RelV w.2 e.val) ws es.toList ∧ RPs K ρ H kvs ws := by
  obtain ⟨ex, hl, es', ep', h1, h2⟩ := D
  rw [hd] at h1
  injection h1 with e1 e2
  subst e1
  rcases h2 with ⟨vs, a, b, c, d⟩ | ⟨xs, a, b, d⟩
  · exact pairs_flat b d
  · obtain ⟨ws, h3, h4⟩ := pairs_nest (P := P) (w := w) d
    rw [a]
    exact ⟨ws, h3, h4⟩
/-- the dict at a stands so, and its entries have these values -/
def conD (a : Addr) (ep n : Nat) : Heap → List (V × V) → Prop := fun h ws => ∃ es, h.DictRaw a es ep ∧ es.size = n ∧ Paired (fun (w : V × V) (e : DictEntry) => L2.RelV w.1 e.key ∧ L2.RelV w.2 e.val) ws es.toList
theorem paired_uniq {ws : List (V × V)} {es : List DictEntry} (x : Paired (fun (w : V × V) (e : DictEntry) => L2.RelV w.1 e.key ∧ L2.RelV w.2 e.val) ws es) : ∀ {ws' : List (V × V)}, Paired (fun (w : V × V) (e : DictEntry) => L2.RelV w.1 e.key ∧ L2.RelV w.2 e.val) ws' es → ws = ws' := by
  induction x with
  | nil => intro ws' y; cases y; rfl
  | @cons p e ps es h t ih =>
    intro ws' y
    cases y with
    | @cons p' _ ps' _ h' t' =>
      rw [ih t']
      obtain ⟨p1, p2⟩ := p
      obtain ⟨q1, q2⟩ := p'
      have e1 : p1 = q1 := relV_uniq h.1 h'.1
      have e2 : p2 = q2 := relV_uniq h.2 h'.2
      rw [e1, e2]
theorem conD_fn {a : Addr} {ep n : Nat} {h : Heap} {ws ws' : List (V × V)} (x : conD a ep n h ws) (y : conD a ep n h ws') : ws = ws' := by
  obtain ⟨es, ⟨o, h1, h2, h3⟩, _, h4⟩ := x
  obtain ⟨es', ⟨o', k1, k2, k3⟩, _, k4⟩ := y
  rw [h1] at k1
  cases k1
  rw [h3] at k3
  injection k3 with e1 e2
  subst e1
  exact paired_uniq h4 k4
/-- from the start on -/
theorem conD_val {P : Program} {w : World} {K : PySem.W.Frag} {ρ0 : List Addr} {H0 : Hp} {μ0 : Sto} {i : Nat} {a : Addr} {kvs : List (PV × PV)} {X0 : Cx} {pins0 : List (Addr × Obj)} {σ0 : L2.St} {s0 : Shared} (hP0 : X0.prog = P) (hw0 : X0.w = w) (hK0 : X0.K = K)
    (I0 : Inv X0 pins0 σ0 H0 s0) (t0 : RSt P w K ρ0 H0 μ0) (ha : ρ0[i]? = some a) (e0 : μ0[i]? = some (.dct kvs)) :
    ∃ ep, ∀ (X : Cx) (pins : List (Addr × Obj)) (σ : L2.St) (H : Hp) (s : Shared), X.prog = P → X.w = w → X.K = K → Inv X pins σ H s → ∀ ρ μ, gS P w K ρ0 H0 (fun μ => sameDct μ i kvs) H ρ μ → ∃ ws, conD a ep kvs.length s.heap ws ∧ RPs K ρ H kvs ws := by
  subst hP0 hw0 hK0
  obtain ⟨o0, k1, k2, D0⟩ := t0.obj i a _ ha e0
  have g0 : s0.heap.get? a = some o0 := (I0.hok a _ k1).1
  have D0' := D0
  obtain ⟨ex, hl, es0, ep0, hd0, _⟩ := D0'
  refine ⟨ep0, fun X pins σ H s hP hw hK I ρ μ g => ?_⟩
  obtain ⟨gr, t, hg⟩ := g
  obtain ⟨o2, m1, m2, D2⟩ := t.obj i a _ (gr.get _ _ ha) (dctAt_get (sameDct_of hg))
  have g2 : s.heap.get? a = some o2 := (I.hok a _ m1).1
  obtain ⟨o', es', ep', n1, n2, n3, n4⟩ := gr.dct a o0 es0 ep0 k1 hd0
  have g3 : s.heap.get? a = some o' := (I.hok a _ n1).1
  rw [g2] at g3
  cases g3
  obtain ⟨ws0, w1, w2⟩ := dobj_pairs D0 hd0
  obtain ⟨ws, w3, w4⟩ := dobj_pairs D2 n2
  have l0 : es0.size = kvs.length := by rw [← Array.length_toList, ← Paired.length w1, Paired.length w2]
  have l2 : es'.size = kvs.length := by rw [← Array.length_toList, ← Paired.length w3, Paired.length w4]
  have := n4 (by omega)
  subst this
  exact ⟨ws, ⟨es', ⟨o2, g2, D2.1, n2⟩, l2, w3⟩, w4⟩

theorem paired_at {ws : List (V × V)} {es : Array DictEntry} (x : Paired (fun (w : V × V) (e : DictEntry) => L2.RelV w.1 e.key ∧ L2.RelV w.2 e.val) ws es.toList) {i : Nat} (hi : i < es.size) : ∃ y, ws[i]? = some y ∧ L2.RelV y.1 es[i].key ∧ L2.RelV y.2 es[i].val := by
  have hl : ws.length = es.size := by rw [Paired.length x, Array.length_toList]
  have hw : i < ws.length := by omega
  obtain ⟨e, h1, h2⟩ := paired_get x (List.getElem?_eq_getElem hw)
  have : es.toList[i]? = some es[i] := by simp [hi]
  rw [this] at h1
  cases h1
  exact ⟨_, List.getElem?_eq_getElem hw, h2⟩
theorem rps_fst {K : PySem.W.Frag} {ρ : List Addr} {H : Hp} : ∀ {kvs : List (PV × PV)} {ws : List (V × V)}, RPs K ρ H kvs ws → RVs K ρ H (kvs.map (·.1)) (ws.map (·.1))
  | [], [], .nil => .nil
  | _ :: _, _ :: _, .cons h t => .cons h.1 (rps_fst t)
theorem rps_snd {K : PySem.W.Frag} {ρ : List Addr} {H : Hp} : ∀ {kvs : List (PV × PV)} {ws : List (V × V)}, RPs K ρ H kvs ws → RVs K ρ H (kvs.map (·.2)) (ws.map (·.2))
  | [], [], .nil => .nil
  | _ :: _, _ :: _, .cons h t => .cons h.2 (rps_snd t)
theorem same_self {μ : Sto} {i : Nat} {kvs : List (PV × PV)} (h : dctAt μ i = some kvs) : sameDct μ i kvs = true := by
  unfold sameDct
  rw [h]
  show sameKvs kvs kvs = true
  clear h
  induction kvs with
  | nil => rfl
  | cons a r ih => obtain ⟨a1, a2⟩ := a; unfold sameKvs; rw [PV.beq_self, PV.beq_self, ih]; rfl

/-! ### for x in v, of any kind -/
def srcK (p : PV) (μ : Sto) : Option (List PV × (Sto → Bool)) := match p with
  | .ref i => match dctAt μ i with
    | some kvs => some (kvs.map (·.1), fun μ' => sameDct μ' i kvs)
    | none => srcOf p μ
  | _ => srcOf p μ
def dItA (d : DE) : DI := fun η μ => (d η μ).bind fun p μ1 => match srcK p μ1 with
  | some x => .ok x μ1
  | none => .bad
/-- d.values(), d.items() -/
def dVals (d : DE) : DI := fun η μ => (d η μ).bind fun p μ1 => match p with
  | .ref i => match dctAt μ1 i with
    | some kvs => .ok (kvs.map (·.2), fun μ' => sameDct μ' i kvs) μ1
    | none => .bad
  | _ => .bad
def dItems (d : DE) : DI := fun η μ => (d η μ).bind fun p μ1 => match p with
  | .ref i => match dctAt μ1 i with
    | some kvs => .ok ((kvs.map fun kv => [kv.1, kv.2]).map PV.tup, fun μ' => sameDct μ' i kvs) μ1
    | none => .bad
  | _ => .bad
section
variable {X : Cx} {W : EW} {pins : List (Addr × Obj)} {σ : L2.St} {H : Hp} {s : Shared} {ρ : List Addr} {μ : Sto} {i : Nat} {a : Addr} {kvs : List (PV × PV)} {tg : Expr}
theorem goesN_n {P : Program} {w : World} {A : Around} {it : Addr} {fp wr : List Addr} {n m : Nat} {Y : Nat → Heap → Value → Heap → Prop} {St : Nat → Heap → Prop} (e : n = m) (G : GoesN P w A tg it fp wr n Y St) : GoesN P w A tg it fp wr m Y St := e ▸ G
/-- the dict at its start: its raw entries with the count of changes that stays -/
theorem conD_here (I : Inv X pins σ H s) (t : RSt X.prog X.w X.K ρ H μ) (ha : ρ[i]? = some a) (e : dctAt μ i = some kvs) :
    ∃ es ep, s.heap.DictRaw a es ep ∧ es.size = kvs.length ∧ ∀ (X1 : Cx) (pins : List (Addr × Obj)) (σ : L2.St) (H1 : Hp) (s : Shared), X1.prog = X.prog → X1.w = X.w → X1.K = X.K → Inv X1 pins σ H1 s → ∀ ρ1 μ, gS X.prog X.w X.K ρ H (fun μ => sameDct μ i kvs) H1 ρ1 μ → ∃ ws, conD a ep kvs.length s.heap ws ∧ RPs X.K ρ1 H1 kvs ws := by
  obtain ⟨ep, hc⟩ := conD_val (X0 := X) rfl rfl rfl I t ha (dctAt_get e)
  obtain ⟨ws, ⟨es, h1, h2, h3⟩, h4⟩ := hc X pins σ H s rfl rfl rfl I ρ μ ⟨Step.refl.grow, t, same_self e⟩
  exact ⟨es, ep, h1, h2, hc⟩
theorem ne_iter {h : Heap} {it : Addr} {es : Array DictEntry} {ep : Nat} (hr : h.DictRaw a es ep) {o : Obj} (ho : h.get? it = some o) (hc : o.cls ≠ .type "dict") : a ≠ it := by
  obtain ⟨o', h1, h2, _⟩ := hr
  rintro rfl
  rw [h1] at ho
  cases ho
  exact hc h2.1
theorem keys_turn {ep : Nat} (hc : ∀ (X1 : Cx) (pins : List (Addr × Obj)) (σ : L2.St) (H1 : Hp) (s : Shared), X1.prog = X.prog → X1.w = X.w → X1.K = X.K → Inv X1 pins σ H1 s → ∀ ρ1 μ, gS X.prog X.w X.K ρ H (fun μ => sameDct μ i kvs) H1 ρ1 μ → ∃ ws, conD a ep kvs.length s.heap ws ∧ RPs X.K ρ1 H1 kvs ws) (it : Addr) :
    Turn X.prog X.w X.K tg (J1 X.prog X.w X.K ρ H (fun μ => sameDct μ i kvs) (kvs.map (·.1))) [it] it (fun j h => h.IsKeyIter it a j kvs.length ep) := by
  refine turn1 (con := fun h vs => ∃ ws, conD a ep kvs.length h ws ∧ vs = ws.map (·.1)) ⟨fun h vs vs' ⟨x, x1, x2⟩ ⟨y, y1, y2⟩ => by rw [x2, y2, conD_fn x1 y1], fun X1 pins σ H1 s hP hw hK I ρ1 μ g => ?_⟩ ⟨by simp, fun j h ⟨o, h1, h2, h3⟩ b hb => ?_, fun j h h' st kp => st.at fun o e => kp it (by simp) o e, fun prog w A j s Q E st q => wpAny_pyIter_keyiter st q⟩ fun A j h vs hh c st hlt => ?_
  · obtain ⟨ws, c, r⟩ := hc X1 pins σ H1 s hP hw hK I ρ1 μ g
    exact ⟨_, ⟨ws, c, rfl⟩, rps_fst r⟩
  · rw [List.mem_singleton.mp hb]
    exact ⟨o, h1, fun v z => by rw [h3] at z; cases z⟩
  · obtain ⟨ws, ⟨es, hr, hsz, hp⟩, rfl⟩ := c
    have hl : (ws.map (·.1)).length = es.size := by rw [List.length_map, Paired.length hp, Array.length_toList]
    have hne : a ≠ it := by
      obtain ⟨o, h1, h2, h3⟩ := st
      exact ne_iter hr h1 (by rw [h2]; exact fun z => by injection z with z; exact absurd z (by decide))
    have G0 := (Goes.rawKeys (prog := X.prog) (w := X.w) (A := A) (target := tg) hh it a hne es ep).toN
    have G := goesN_n hl.symm G0
    refine ⟨_, _, _, _, G, ⟨by rw [hsz]; exact st, hr⟩, fun b hb => hb, fun j h z => by have := z.1; rw [hsz] at this; exact this, fun j h0 v h' ⟨hi, e⟩ => ?_⟩
    subst e
    obtain ⟨y, h1, h2, h3⟩ := paired_at hp hi
    exact ⟨y.1, by rw [List.getElem?_map, h1]; rfl, h2⟩
theorem vals_turn {ep : Nat} (hc : ∀ (X1 : Cx) (pins : List (Addr × Obj)) (σ : L2.St) (H1 : Hp) (s : Shared), X1.prog = X.prog → X1.w = X.w → X1.K = X.K → Inv X1 pins σ H1 s → ∀ ρ1 μ, gS X.prog X.w X.K ρ H (fun μ => sameDct μ i kvs) H1 ρ1 μ → ∃ ws, conD a ep kvs.length s.heap ws ∧ RPs X.K ρ1 H1 kvs ws) (it : Addr) :
    Turn X.prog X.w X.K tg (J1 X.prog X.w X.K ρ H (fun μ => sameDct μ i kvs) (kvs.map (·.2))) [it] it (fun j h => h.IsValIter it a j kvs.length ep) := by
  refine turn1 (con := fun h vs => ∃ ws, conD a ep kvs.length h ws ∧ vs = ws.map (·.2)) ⟨fun h vs vs' ⟨x, x1, x2⟩ ⟨y, y1, y2⟩ => by rw [x2, y2, conD_fn x1 y1], fun X1 pins σ H1 s hP hw hK I ρ1 μ g => ?_⟩ ⟨by simp, fun j h ⟨o, h1, h2, h3⟩ b hb => ?_, fun j h h' st kp => st.at fun o e => kp it (by simp) o e, fun prog w A j s Q E st q => wpAny_pyIter_valiter st q⟩ fun A j h vs hh c st hlt => ?_
  · obtain ⟨ws, c, r⟩ := hc X1 pins σ H1 s hP hw hK I ρ1 μ g
    exact ⟨_, ⟨ws, c, rfl⟩, rps_snd r⟩
  · rw [List.mem_singleton.mp hb]
    exact ⟨o, h1, fun v z => by rw [h3] at z; cases z⟩
  · obtain ⟨ws, ⟨es, hr, hsz, hp⟩, rfl⟩ := c
    have hl : (ws.map (·.2)).length = es.size := by rw [List.length_map, Paired.length hp, Array.length_toList]
    have hne : a ≠ it := by
      obtain ⟨o, h1, h2, h3⟩ := st
      exact ne_iter hr h1 (by rw [h2]; exact fun z => by injection z with z; exact absurd z (by decide))
    have G0 := (Goes.rawValues (prog := X.prog) (w := X.w) (A := A) (target := tg) hh it a hne es ep).toN
    have G := goesN_n hl.symm G0
    refine ⟨_, _, _, _, G, ⟨by rw [hsz]; exact st, hr⟩, fun b hb => hb, fun j h z => by have := z.1; rw [hsz] at this; exact this, fun j h0 v h' ⟨hi, e⟩ => ?_⟩
    subst e
    obtain ⟨y, h1, h2, h3⟩ := paired_at hp hi
    exact ⟨y.2, by rw [List.getElem?_map, h1]; rfl, h3⟩
theorem items_turn {elts : List Expr} {kk : Nat} {tpos : Pos} {ep : Nat} (hc : ∀ (X1 : Cx) (pins : List (Addr × Obj)) (σ : L2.St) (H1 : Hp) (s : Shared), X1.prog = X.prog → X1.w = X.w → X1.K = X.K → Inv X1 pins σ H1 s → ∀ ρ1 μ, gS X.prog X.w X.K ρ H (fun μ => sameDct μ i kvs) H1 ρ1 μ → ∃ ws, conD a ep kvs.length s.heap ws ∧ RPs X.K ρ1 H1 kvs ws) (it : Addr) :
    Turn X.prog X.w X.K (.Tuple elts kk tpos) (J2 X.prog X.w X.K ρ H (fun μ => sameDct μ i kvs) (kvs.map fun kv => [kv.1, kv.2])) [it] it (fun j h => ∃ ok ov, IsItemIter h it a j kvs.length ep ok ov) := by
  refine turn2 (con := fun h vss => ∃ ws, conD a ep kvs.length h ws ∧ vss = ws.map fun w => [w.1, w.2]) (fun h vs vs' ⟨x, x1, x2⟩ ⟨y, y1, y2⟩ => by rw [x2, y2, conD_fn x1 y1]) (fun X1 pins σ H1 s hP hw hK I ρ1 μ g => ?_) ⟨by simp, fun j h ⟨ok, ov, he⟩ b hb => ?_, fun j h h' ⟨ok, ov, he⟩ kp => ⟨ok, ov, kp it (by simp) _ he⟩, fun prog w A j s Q E ⟨ok, ov, he⟩ q => wpAny_pyIter_itemiter he q⟩ fun A j h vs hh c st hlt => ?_
  · obtain ⟨ws, c, r⟩ := hc X1 pins σ H1 s hP hw hK I ρ1 μ g
    refine ⟨_, ⟨ws, c, rfl⟩, by rw [List.length_map, List.length_map, Paired.length r], fun j ps hp => ?_⟩
    rw [List.getElem?_map] at hp
    obtain ⟨kv, h1, rfl⟩ := Option.map_eq_some_iff.mp hp
    obtain ⟨w, h2, h3⟩ := paired_get r h1
    exact ⟨_, by rw [List.getElem?_map, h2]; rfl, .cons h3.1 (.cons h3.2 .nil), by simp⟩
  · rw [List.mem_singleton.mp hb]
    exact ⟨_, he, fun v z => nomatch z⟩
  · obtain ⟨ws, ⟨es, hr, hsz, hp⟩, rfl⟩ := c
    have hl : (ws.map fun w => [w.1, w.2]).length = es.size := by rw [List.length_map, Paired.length hp, Array.length_toList]
    obtain ⟨ok, ov, he⟩ := st
    have hne : a ≠ it := ne_iter hr he (fun z => by injection z with z; exact absurd z (by decide))
    have G0 := GoesN.rawItems (prog := X.prog) (w := X.w) (A := A) (elts := elts) (x1 := kk) (pos := tpos) hh it a hne es ep
    have G := goesN_n hl.symm G0
    refine ⟨_, _, _, _, G, ⟨⟨ok, ov, by rw [hsz]; exact he⟩, hr⟩, fun b hb => hb, fun j h z => by have := z.1; rw [hsz] at this; exact this, fun j h0 v h' ⟨T, hi, e, hT, ht⟩ => ?_⟩
    obtain ⟨y, h1, h2, h3⟩ := paired_at hp hi
    exact ⟨T, _, [es[j].key, es[j].val], by rw [List.getElem?_map, h1]; rfl, e, hT, .cons h2 (.cons h3 .nil), ht⟩
end
end DL
/-! D18: any source; list(d); ranges; comprehensions of one clause, of two -/
namespace DL
open PySem PySem.Spec PyProof.Rows L2
section
variable {X : Cx} {W : EW}
theorem li_itA {tg e : Expr} {d : DE} (h : LE X W e d) : LI X W tg e (dItA d) := ⟨fun pins s σ H R I ⟨ρ, η, μ, en, t, q⟩ => by
  refine thn (h.run pins s σ H (fun x H1 => ∃ ρ1 p μ1, RV X.K ρ1 H1 p x ∧ RSt X.prog X.w X.K ρ1 H1 μ1 ∧ Post X.prog X.w X.K W ρ1 H1 (match srcK p μ1 with | some x => .ok x μ1 | none => .bad) (RI X.prog X.w X.K) R) I ⟨ρ, η, μ, en, t, (Post.bind q).mono fun x H1 ⟨ρ1, p, μ1, st, r, s1, q1⟩ => ⟨ρ1, p, μ1, r, s1, q1⟩⟩)
    fun u s1 ⟨x, H1, I1, rx, ρ1, p, μ1, r, t1, q1⟩ => ?_
  have plain : srcK p μ1 = srcOf p μ1 → wpAny (model X.prog X.w) X.A (pyIter u) (PIE X pins σ tg R) X.xe s1 := by
    intro e
    rw [e] at q1
    cases e1 : srcOf p μ1 with
    | none => rw [e1] at q1; exact q1.elim
    | some z =>
      obtain ⟨its, gd⟩ := z
      rw [e1] at q1
      obtain ⟨hg, con, o, src, tn, S, k⟩ := src_any t1 r rx e1
      obtain ⟨vs, c, rv⟩ := S.val X pins σ H1 s1 rfl rfl rfl I1 ρ1 μ1 ⟨Step.refl.grow, t1, hg⟩
      obtain ⟨Hb, B, hb⟩ := k.beg _ _ c
      refine B.iter _ _ _ _ _ _ hb ?_
      refine ⟨s1.heap.objs.size, [s1.heap.objs.size], tn s1.heap.objs.size, J1 X.prog X.w X.K ρ1 H1 gd its, H1, rfl, I1.kept (t' := s1.toks) fun b ob q => Heap.get?_push_of_some _ q, ?_, k.tn0 _ _ (Heap.get?_push_size _ B.free), fun b hb => ?_, ?_⟩
      · exact turn1 S (own_one k _) fun A i h vs hh c st _ => goes_one k _ i h vs hh c st
      · rw [List.mem_singleton.mp hb]
        exact I1.fpOk (Nat.le_refl _) (I1.hok.fresh (Nat.le_refl _))
      · exact q1 ρ1 _ H1 Step.refl (wk1 _ _ _ _ _ gd its) t1
  cases r with
  | @ref i a ha =>
    cases e : dctAt μ1 i with
    | none => exact plain (show (match dctAt μ1 i with | some kvs => _ | none => _) = _ by rw [e])
    | some kvs =>
      have q1 : Post X.prog X.w X.K W ρ1 H1 (match (match dctAt μ1 i with | some kvs => some (kvs.map (·.1), fun μ' => sameDct μ' i kvs) | none => srcOf (.ref i) μ1) with | some x => .ok x μ1 | none => .bad) (RI X.prog X.w X.K) R := q1
      rw [e] at q1
      obtain rfl : u = Value.ref a := rx
      obtain ⟨es, ep, hr, hsz, hc⟩ := conD_here I1 t1 ha e
      have D := dis_of I1 t1 ha (dctAt_get e)
      refine wpAny_pyIter_dict_raw D.sys hr (pi_one (tk := s1.toks) I1 _ (keys_turn hc _) ⟨_, Heap.get?_push_size _ rfl, rfl, by rw [hsz]; rfl⟩ ?_)
      exact q1 ρ1 _ H1 Step.refl (wk1 _ _ _ _ _ _ _) t1
  | _ => exact plain rfl⟩
theorem li_vals {tg e : Expr} {d : DE} {apos cpos : Pos} (h : LE X W e d) (hbase : attributeBase e "values" X.env (eval e X.env) = eval e X.env := by rfl) (hline : (apos.endLine == cpos.line) = true := by rfl) :
    LI X W tg (.Call (.Attribute e "values" apos) [] [] cpos) (dVals d) := ⟨fun pins s σ H R I ⟨ρ, η, μ, en, t, q⟩ => by
  refine wpAny_Call_method (T := "dict") (id := "dict.values") hbase rfl hline F.plainAttrs_dict F.slot_dict_values F.type_dict_values (thn (h.run pins s σ H (fun x H1 => ∃ ρ1 p μ1, RV X.K ρ1 H1 p x ∧ RSt X.prog X.w X.K ρ1 H1 μ1 ∧
    Post X.prog X.w X.K W ρ1 H1 (match p with
      | .ref i => match dctAt μ1 i with
        | some kvs => .ok (kvs.map (·.2), fun μ' => sameDct μ' i kvs) μ1
        | none => .bad
      | _ => .bad) (RI X.prog X.w X.K) R) I ⟨ρ, η, μ, en, t, (Post.bind q).mono fun x H1 ⟨ρ1, p, μ1, st, r, s1, q1⟩ => ⟨ρ1, p, μ1, r, s1, q1⟩⟩) fun u s1 ⟨x, H1, I1, rx, ρ1, p, μ1, r, t1, q1⟩ => ?_)
  cases r with
  | @ref i a ha =>
    cases e : dctAt μ1 i with
    | none => simp only [e] at q1; exact q1.elim
    | some kvs =>
      simp only [e] at q1
      obtain rfl : u = Value.ref a := rx
      obtain ⟨es, ep, hr, hsz, hc⟩ := conD_here I1 t1 ha e
      have D := dis_of I1 t1 ha (dctAt_get e)
      refine ⟨D.typeIs, fun b q => by cases q; exact D.noDict, ?_⟩
      have I2 : Inv X pins σ H1 { s1 with heap := s1.heap.push { cls := .type "dict_values", data := .fields #[.ref a] } } := I1.kept (t' := s1.toks) fun b ob q => Heap.get?_push_of_some _ q
      have fin : wpAny (model X.prog X.w) X.A (pyIter (.ref s1.heap.objs.size)) (PIE X pins σ tg R) X.xe { s1 with heap := s1.heap.push { cls := .type "dict_values", data := .fields #[.ref a] } } := by
        refine wpAny_pyIter_values_raw (d := a) ⟨_, Heap.get?_push_size _ rfl, rfl, rfl⟩ (hr.at fun o q => Heap.get?_push_of_some _ q) (pi_one (tk := s1.toks) I2 _ (vals_turn hc _) ⟨_, Heap.get?_push_size _ rfl, rfl, by rw [hsz]; rfl⟩ ?_)
        exact q1 ρ1 _ H1 Step.refl (wk1 _ _ _ _ _ _ _) t1
      show wpAny _ _ (callWith cpos (.builtin "dict.values") [.ref a] [] []) _ X.xe s1
      exact method_meetsIn F.slot_dict_values F.entry_dict_values rfl (PySem.evalArgs_none ⟨rfl, D.typeIs, F.args_dict_values_1 _, _, meets_dict_values_raw a D.sys, ⟨es, ep, hr⟩, fin⟩)
  | _ => exact q1.elim⟩
theorem li_items {e : Expr} {d : DE} {apos cpos tpos : Pos} {elts : List Expr} {kk : Nat} (h : LE X W e d) (hbase : attributeBase e "items" X.env (eval e X.env) = eval e X.env := by rfl) (hline : (apos.endLine == cpos.line) = true := by rfl) :
    LI X W (.Tuple elts kk tpos) (.Call (.Attribute e "items" apos) [] [] cpos) (dItems d) := ⟨fun pins s σ H R I ⟨ρ, η, μ, en, t, q⟩ => by
  refine wpAny_Call_method (T := "dict") (id := "dict.items") hbase rfl hline F.plainAttrs_dict F.slot_dict_items F.type_dict_items (thn (h.run pins s σ H (fun x H1 => ∃ ρ1 p μ1, RV X.K ρ1 H1 p x ∧ RSt X.prog X.w X.K ρ1 H1 μ1 ∧
    Post X.prog X.w X.K W ρ1 H1 (match p with
      | .ref i => match dctAt μ1 i with
        | some kvs => .ok ((kvs.map fun kv => [kv.1, kv.2]).map PV.tup, fun μ' => sameDct μ' i kvs) μ1
        | none => .bad
      | _ => .bad) (RI X.prog X.w X.K) R) I ⟨ρ, η, μ, en, t, (Post.bind q).mono fun x H1 ⟨ρ1, p, μ1, st, r, s1, q1⟩ => ⟨ρ1, p, μ1, r, s1, q1⟩⟩) fun u s1 ⟨x, H1, I1, rx, ρ1, p, μ1, r, t1, q1⟩ => ?_)
  cases r with
  | @ref i a ha =>
    cases e : dctAt μ1 i with
    | none => simp only [e] at q1; exact q1.elim
    | some kvs =>
      simp only [e] at q1
      obtain rfl : u = Value.ref a := rx
      obtain ⟨es, ep, hr, hsz, hc⟩ := conD_here I1 t1 ha e
      have D := dis_of I1 t1 ha (dctAt_get e)
      refine ⟨D.typeIs, fun b q => by cases q; exact D.noDict, ?_⟩
      have I2 : Inv X pins σ H1 { s1 with heap := s1.heap.push { cls := .type "dict_items", data := .fields #[.ref a] } } := I1.kept (t' := s1.toks) fun b ob q => Heap.get?_push_of_some _ q
      have fin : wpAny (model X.prog X.w) X.A (pyIter (.ref s1.heap.objs.size)) (PIE X pins σ (.Tuple elts kk tpos) R) X.xe { s1 with heap := s1.heap.push { cls := .type "dict_items", data := .fields #[.ref a] } } := by
        refine wpAny_pyIter_items_raw (d := a) ⟨_, Heap.get?_push_size _ rfl, rfl, rfl⟩ (hr.at fun o q => Heap.get?_push_of_some _ q) (pi_one (tk := s1.toks) I2 _ (items_turn hc _) ⟨.none, .none, ?_⟩ ?_)
        · rw [← hsz]
          exact Heap.get?_push_size _ rfl
        · exact q1 ρ1 _ H1 Step.refl (wk2 _ _ _ _ _ _ _) t1
      show wpAny _ _ (callWith cpos (.builtin "dict.items") [.ref a] [] []) _ X.xe s1
      exact method_meetsIn F.slot_dict_items F.entry_dict_items rfl (PySem.evalArgs_none ⟨rfl, D.typeIs, F.args_dict_items_1 _, _, meets_dict_items_raw a D.sys, ⟨es, ep, hr⟩, fin⟩)
  | _ => exact q1.elim⟩

/-! ### list() of anything -/
def vListA : VF := fun xs μ => match xs with
  | [.ref i] => match dctAt μ i with
    | some kvs => .ok (.ref μ.length) (μ ++ [.lst (kvs.map (·.1))])
    | none => vList [.ref i] μ
  | [p] => vList [p] μ
  | _ => .bad
theorem oc_listA (hcm : X.calm = true) : OC X W (.type "list") vListA := oc1_of fun pins s σ H xs us Q ρ μ ps I r rp t h => by
  cases rp with
  | nil => exact h.elim
  | @cons p x _ _ r1 r2 =>
    cases r2 with
    | cons _ _ => cases r1 <;> exact h.elim
    | nil =>
      have plain : Post X.prog X.w X.K W ρ H (vList [p] μ) (RV X.K) Q → wpAny (model X.prog X.w) X.A (call (.type "list") us) (EP X pins σ Q) X.xe s := fun h => oc_list (W := W) pins s σ H _ us Q I r ⟨ρ, μ, [p], .cons r1 .nil, t, h⟩
      cases r1 with
      | @ref i a ha =>
        have h : Post X.prog X.w X.K W ρ H (match dctAt μ i with
          | some kvs => .ok (.ref μ.length) (μ ++ [.lst (kvs.map (·.1))])
          | none => vList [.ref i] μ) (RV X.K) Q := h
        cases e : dctAt μ i with
        | none => rw [e] at h; exact plain h
        | some kvs =>
          rw [e] at h
          obtain ⟨u, rfl, rx⟩ := vals1 r
          obtain rfl : u = Value.ref a := rx
          have D := dis_of I t ha (dctAt_get e)
          obtain ⟨o, k1, k2, D0⟩ := t.obj i a _ ha (dctAt_get e)
          have g0 : s.heap.get? a = some o := (I.hok a _ k1).1
          obtain ⟨ex, hl, es, ep, hd, _⟩ := id D0
          obtain ⟨ws, w1, w2⟩ := dobj_pairs D0 hd
          have lw : ws.length = es.size := by rw [Paired.length w1, Array.length_toList]
          have lk : kvs.length = ws.length := Paired.length w2
          refine PySem.W.kdl_call (kdl_raw D.sys ex hd) (I.ok.hd hcm) g0 (by omega) fun h' tk acc c' kp e' it => ?_
          have rv : Vals (ws.map (·.1)) acc.toList := by
            have hlen : acc.toList.length = ws.length := by rw [Array.length_toList, it.1, lw]
            have gen : ∀ (l : List V) (m : List Value), l.length = m.length → (∀ (j : Nat) (x : V) (y : Value), l[j]? = some x → m[j]? = some y → L2.RelV x y) → Vals l m := by
              intro l
              induction l with
              | nil => intro m h1 _; cases m with
                | nil => exact .nil
                | cons _ _ => cases h1
              | cons x l ih => intro m h1 h2; cases m with
                | nil => cases h1
                | cons y m => exact .cons (h2 0 x y rfl rfl) (ih m (by simpa using h1) fun j x y a b => h2 (j + 1) x y (by simpa using a) (by simpa using b))
            refine gen _ _ (by rw [List.length_map, hlen]) fun j x y h1 h2 => ?_
            rw [List.getElem?_map] at h1
            obtain ⟨w, h3, rfl⟩ := Option.map_eq_some_iff.mp h1
            obtain ⟨en, h4, h5⟩ := it.2 j y (by rw [← Array.getElem?_toList]; exact h2)
            obtain ⟨hj, h6⟩ := Array.getElem?_eq_some_iff.mp h4
            obtain ⟨z, h7, h8, _⟩ := paired_at w1 hj
            rw [h3] at h7
            cases h7
            rw [h5, ← h6]
            exact h8
          have hz : (ws.map (·.1)).length ≤ sizeLine := by rw [List.length_map]; omega
          have hn : H s.heap.objs.size = none := I.hok.fresh (Nat.le_refl _)
          refine ⟨.ref s.heap.objs.size, _, I.laid (t' := tk) (o := .lst (ws.map (·.1))) kp (Nat.le_refl _) ⟨hz, acc.toList, c', rv, by rw [Array.toArray_toList]; exact e'⟩, rfl, ok_lst t (rps_fst w2) hn h⟩
      | tup h1 h2 => exact plain h
      | str z => exact plain h
      | non => exact plain h
      | bl z => exact plain h
      | int z => exact plain h
      | ty z => exact plain h
      | glb z => exact plain h

/-! ### comprehensions -/
theorem le_lc {elt tg iter : Expr} {ifs : List Expr} {scope : Scope} {own : List (Str × Nat)} {pos : Pos} {di : DI} {g : DG} {tt : DT} {d : DE} {js : List Nat} (hc : X.calm = true) (hN : X.N.Nodup) (hi : LI X W tg iter di) (ok : BlkOk X.N X.env.scope scope own)
    (hg : ∀ (s : Shared) (H : Hp) (C : Addr) (cl : List (Str × Addr)) (fp : List Addr), LG (X.blk s H scope (compEnvC scope cl C X.env) fp) EW0 js tg g) (ht : ∀ (s : Shared) (H : Hp) (C : Addr) (cl : List (Str × Addr)) (fp : List Addr), LTs (X.blk s H scope (compEnvC scope cl C X.env) fp) EW0 ifs tt)
    (he : ∀ (s : Shared) (H : Hp) (C : Addr) (cl : List (Str × Addr)) (fp : List Addr), LE (X.blk s H scope (compEnvC scope cl C X.env) fp) EW0 elt d) (hj : ∀ i ∈ js, i ∈ own.map (·.2)) (hs : ∀ x, foldedSetIterable iter X.env x = pure x := by intro _; rfl) :
    LE X W (.ListComp elt [⟨tg, iter, ifs, 0⟩] scope pos) (dLc di g tt d (own.map (·.2))) := (pe_lc hc hN hi ok hg ht he hs).impD fun σ H Q h => lc_of hj h

theorem Grow.trans {K : PySem.W.Frag} {ρ ρ1 ρ2 : List Addr} {H H1 H2 : Hp} (a : Grow K ρ H ρ1 H1) (b : Grow K ρ1 H1 ρ2 H2) : Grow K ρ H ρ2 H2 := ⟨fun i x h => b.get i x (a.get i x h), fun c xs h => b.tup c xs (a.tup c xs h), a.dct.trans b.dct⟩
theorem lcGo_nil {gd : Sto → Bool} {g : DG} {tt : DT} {el : Env' → Sto → List PV → Rz (List PV)} {η : Env'} {acc : List PV} {μ : Sto} : lcGo gd g tt el η [] acc μ = if gd μ = true then .ok acc μ else .bad := rfl
theorem lcGo_cons {gd : Sto → Bool} {g : DG} {tt : DT} {el : Env' → Sto → List PV → Rz (List PV)} {η : Env'} {acc rest : List PV} {p : PV} {μ : Sto} : lcGo gd g tt el η (p :: rest) acc μ = if gd μ = true then (calmR (g p η μ)).bind fun η1 μ1 => (calmR (tt η1 μ1)).bind fun k μ2 =>
      if k = true then (calmR (el η1 μ2 acc)).bind fun acc' μ3 => lcGo gd g tt el η rest acc' μ3
      else lcGo gd g tt el η rest acc μ2
    else .bad := rfl
/-- the inner loop, as what one turn of the outer one adds -/
def el2 (di1 : DI) (g1 : DG) (tt1 : DT) (d : DE) (vs1 : List Nat) : Env' → Sto → List PV → Rz (List PV) := fun η μ acc => (di1 η μ).bind fun x μ1 => lcGo x.2 g1 tt1 (elOne d) (wipeE η vs1) x.1 acc μ1
def dLc2 (di : DI) (g : DG) (tt : DT) (di1 : DI) (g1 : DG) (tt1 : DT) (d : DE) (vs vs1 : List Nat) : DE := fun η μ => (di η μ).bind fun x μ1 => (lcGo x.2 g tt (el2 di1 g1 tt1 d vs1) (wipeE η vs) x.1 [] μ1).bind lcEnd
theorem lc2_of {di di1 : DI} {g g1 : DG} {tt tt1 : DT} {d : DE} {vs vs1 js js1 : List Nat} {σ : L2.St} {H : Hp} {Q : VK} (hj : ∀ i ∈ js, i ∈ vs) (hj1 : ∀ i ∈ js1, i ∈ vs1) (h : T X.prog X.w X.K W (dLc2 di g tt di1 g1 tt1 d vs vs1) σ H Q) :
    tLc2 (TI' X.prog X.w X.K W di) (TG' X.prog X.w X.K EW0 js g) (TB X.prog X.w X.K EW0 tt) (TI' X.prog X.w X.K EW0 di1) (TG' X.prog X.w X.K EW0 js1 g1) (TB X.prog X.w X.K EW0 tt1) (T X.prog X.w X.K EW0 d) vs vs1 σ H Q := by
  obtain ⟨ρ, η, μ, en, s, q⟩ := h
  refine ⟨ρ, η, μ, en, s, (Post.bind q).mono fun J H1 ⟨ρ1, a, μ1, st, wk, s1, q1⟩ => ?_⟩
  obtain ⟨its, gd⟩ := a
  have wk : Wk X.prog X.w X.K J ρ1 H1 its gd := wk
  have en1 : REnv X.K ρ1 H1 (wipeE η vs) (wipe σ vs) := (en.step st).wipe vs
  intro D hD0
  refine ⟨fun i m H2 => i + m = its.length ∧ ∃ ρ2 μ2 acc, LcI X.prog X.w X.K ρ1 H1 D ρ2 H2 μ2 acc ∧
      Post X.prog X.w X.K W ρ1 H1 ((lcGo gd g tt (el2 di1 g1 tt1 d vs1) (wipeE η vs) (its.drop i) acc μ2).bind lcEnd) (RV X.K) Q, ⟨its.length, Nat.zero_add _, ρ1, μ1, [], LcI.start s1 hD0, q1⟩, ?_⟩
  rintro i m H2 ⟨hm, ρ2, μ2, acc, li, q2⟩
  cases e : its.drop i with
  | nil =>
    left
    rw [e] at q2
    unfold lcGo at q2
    by_cases c : gd μ2 = true
    · rw [if_pos c] at q2
      have hl : its.length ≤ i := List.drop_eq_nil_iff.mp e
      exact ⟨(show i = its.length by omega) ▸ wk.stop ρ2 H2 μ2 li.st.grow li.rs c, li.done hD0 q2⟩
    · rw [if_neg c] at q2
      exact q2.elim
  | cons p rest =>
    right
    have hp : its[i]? = some p := by
      have := congrArg (fun l => l[0]?) e
      simpa using this
    have hr : its.drop (i + 1) = rest := by
      rw [← List.drop_drop, e]
      rfl
    have hi : i < its.length := (List.getElem?_eq_some_iff.mp hp).1
    rw [e] at q2
    unfold lcGo at q2
    by_cases c : gd μ2 = true
    · rw [if_pos c] at q2
      obtain ⟨h1, h2⟩ := wk.go i p ρ2 H2 μ2 li.st.grow li.rs c hp
      refine ⟨h1, fun H' => (i + 1) + (m - 1) = its.length ∧ ∃ ρ2 μ2 acc, LcI X.prog X.w X.K ρ1 H1 D ρ2 H' μ2 acc ∧
        Post X.prog X.w X.K W ρ1 H1 ((lcGo gd g tt (el2 di1 g1 tt1 d vs1) (wipeE η vs) rest acc μ2).bind lcEnd) (RV X.K) Q, fun H' ⟨k1, k2⟩ => ⟨m - 1, by omega, k1, by rw [hr]; exact k2⟩, fun x H3 hy => ?_⟩
      obtain ⟨st3, s3, r3⟩ := h2 x H3 hy
      have li3 := li.step st3 s3
      have en3 : REnv X.K ρ2 H3 (wipeE η vs) (wipe σ vs) := en1.step li3.st
      cases eg : g p (wipeE η vs) μ2 with
      | err C v μ4 => rw [eg] at q2; exact q2.elim
      | bad => rw [eg] at q2; exact q2.elim
      | ok η1 μ4 =>
        rw [eg] at q2
        refine ⟨ρ2, _, μ2, p, en3, r3, s3, ?_⟩
        rw [eg]
        intro ρ4 σ4 H4 st4 rel4 s4
        have li4 := li3.step st4 s4
        refine ⟨by rw [(rel4.2.mono hj).wipe, wipe_wipe], ?_⟩
        have q2 : Post X.prog X.w X.K W ρ1 H1 (((calmR (tt η1 μ4)).bind fun k μ2 => if k = true then (calmR (el2 di1 g1 tt1 d vs1 η1 μ2 acc)).bind fun acc' μ3 => lcGo gd g tt (el2 di1 g1 tt1 d vs1) (wipeE η vs) rest acc' μ3 else lcGo gd g tt (el2 di1 g1 tt1 d vs1) (wipeE η vs) rest acc μ2).bind lcEnd) (RV X.K) Q := q2
        cases et : tt η1 μ4 with
        | err C v μ5 => rw [et] at q2; exact q2.elim
        | bad => rw [et] at q2; exact q2.elim
        | ok k μ5 =>
          rw [et] at q2
          refine ⟨ρ4, η1, μ4, rel4.1, s4, ?_⟩
          rw [et]
          intro ρ5 k' H5 st5 rel5 s5
          subst rel5
          have li5 := li4.step st5 s5
          have q2 : Post X.prog X.w X.K W ρ1 H1 ((if k = true then (calmR (el2 di1 g1 tt1 d vs1 η1 μ5 acc)).bind fun acc' μ3 => lcGo gd g tt (el2 di1 g1 tt1 d vs1) (wipeE η vs) rest acc' μ3 else lcGo gd g tt (el2 di1 g1 tt1 d vs1) (wipeE η vs) rest acc μ5).bind lcEnd) (RV X.K) Q := q2
          by_cases ck : k = true
          · simp only [if_pos ck] at q2 ⊢
            unfold el2 at q2
            cases ei : di1 η1 μ5 with
            | err C v μ6 => rw [ei] at q2; exact q2.elim
            | bad => rw [ei] at q2; exact q2.elim
            | ok z μ6 =>
              obtain ⟨its1, gd1⟩ := z
              rw [ei, Rz.bind_ok] at q2
              refine ⟨ρ5, η1, μ5, rel4.1.step st5, s5, ?_⟩
              rw [ei]
              intro ρ6 J1 H6 st6 wk1 s6
              have wk1 : Wk X.prog X.w X.K J1 ρ6 H6 its1 gd1 := wk1
              have li6 := li5.step st6 s6
              have en6 : REnv X.K ρ6 H6 (wipeE η1 vs1) (wipe σ4 vs1) := ((rel4.1.step st5).step st6).wipe vs1
              refine ⟨fun j k H7 => j + k = its1.length ∧ ∃ ρ7 μ7 acc7, LcI X.prog X.w X.K ρ1 H1 D ρ7 H7 μ7 acc7 ∧ Grow X.K ρ6 H6 ρ7 H7 ∧
                Post X.prog X.w X.K W ρ1 H1 (((calmR (lcGo gd1 g1 tt1 (elOne d) (wipeE η1 vs1) (its1.drop j) acc7 μ7)).bind fun acc' μ3 => lcGo gd g tt (el2 di1 g1 tt1 d vs1) (wipeE η vs) rest acc' μ3).bind lcEnd) (RV X.K) Q, ⟨its1.length, Nat.zero_add _, ρ6, μ6, acc, li6, Step.refl.grow, q2⟩, ?_⟩
              rintro j k7 H7 ⟨hk, ρ7, μ7, acc7, li7, gr7, q7⟩
              cases e7 : its1.drop j with
              | nil =>
                left
                rw [e7, lcGo_nil] at q7
                by_cases c7 : gd1 μ7 = true
                · rw [if_pos c7] at q7
                  have hl : its1.length ≤ j := List.drop_eq_nil_iff.mp e7
                  exact ⟨(show j = its1.length by omega) ▸ wk1.stop ρ7 H7 μ7 gr7 li7.rs c7, by omega, ρ7, μ7, acc7, li7, q7⟩
                · rw [if_neg c7] at q7
                  exact q7.elim
              | cons p1 rest1 =>
                right
                have hp1 : its1[j]? = some p1 := by
                  have := congrArg (fun l => l[0]?) e7
                  simpa using this
                have hr1 : its1.drop (j + 1) = rest1 := by
                  rw [← List.drop_drop, e7]
                  rfl
                have hi1 : j < its1.length := (List.getElem?_eq_some_iff.mp hp1).1
                rw [e7, lcGo_cons] at q7
                by_cases c7 : gd1 μ7 = true
                · rw [if_pos c7] at q7
                  obtain ⟨h1, h2⟩ := wk1.go j p1 ρ7 H7 μ7 gr7 li7.rs c7 hp1
                  refine ⟨h1, fun H' => (j + 1) + (k7 - 1) = its1.length ∧ ∃ ρ7 μ7 acc7, LcI X.prog X.w X.K ρ1 H1 D ρ7 H' μ7 acc7 ∧ Grow X.K ρ6 H6 ρ7 H' ∧
                    Post X.prog X.w X.K W ρ1 H1 (((calmR (lcGo gd1 g1 tt1 (elOne d) (wipeE η1 vs1) rest1 acc7 μ7)).bind fun acc' μ3 => lcGo gd g tt (el2 di1 g1 tt1 d vs1) (wipeE η vs) rest acc' μ3).bind lcEnd) (RV X.K) Q, fun H' ⟨k1, k2⟩ => ⟨k7 - 1, by omega, k1, by rw [hr1]; exact k2⟩, fun x H8 hy => ?_⟩
                  obtain ⟨st8, s8, r8⟩ := h2 x H8 hy
                  have li8 := li7.step st8 s8
                  have gr8 := gr7.trans st8.grow
                  have en8 : REnv X.K ρ7 H8 (wipeE η1 vs1) (wipe σ4 vs1) := en6.grow gr8
                  cases eg : g1 p1 (wipeE η1 vs1) μ7 with
                  | err C v μ4 => rw [eg] at q7; exact q7.elim
                  | bad => rw [eg] at q7; exact q7.elim
                  | ok η9 μ9 =>
                    rw [eg] at q7
                    refine ⟨ρ7, _, μ7, p1, en8, r8, s8, ?_⟩
                    rw [eg]
                    intro ρ9 σ9 H9 st9 rel9 s9
                    have li9 := li8.step st9 s9
                    have gr9 := gr8.trans st9.grow
                    refine ⟨by rw [(rel9.2.mono hj1).wipe, wipe_wipe], ?_⟩
                    have q7 : Post X.prog X.w X.K W ρ1 H1 (((calmR ((calmR (tt1 η9 μ9)).bind fun k μ2 => if k = true then (calmR (elOne d η9 μ2 acc7)).bind fun acc' μ3 => lcGo gd1 g1 tt1 (elOne d) (wipeE η1 vs1) rest1 acc' μ3 else lcGo gd1 g1 tt1 (elOne d) (wipeE η1 vs1) rest1 acc7 μ2)).bind fun acc' μ3 => lcGo gd g tt (el2 di1 g1 tt1 d vs1) (wipeE η vs) rest acc' μ3).bind lcEnd) (RV X.K) Q := q7
                    cases et : tt1 η9 μ9 with
                    | err C v μ5 => rw [et] at q7; exact q7.elim
                    | bad => rw [et] at q7; exact q7.elim
                    | ok b μ10 =>
                      rw [et] at q7
                      refine ⟨ρ9, η9, μ9, rel9.1, s9, ?_⟩
                      rw [et]
                      intro ρ10 b' H10 st10 rel10 s10
                      subst rel10
                      have li10 := li9.step st10 s10
                      have gr10 := gr9.trans st10.grow
                      have q7 : Post X.prog X.w X.K W ρ1 H1 (((calmR (if b = true then (calmR (elOne d η9 μ10 acc7)).bind fun acc' μ3 => lcGo gd1 g1 tt1 (elOne d) (wipeE η1 vs1) rest1 acc' μ3 else lcGo gd1 g1 tt1 (elOne d) (wipeE η1 vs1) rest1 acc7 μ10)).bind fun acc' μ3 => lcGo gd g tt (el2 di1 g1 tt1 d vs1) (wipeE η vs) rest acc' μ3).bind lcEnd) (RV X.K) Q := q7
                      by_cases cb : b = true
                      · simp only [if_pos cb] at q7 ⊢
                        unfold elOne at q7
                        by_cases cl : acc7.length < sizeLine
                        · simp only [if_pos cl] at q7
                          refine ⟨ρ10, η9, μ10, rel9.1.step st10, s10, ?_⟩
                          cases ee : d η9 μ10 with
                          | err C v μ6 => rw [ee] at q7; exact q7.elim
                          | bad => rw [ee] at q7; exact q7.elim
                          | ok pe μ11 =>
                            rw [ee] at q7
                            intro ρ11 y H11 st11 r11 s11
                            have li11 := li10.step st11 s11
                            obtain ⟨ws, e1, e2, li12⟩ := li11.push hD0 r11
                            have gr12 := (gr10.trans st11.grow).trans (Grow.write (K := X.K) (ρ := ρ11) (a := D) (u := .lst (ws ++ [y])) (by rw [e1]; trivial) (DW.lst e1))
                            exact ⟨ws, e1, by rw [e2]; exact cl, by omega, ρ11, μ11, _, li12, gr12, q7⟩
                        · simp only [if_neg cl] at q7
                          exact q7.elim
                      · simp only [if_neg cb] at q7 ⊢
                        exact ⟨by omega, ρ10, μ10, acc7, li10, gr10, q7⟩
                · rw [if_neg c7] at q7
                  exact q7.elim
          · simp only [if_neg ck] at q2 ⊢
            exact ⟨by omega, ρ5, μ5, acc, li5, q2⟩
    · rw [if_neg c] at q2
      exact q2.elim
theorem le_lc2 {elt tg iter tg1 iter1 : Expr} {ifs ifs1 : List Expr} {scope : Scope} {own : List (Str × Nat)} {vs1 : List Nat} {pos : Pos} {di di1 : DI} {g g1 : DG} {tt tt1 : DT} {d : DE} {js js1 : List Nat} (hc : X.calm = true) (hN : X.N.Nodup) (hi : LI X W tg iter di) (ok : BlkOk X.N X.env.scope scope own) (hv : ∀ i ∈ vs1, i ∈ own.map (·.2))
    (hg : ∀ (s : Shared) (H : Hp) (C : Addr) (cl : List (Str × Addr)) (fp : List Addr), LG (X.blk s H scope (compEnvC scope cl C X.env) fp) EW0 js tg g) (ht : ∀ (s : Shared) (H : Hp) (C : Addr) (cl : List (Str × Addr)) (fp : List Addr), LTs (X.blk s H scope (compEnvC scope cl C X.env) fp) EW0 ifs tt)
    (hi1 : ∀ (s : Shared) (H : Hp) (C : Addr) (cl : List (Str × Addr)) (fp : List Addr), LI (X.blk s H scope (compEnvC scope cl C X.env) fp) EW0 tg1 iter1 di1)
    (hg1 : ∀ (s : Shared) (H : Hp) (C : Addr) (cl : List (Str × Addr)) (fp : List Addr), LG (X.blk s H scope (compEnvC scope cl C X.env) fp) EW0 js1 tg1 g1) (ht1 : ∀ (s : Shared) (H : Hp) (C : Addr) (cl : List (Str × Addr)) (fp : List Addr), LTs (X.blk s H scope (compEnvC scope cl C X.env) fp) EW0 ifs1 tt1)
    (he : ∀ (s : Shared) (H : Hp) (C : Addr) (cl : List (Str × Addr)) (fp : List Addr), LE (X.blk s H scope (compEnvC scope cl C X.env) fp) EW0 elt d) (hj : ∀ i ∈ js, i ∈ own.map (·.2)) (hj1 : ∀ i ∈ js1, i ∈ vs1) (hs : ∀ x, foldedSetIterable iter X.env x = pure x := by intro _; rfl) (hs1 : ∀ env x, foldedSetIterable iter1 env x = pure x := by intro _ _; rfl) :
    LE X W (.ListComp elt [⟨tg, iter, ifs, 0⟩, ⟨tg1, iter1, ifs1, 0⟩] scope pos) (dLc2 di g tt di1 g1 tt1 d (own.map (·.2)) vs1) := (pe_lc2 hc hN hi ok hv hg ht hi1 hg1 ht1 he hs hs1).impD fun σ H Q h => lc2_of hj hj1 h
end
end DL
/-! D19: sets of keys of trees -/
namespace DL
open PySem PySem.Spec PyProof.Rows L2

/-- what a kind of key must tell, for sets -/
structure SKd {P : Program} {w : World} {κ : Type} [DecidableEq κ] (knd : HeapKind P w κ) : Prop where
  st : knd.Stays
  cls : ∀ {A : Around} {E : Value → Shared → Prop} {s : Shared} {k : κ} {a : Addr} {Q : Bool → Shared → Prop}, knd.is s.heap k a → Q false s → wpAny (model P w) A (ofAClassStatement 8 (.ref a)) Q E s
  byv : ∀ {A : Around} {E : Value → Shared → Prop} {s : Shared} {k : κ} {a : Addr} {Q : Bool → Shared → Prop}, knd.is s.heap k a → (∀ b, Q b s) → wpAny (model P w) A (hashByValue 8 (.ref a)) Q E s

section
variable {P : Program} {w : World}
theorem nk_cases {h : Heap} {k : NestedKey} {v : Value} (x : NestedIs h k v) : (∀ a, v ≠ .ref a) ∨ ∃ a o vs m ks, v = .ref a ∧ k = .tup ks ∧ h.get? a = some o ∧ o.cls = .type "tuple" ∧ o.data = .seq vs m ∧ NestedAll h ks vs.toList := by
  cases x with
  | tup h1 h2 h3 h4 => exact .inr ⟨_, _, _, _, _, rfl, rfl, h1, h2, h3, h4⟩
  | _ => exact .inl fun a z => nomatch z
theorem cls_leaf (n : Nat) (v : Value) (h : ∀ a, v ≠ .ref a) : ofAClassStatement n v = pure false := by
  cases v with
  | ref a => exact absurd rfl (h a)
  | _ => cases n <;> rfl
theorem byv_leaf (n : Nat) (v : Value) (h : ∀ a, v ≠ .ref a) : ∃ b, hashByValue n v = pure b := by
  cases v with
  | ref a => exact absurd rfl (h a)
  | _ => cases n <;> exact ⟨_, rfl⟩
theorem cls_key : ∀ (n : Nat) (k : NestedKey) (v : Value) (A : Around) (E : Value → Shared → Prop) (s : Shared) (Q : Bool → Shared → Prop), NestedIs s.heap k v → k.depth ≤ n → Q false s → wpAny (model P w) A (ofAClassStatement n v) Q E s := by
  intro n
  induction n with
  | zero =>
    intro k v A E s Q hk hn hq
    rcases nk_cases hk with e | ⟨a, o, vs, m, ks, rfl, rfl, _⟩
    · rw [cls_leaf 0 v e]
      exact wpAny_pure hq
    · rw [NestedKey.depth] at hn
      omega
  | succ n ih =>
    intro k v A E s Q hk hn hq
    rcases nk_cases hk with e | ⟨a, o, vs, m, ks, rfl, rfl, ho, hc, hd, hall⟩
    · rw [cls_leaf (n + 1) v e]
      exact wpAny_pure hq
    · rw [NestedKey.depth] at hn
      unfold ofAClassStatement
      refine wpAny_bind (wpAny_typeOf (T := "tuple") ⟨o, ho, hc⟩ ?_)
      dsimp only
      have et : (("tuple" : String) == "tuple") = true := by decide
      simp only [et, if_true, Bool.not_true, Bool.false_eq_true, if_false]
      try refine wpAny_bind (wpAny_pure ?_)
      try simp only [Bool.not_true, Bool.false_eq_true, if_false]
      show wpAny _ _ (seqItems? (Value.ref a) >>= _) _ _ s
      refine wpAny_bind (wpAny_seqItems ho hd ?_)
      dsimp only
      refine wpAny_bind (m := forIn vs _ _) ?_
      rw [← Array.forIn_toList]
      refine wpAny_forIn_list _ (fun rest r s' => r.1 = none ∧ s' = s ∧ ∃ ks', NestedAll s.heap ks' rest ∧ NestedKey.depthAll ks' ≤ n) _ ?_ ?_ _ _ ⟨rfl, rfl, ks, hall, by omega⟩
      · rintro y rest r s' ⟨hr, rfl, ks', ha, hdep⟩
        cases ha with
        | @cons k1 _ ks1 _ h1 h2 =>
          rw [NestedKey.depthAll] at hdep
          refine wpAny_bind (ih k1 y A E s' _ h1 (by omega) ?_)
          simp only [Bool.false_eq_true, if_false]
          exact wpAny_pure ⟨rfl, rfl, ks1, h2, by omega⟩
      · rintro ⟨r1, r2⟩ s' ⟨hr, rfl, _⟩
        have hr : r1 = none := hr
        subst hr
        exact wpAny_pure hq
theorem byv_key : ∀ (n : Nat) (k : NestedKey) (v : Value) (A : Around) (E : Value → Shared → Prop) (s : Shared) (Q : Bool → Shared → Prop), NestedIs s.heap k v → (∀ b, Q b s) → wpAny (model P w) A (hashByValue n v) Q E s := by
  intro n
  induction n with
  | zero =>
    intro k v A E s Q hk hq
    rcases nk_cases hk with e | ⟨a, o, vs, m, ks, rfl, rfl, _⟩
    · obtain ⟨b, e'⟩ := byv_leaf 0 v e
      rw [e']
      exact wpAny_pure (hq b)
    · exact wpAny_pure (hq _)
  | succ n ih =>
    intro k v A E s Q hk hq
    rcases nk_cases hk with e | ⟨a, o, vs, m, ks, rfl, rfl, ho, hc, hd, hall⟩
    · obtain ⟨b, e'⟩ := byv_leaf (n + 1) v e
      rw [e']
      exact wpAny_pure (hq b)
    · unfold hashByValue
      refine wpAny_bind (wpAny_specialOf (T := "tuple") ⟨o, ho, hc⟩ F.slot_tuple_hash.lookup ?_)
      show wpAny _ _ (seqItems? (Value.ref a) >>= _) _ _ s
      refine wpAny_bind (wpAny_seqItems ho hd ?_)
      refine wpAny_bind (m := forIn vs _ _) ?_
      rw [← Array.forIn_toList]
      refine wpAny_forIn_list _ (fun rest r s' => r.1 = none ∧ s' = s ∧ ∃ ks', NestedAll s.heap ks' rest) _ ?_ ?_ _ _ ⟨rfl, rfl, ks, hall⟩
      · rintro y rest r s' ⟨hr, rfl, ks', ha⟩
        cases ha with
        | @cons k1 _ ks1 _ h1 h2 =>
          refine wpAny_bind (ih k1 y A E s' _ h1 fun b => ?_)
          cases b with
          | true =>
            simp only [Bool.not_true, Bool.false_eq_true, if_false]
            exact wpAny_pure ⟨rfl, rfl, ks1, h2⟩
          | false =>
            simp only [Bool.not_false, if_true]
            exact wpAny_pure (wpAny_pure (hq _))
      · rintro ⟨r1, r2⟩ s' ⟨hr, rfl, _⟩
        have hr : r1 = none := hr
        subst hr
        exact wpAny_pure (hq _)
theorem skd_nested : SKd (nestedKind P w) where
  st := nestedKind_stays
  cls := fun {A E s k a Q} hk hq => cls_key 8 k _ A E s Q hk.1 hk.2 hq
  byv := fun {A E s k a Q} hk hq => byv_key 8 k _ A E s Q hk.1 hq
end
end DL
/-! D20: a set of keys of trees: searched, added to -/
namespace DL
open PySem PySem.Spec PyProof.Rows L2

section
variable {P : Program} {w : World} {κ : Type} [DecidableEq κ] (knd : HeapKind P w κ)
/-- the set's rows: each key by its hash and its address -/
def gRows (L : List (Addr × κ)) : List (Int × Value) := L.map fun p => (knd.hash p.2, Value.ref p.1)
/-- at a stands the set of the keys L (below 64), in a table that finds each of them again -/
structure SetG (h : Heap) (a : Addr) (L : List (Addr × κ)) (es : Array (Int × Value)) (ep : Nat) (t : SetTable) : Prop where
  obj : ∃ o, h.get? a = some o ∧ o.ExactSet ∧ o.data = .set es ep t
  rows : es.toList = gRows knd L
  tab : TabOk t (L.map fun p => knd.hash p.2)
  dif : (L.map (·.2)).Nodup
  keys : ∀ p ∈ L, knd.is h p.2 p.1
  led : w.params.followText "set-order" = true ∨ t.led = true
  room : L.length * 5 < t.mask * 3
  few : L.length < 64
end
section
variable {P : Program} {w : World} {κ : Type} [DecidableEq κ] {knd : HeapKind P w κ} {A : Around} {E : Value → Shared → Prop} {s : Shared} {a x : Addr} {k : κ} {L : List (Addr × κ)} {es : Array (Int × Value)} {ep : Nat} {t : SetTable}
theorem gRows_length {L : List (Addr × κ)} {l : List (Int × Value)} (e : l = gRows knd L) : l.length = L.length := by rw [e, gRows, List.length_map]
theorem SetG.size {h : Heap} (R : SetG knd h a L es ep t) : es.size = L.length := by rw [← Array.length_toList]; exact gRows_length R.rows
theorem SetG.places {h : Heap} (R : SetG knd h a L es ep t) : t.place.toList.length = L.length := by rw [Array.length_toList, R.tab.sz, List.length_map]
theorem SetG.fits {h : Heap} (R : SetG knd h a L es ep t) : t.fits es.size = true := by
  have e1 := R.tab.sz
  have e2 := R.size
  have e3 := R.room
  rw [List.length_map] at e1
  unfold SetTable.fits SetTable.fill
  rw [R.tab.dm, Bool.and_eq_true, beq_iff_eq, decide_eq_true_eq]
  refine ⟨by omega, ?_⟩
  show t.place.size + 0 ≤ t.mask
  omega
theorem SetG.at {h : Heap} (R : SetG knd h a L es ep t) {i : Nat} {p : Addr × κ} (e : L[i]? = some p) : es[i]? = some (knd.hash p.2, Value.ref p.1) := by
  rw [← Array.getElem?_toList, R.rows, gRows, List.getElem?_map, e]
  rfl
theorem SetG.whole {h : Heap} (R : SetG knd h a L es ep t) : ¬ t.gaveWay = true := by
  unfold SetTable.gaveWay
  rw [mask_odd R.tab.mok]
  decide
theorem no_dummy (m : Nat) : ∀ (n : Nat) (p : SetTable.Probe), p.dummy = none → (nth m p n).dummy = none
  | 0, _, h => h
  | n + 1, p, h => no_dummy m n (adv m p) (by unfold adv; split <;> exact h)
/-- asking among such keys shows nothing -/
theorem seen_key (S : SKd knd) (hk : knd.is s.heap k x) {Q : Bool → Shared → Prop} (h : Q false s) : ∀ {ys : List Value}, (∀ y ∈ ys, ∃ k' c, y = Value.ref c ∧ knd.is s.heap k' c) → wpAny (model P w) A (searchCouldBeSeen (.ref x) ys) Q E s := by
  intro ys hys
  unfold searchCouldBeSeen
  refine wpAny_bind ?_
  refine wpAny_forIn_list _ (fun rest r s' => s' = s ∧ r.1 = none ∧ ∀ y ∈ rest, ∃ k' c, y = Value.ref c ∧ knd.is s.heap k' c) _ (fun y rest r s' ⟨es, hr, hall⟩ => ?_) (fun r s' ⟨es, hr, _⟩ => ?_) _ _ ⟨rfl, rfl, hys⟩
  · subst es
    obtain ⟨k', c, rfl, hc⟩ := hall y List.mem_cons_self
    have tl := fun u (hu : u ∈ rest) => hall u (List.mem_cons_of_mem _ hu)
    dsimp only
    by_cases same : (x == c || (carriedByValue (.ref x) && carriedByValue (.ref c))) = true
    · exact wp_if_pos same (wpAny_pure ⟨rfl, rfl, tl⟩)
    · refine wp_if_neg same (wpAny_bind (knd.quiet hk ?_))
      simp only [Bool.not_true, Bool.false_eq_true, if_false]
      refine wpAny_bind (knd.quiet hc ?_)
      simp only [Bool.not_true, Bool.false_eq_true, if_false]
      refine wpAny_bind (S.cls hk ?_)
      simp only [Bool.false_eq_true, if_false]
      refine wpAny_bind (S.cls hc ?_)
      simp only [Bool.false_eq_true, if_false]
      exact wpAny_pure ⟨rfl, rfl, tl⟩
  · subst es
    obtain ⟨r1, r2⟩ := r
    have hr : r1 = none := hr
    subst hr
    exact wpAny_pure h
/-- the way of the key k -/
abbrev gWay (knd : HeapKind P w κ) (t : SetTable) (k : κ) (n : Nat) : Nat := way t.mask (knd.hash k) n
abbrev gRun (knd : HeapKind P w κ) (t : SetTable) (k : κ) (n : Nat) : SetTable.Probe := nth t.mask (runAt t.mask (SetTable.bits (knd.hash k) % (t.mask + 1)) (SetTable.bits (knd.hash k))) n
theorem gRun_add (n q : Nat) : nth t.mask (gRun knd t k n) q = gRun knd t k (n + q) := (nth_add t.mask n _ q).symm
/-- the search from the n-th step of the way on; Z: the way's first empty slot -/
theorem g_from (S : SKd knd) (R : SetG knd s.heap a L es ep t) (hx : knd.is s.heap k x) (hu : knd.room A) {Z : Nat} (hZ : Z < 10 * SetTable.turns t.mask) (emp : gWay knd t k Z ∉ t.place.toList) (occ : ∀ n, n < Z → gWay knd t k n ∈ t.place.toList)
    {Q : SetFound → Shared → Prop} (yes : k ∈ L.map (·.2) → Q (.there none) s) (no : k ∉ L.map (·.2) → Q (.free (gWay knd t k Z) false) s) :
    ∀ (fuel n : Nat) (stand : Option SetTable.Probe), stand.getD (t.probeStart (knd.hash k)) = gRun knd t k n → n ≤ Z → Z - n < fuel →
      (∀ (i : Nat) (p : Addr × κ), L[i]? = some p → p.2 = k → ∃ n', n ≤ n' ∧ n' < Z ∧ t.place.toList[i]? = some (gWay knd t k n')) →
      wpAny (model P w) A (setSearchFrom a (.ref x) (knd.hash k) true fuel stand) Q E s := by
  obtain ⟨o, ho, hex, hdt⟩ := R.obj
  have hashAt : ∀ (i : Nat) (p : Addr × κ), L[i]? = some p → (fun i => (es[i]?.map (·.1)).getD 0) i = knd.hash p.2 := fun i p hp => by
    show (es[i]?.map (·.1)).getD 0 = _
    rw [R.at hp]
    rfl
  intro fuel
  induction fuel with
  | zero => intro n stand _ _ hf _; exact absurd hf (Nat.not_lt_zero _)
  | succ fuel ih =>
    intro n stand est hn hf ahead
    have shift : ∀ q, (nth t.mask (gRun knd t k n) q).j = gWay knd t k (n + q) := fun q => congrArg SetTable.Probe.j (gRun_add n q)
    rw [setSearchFrom_succ]
    refine wpAny_bind (wpAny_setState_of ho hdt R.fits ?_)
    dsimp only
    refine wp_if_neg R.whole ?_
    try refine wpAny_bind (wpAny_pure ?_)
    have spec := go_spec t R.tab.ris R.tab.dm (fun i => (es[i]?.map (·.1)).getD 0) (knd.hash k) (10 * SetTable.turns t.mask) (Z - n) (gRun knd t k n) (no_dummy _ n _ rfl) (by omega) (fun q hq => by rw [shift]; exact occ _ (by omega)) (by rw [shift, show n + (Z - n) = Z by omega]; exact emp)
    rcases spec with ⟨q, i, hq, hi, hh, before, found⟩ | ⟨none_of, found⟩
    · have found : t.probe (fun i => (es[i]?.map (·.1)).getD 0) (knd.hash k) (stand.getD (t.probeStart (knd.hash k))) = some (.candidate (gWay knd t k (n + q)) i (gRun knd t k (n + (q + 1)))) := by
        rw [est, ← shift, ← gRun_add]
        exact found
      rw [found]
      dsimp only
      rw [shift] at hi
      have hil : i < L.length := by
        rw [← R.places]
        exact (List.getElem?_eq_some_iff.mp hi).1
      obtain ⟨p, hp⟩ : ∃ p, L[i]? = some p := ⟨_, List.getElem?_eq_getElem hil⟩
      have pm : p ∈ L := List.mem_of_getElem? hp
      have live : t.slot (gWay knd t k (n + q)) = .live i := slot_live R.tab.ris hi
      have rest : wpAny (model P w) A (searchRest a (.ref x) (knd.hash k) true fuel es t (gWay knd t k (n + q)) i (gRun knd t k (n + (q + 1)))) Q E s := by
        unfold searchRest
        rw [R.at hp]
        dsimp only
        refine wpAny_bind (wpAny_holding (knd.eqBool hu (R.keys p pm) hx (wpAny_bind (wpAny_setState_of ho hdt R.fits ?_))))
        dsimp only
        by_cases eqk : p.2 = k
        · exact wp_if_pos (by simp [eqk]) (wpAny_pure (yes (List.mem_map.mpr ⟨p, pm, eqk⟩)))
        · refine wp_if_neg (by simp [eqk]) ?_
          try refine wpAny_bind (wpAny_pure ?_)
          rw [sameMem]
          dsimp only
          simp only [if_true, live, R.at hp]
          refine wpAny_bind (wpAny_isSame_ref_self (wpAny_bind (wpAny_pure ?_)))
          simp only [if_true]
          refine wp_if_neg (by simp [eqk]) (ih (n + (q + 1)) _ rfl (by omega) (by omega) fun i0 p0 h0 hk0 => ?_)
          obtain ⟨n', b1, b2, b3⟩ := ahead i0 p0 h0 hk0
          have same := (hashAt i0 p0 h0).trans (congrArg knd.hash hk0)
          refine ⟨n', ?_, b2, b3⟩
          rcases Nat.lt_trichotomy n' (n + q) with z | z | z
          · exact absurd same (before (n' - n) i0 (by omega) (by rw [shift, show n + (n' - n) = n' by omega]; exact b3))
          · rw [z] at b3
            have l2 := slot_live R.tab.ris b3
            rw [live] at l2
            injection l2 with l2
            rw [← l2, hp] at h0
            exact absurd ((congrArg Prod.snd (Option.some.inj h0)).trans hk0) eqk
          · omega
      by_cases hled : t.led = true
      · refine wp_if_neg (by simp [hled]) ?_
        try refine wpAny_bind (wpAny_pure ?_)
        exact rest
      · refine wp_if_pos (by simp [hled]) (wpAny_bind (seen_key S hx ?_ fun y hy => ?_))
        · refine wp_if_neg (by decide) ?_
          try refine wpAny_bind (wpAny_pure ?_)
          exact rest
        · obtain ⟨e, he, ee⟩ := List.mem_map.mp hy
          have he2 : e ∈ es.toList := by
            have : e ∈ es ∧ e.1 = knd.hash k := by simpa using he
            simpa using this.1
          rw [R.rows] at he2
          obtain ⟨p2, hp2, e2⟩ := List.mem_map.mp he2
          exact ⟨p2.2, p2.1, by rw [← ee, ← e2], R.keys p2 hp2⟩
    · have found : t.probe (fun i => (es[i]?.map (·.1)).getD 0) (knd.hash k) (stand.getD (t.probeStart (knd.hash k))) = some (.empty (gWay knd t k Z) none) := by
        rw [est, show gWay knd t k Z = (nth t.mask (gRun knd t k n) (Z - n)).j by rw [shift, show n + (Z - n) = Z by omega]]
        exact found
      rw [found]
      dsimp only
      refine wpAny_pure (no fun hm => ?_)
      obtain ⟨p0, h0, hk0⟩ := List.mem_map.mp hm
      obtain ⟨i0, hi0, e0⟩ := List.getElem_of_mem h0
      have h00 : L[i0]? = some p0 := by rw [List.getElem?_eq_getElem hi0, e0]
      obtain ⟨n', b1, b2, b3⟩ := ahead i0 p0 h00 hk0
      exact none_of (n' - n) i0 (by omega) (by rw [shift, show n + (n' - n) = n' by omega]; exact b3) ((hashAt i0 p0 h00).trans (congrArg knd.hash hk0))
theorem g_search (S : SKd knd) (R : SetG knd s.heap a L es ep t) (hx : knd.is s.heap k x) (hu : knd.room A) {Q : SetFound → Shared → Prop} (yes : k ∈ L.map (·.2) → Q (.there none) s)
    (no : ∀ Z, k ∉ L.map (·.2) → gWay knd t k Z ∉ t.place.toList → (∀ n, n < Z → gWay knd t k n ∈ t.place.toList) → Q (.free (gWay knd t k Z) false) s) : wpAny (model P w) A (setSearch a (.ref x) (knd.hash k) true) Q E s := by
  have hroom := R.room
  obtain ⟨Z, z1, z2, z3⟩ := R.tab.first (by rw [List.length_map]; omega) (knd.hash k)
  have few : Z < 100000 := by
    have : 10 * SetTable.turns t.mask ≤ 1420 := by
      unfold SetTable.turns
      rcases R.tab.mok with e | e | e <;> omega
    omega
  unfold setSearch
  refine g_from S R hx hu z1 z2 z3 yes (fun hn => no Z hn z2 z3) 100000 0 none rfl (Nat.zero_le _) (by omega) fun i p hp hk => ?_
  have hil : i < t.place.toList.length := by rw [R.places]; exact (List.getElem?_eq_some_iff.mp hp).1
  have hj := List.getElem?_eq_getElem hil
  obtain ⟨n, hn, e⟩ := R.tab.before z2 (i := i) (h := knd.hash k) (by rw [List.getElem?_map, hp, ← hk]; rfl) hj
  exact ⟨n, Nat.zero_le _, hn, by rw [hj, ← e]⟩
end
end DL
/-! D21: adding to such a set -/
namespace DL
open PySem PySem.Spec PyProof.Rows L2

theorem fm_congr {α β : Type} {f g : α → Option β} : ∀ {l : List α}, (∀ i ∈ l, f i = g i) → l.filterMap f = l.filterMap g
  | [], _ => rfl
  | x :: l, h => by rw [List.filterMap_cons, List.filterMap_cons, h x List.mem_cons_self, fm_congr fun i hi => h i (List.mem_cons_of_mem _ hi)]
theorem fm_some {α β : Type} {f : α → Option β} {g : α → β} : ∀ {l : List α}, (∀ i ∈ l, f i = some (g i)) → l.filterMap f = l.map g
  | [], _ => rfl
  | x :: l, h => by rw [List.filterMap_cons_some (h x List.mem_cons_self), List.map_cons, fm_some fun i hi => h i (List.mem_cons_of_mem _ hi)]
theorem range_get {α : Type} : ∀ L : List α, (List.range L.length).filterMap (fun i => L[i]?) = L
  | [] => rfl
  | x :: L => by
    rw [List.length_cons, List.range_succ_eq_map, List.filterMap_cons_some (f := fun i => (x :: L)[i]?) (b := x) rfl, List.filterMap_map]
    exact congrArg (x :: ·) (range_get L)
section
variable {P : Program} {w : World} {κ : Type} [DecidableEq κ] {knd : HeapKind P w κ} {A : Around} {E : Value → Shared → Prop} {s : Shared} {a x : Addr} {k : κ} {L : List (Addr × κ)} {es : Array (Int × Value)} {ep : Nat} {t : SetTable}
theorem g_order {order : Array Nat} (er : es.toList = gRows knd L) (pm : order.toList.Perm (List.range L.length)) :
    ∃ L2, (order.filterMap (es[·]?)).toList = gRows knd L2 ∧ L2.Perm L ∧ (L2.map fun p => knd.hash p.2) = order.toList.map fun i => (es.map (·.1)).getD i 0 := by
  have row : ∀ i : Nat, es[i]? = (L[i]?).map fun p => (knd.hash p.2, Value.ref p.1) := fun i => by rw [← Array.getElem?_toList, er, gRows, List.getElem?_map]
  refine ⟨order.toList.filterMap (fun i => L[i]?), ?_, ?_, ?_⟩
  · have e1 : (order.filterMap (es[·]?)).toList = order.toList.filterMap fun i => es[i]? := by simp
    rw [e1, gRows, List.map_filterMap]
    exact fm_congr fun i _ => row i
  · have q := pm.filterMap fun i => L[i]?
    rw [range_get] at q
    exact q
  · rw [List.map_filterMap]
    have q : ∀ i ∈ order.toList, (L[i]?).map (fun p => knd.hash p.2) = some ((es.map (·.1)).getD i 0) := fun i hi => by
      have hl : i < L.length := List.mem_range.mp (pm.mem_iff.mp hi)
      have e2 : (es.map (·.1))[i]? = some (knd.hash (L[i]).2) := by rw [Array.getElem?_map, row, List.getElem?_eq_getElem hl]; rfl
      rw [List.getElem?_eq_getElem hl, Option.map_some, Array.getD_eq_getD_getElem?, e2]
      rfl
    exact fm_some q
theorem stay_but (S : SKd knd) {h h' : Heap} {o : Obj} (hb : knd.is h k x) (ho : h.get? a = some o) (hd : o.data = .set es ep t) (sb : Heap.SameBut a h h') : knd.is h' k x :=
  S.st.stays (fun b ob vs n e q => (sb.2 b fun z => by rw [z, ho] at e; cases e; rw [hd] at q; cases q).trans e) hb
/-- a larger table -/
theorem g_relay (S : SKd knd) {o : Obj} (ho : s.heap.get? a = some o) (hex : o.ExactSet) (hd : o.data = .set es ep t) (er : es.toList = gRows knd L) (hpl : t.place.size = es.size) (hdm : t.dummies = #[]) (hle : es.size ≤ t.mask) (dif : (L.map (·.2)).Nodup) (keys : ∀ p ∈ L, knd.is s.heap p.2 p.1)
    (led : w.params.followText "set-order" = true ∨ t.led = true) (few : L.length < 64) {wanted M : Nat} (e1 : SetTable.sizeAbove wanted - 1 = M) (e2 : MaskOk M) (e3 : SetTable.sizeAbove wanted ≤ 128) (e4 : L.length * 5 < M * 3) {Q : Unit → Shared → Prop}
    (hq : ∀ h' L' es' ep' t', Heap.SameBut a s.heap h' → SetG knd h' a L' es' ep' t' → L'.Perm L → Q () { s with heap := h' }) : wpAny (model P w) A (setRelay a wanted) Q E s := by
  have hsz : es.size = L.length := by rw [← Array.length_toList]; exact gRows_length er
  have hfit : t.fits es.size = true := by
    unfold SetTable.fits SetTable.fill
    rw [hdm, Bool.and_eq_true, beq_iff_eq, decide_eq_true_eq]
    exact ⟨hpl, by show t.place.size + 0 ≤ t.mask; omega⟩
  obtain ⟨t2, order, f1, f2, f3, f4, f5, f6, f7⟩ := relaid_ok t (hs := es.map (·.1)) (wanted := wanted) e1 e2 (by rw [Array.size_map, hsz]; omega)
  rw [Array.size_map, hsz] at f2
  obtain ⟨L2, g1, g2, g3⟩ := g_order er f2
  rw [← g3] at f3
  have hsz2 : (order.filterMap (es[·]?)).size = es.size := by rw [← Array.length_toList, gRows_length g1, g2.length_eq, hsz]
  rw [setRelay_eq]
  refine wpAny_bind (wpAny_setState_of ho hd hfit ?_)
  dsimp only
  refine wp_if_neg (by rw [sizeLine_eq]; omega) ?_
  try refine wpAny_bind (wpAny_pure ?_)
  rw [f1]
  dsimp only
  refine wpAny_bind (wp_if_neg (by rw [hsz2]; simp) ?_)
  try refine wpAny_bind (wpAny_pure ?_)
  refine wpAny_pure (wpAny_storeSet_of ho hd ?_ (by rw [hsz2, hsz, sizeLine_eq]; omega))
  have sb : Heap.SameBut a s.heap (s.heap.update a (Obj.putSet (order.filterMap (es[·]?)) t2)) := Heap.SameBut.update ..
  refine hq _ L2 _ (ep + 1) t2 sb ⟨⟨_, store_at ho hd, hex, rfl⟩, g1, f3, (g2.map (·.2)).nodup_iff.mpr dif, fun p hp => stay_but S (keys p (g2.mem_iff.mp hp)) ho hd sb, by rw [f5]; exact led, by rw [g2.length_eq, f4]; exact e4, by rw [g2.length_eq]; exact few⟩ g2
theorem ins_perm {α : Type} (L : List α) (n : Nat) (x : α) : (L.take n ++ x :: L.drop n).Perm (x :: L) := (List.perm_middle (l₁ := L.take n) (l₂ := L.drop n) (a := x)).trans (by rw [List.take_append_drop])
/-- add -/
theorem g_add (S : SKd knd) (R : SetG knd s.heap a L es ep t) (hx : knd.is s.heap k x) (hu : knd.room A) (few : k ∉ L.map (·.2) → L.length + 1 < 64) {Q : Bool → Shared → Prop}
    (hq : ∀ b h' L' es' ep' t', Heap.SameBut a s.heap h' → SetG knd h' a L' es' ep' t' → (k ∈ L.map (·.2) → L' = L) → (k ∉ L.map (·.2) → L'.Perm ((x, k) :: L)) → Q b { s with heap := h' }) : wpAny (model P w) A (setAddHashed a (.ref x) (knd.hash k)) Q E s := by
  obtain ⟨o, ho, hex, hd⟩ := R.obj
  have hsz := R.size
  have hroom := R.room
  unfold setAddHashed
  refine wpAny_holding ?_
  rw [show (100000 : Nat) = 99999 + 1 from rfl, setAddHashedIn_succ]
  refine wpAny_bind (wpAny_setState_of ho hd R.fits ?_)
  dsimp only
  refine wp_if_neg (by simp [byScan, Value.scannable]) ?_
  try refine wpAny_bind (wpAny_pure ?_)
  refine wpAny_bind (g_search S R hx hu (fun hm => ?_) fun Z hm hZ hb => ?_)
  · dsimp only
    exact wpAny_pure (hq false s.heap L es ep t (Heap.SameBut.refl a s.heap) R (fun _ => rfl) fun z => absurd hm z)
  · have few := few hm
    dsimp only
    refine wpAny_bind (wpAny_setState_of ho hd R.fits ?_)
    dsimp only
    obtain ⟨q1, q2, q3, q4, q5, q6, q7, q8, q9⟩ := R.tab.put hZ hb
    generalize hpt : t.put (gWay knd t k Z) = pt at q1 q3 q4 q5 q6 q7 q8 q9 ⊢
    obtain ⟨t1, n⟩ := pt
    dsimp only at q1 q3 q4 q5 q6 q7 q8 q9 ⊢
    subst q1
    -- what the value's own hash tells of the table's order
    have go : ∀ t3 : SetTable, t3.place = t1.place → t3.dummies = t1.dummies → t3.mask = t1.mask → t3.led = t1.led → t3.tooFull = t1.tooFull →
        wpAny (model P w) A (do
          storeSet a (SetTable.insertAt es (SetTable.below t.place (gWay knd t k Z)) (knd.hash k, Value.ref x)) t3
          if !false && t3.tooFull then setRelay a (SetTable.grown (es.size + 1))
          return true) Q E s := by
      intro t3 c1 c2 c3 c4 c5
      have hin : (SetTable.insertAt es (SetTable.below t.place (gWay knd t k Z)) (knd.hash k, Value.ref x)).toList = gRows knd (L.take (SetTable.below t.place (gWay knd t k Z)) ++ (x, k) :: L.drop (SetTable.below t.place (gWay knd t k Z))) := by
        rw [SetTable.toList_insertAt, R.rows]
        unfold gRows
        rw [List.map_append, List.map_cons, List.map_take, List.map_drop]
      generalize SetTable.below t.place (gWay knd t k Z) = n at q2 q3 hin ⊢
      have pm := ins_perm L n (x, k)
      have hlen : (L.take n ++ (x, k) :: L.drop n).length = L.length + 1 := pm.length_eq
      have hhs : (L.take n ++ (x, k) :: L.drop n).map (fun p => knd.hash p.2) = (L.map fun p => knd.hash p.2).take n ++ knd.hash k :: (L.map fun p => knd.hash p.2).drop n := by rw [List.map_append, List.map_cons, List.map_take, List.map_drop]
      rw [← hhs] at q3
      have q3' : TabOk t3 ((L.take n ++ (x, k) :: L.drop n).map fun p => knd.hash p.2) := ⟨by rw [c1]; exact q3.ris, by rw [c2]; exact q3.dm, by rw [c1]; exact q3.sz, by rw [c3]; exact q3.mok, by rw [c1, c3]; exact q3.bd, by rw [c1, c3]; exact q3.reach⟩
      have dif : ((L.take n ++ (x, k) :: L.drop n).map (·.2)).Nodup := (pm.map (·.2)).nodup_iff.mpr (by rw [List.map_cons]; exact List.nodup_cons.mpr ⟨hm, R.dif⟩)
      have hes : (SetTable.insertAt es n (knd.hash k, Value.ref x)).size = L.length + 1 := by rw [← Array.length_toList, gRows_length hin, hlen]
      generalize SetTable.insertAt es n (knd.hash k, Value.ref x) = es1 at hin hes ⊢
      generalize L.take n ++ (x, k) :: L.drop n = L1 at pm hlen q3' dif hin
      refine wpAny_bind (wpAny_storeSet_of ho hd ?_ (by rw [hes, sizeLine_eq]; omega))
      have sb : Heap.SameBut a s.heap (s.heap.update a (Obj.putSet es1 t3)) := Heap.SameBut.update ..
      have ho1 := store_at (es' := es1) (t' := t3) ho hd
      generalize s.heap.update a (Obj.putSet es1 t3) = h1 at sb ho1 ⊢
      have keys1 : ∀ p ∈ L1, knd.is h1 p.2 p.1 := fun p hp => by
        rcases List.mem_cons.mp (pm.mem_iff.mp hp) with e | hp
        · rw [e]; exact stay_but S hx ho hd sb
        · exact stay_but S (R.keys p hp) ho hd sb
      have led1 : w.params.followText "set-order" = true ∨ t3.led = true := by rw [c4, q5]; exact R.led
      by_cases full : t3.tooFull = true
      · have crowd : (L.length + 1) * 5 ≥ t3.mask * 3 := by
          have z := full
          rw [c5] at z
          unfold SetTable.tooFull at z
          rw [decide_eq_true_eq, q9, List.length_map] at z
          rw [c3]
          exact z
        have hpl : t3.place.size = es1.size := by
          have z := q3'.sz
          rw [List.length_map, hlen] at z
          rw [z, hes]
        have two : (t.mask = 7 ∧ L.length = 4) ∨ (t.mask = 31 ∧ L.length = 18) := by
          rw [c3, q4] at crowd
          rcases R.tab.mok with e | e | e
          · left; rw [e] at crowd hroom; exact ⟨e, by omega⟩
          · right; rw [e] at crowd hroom; exact ⟨e, by omega⟩
          · exfalso; rw [e] at crowd; omega
        have larger : ∀ M, SetTable.sizeAbove (SetTable.grown (L.length + 1)) - 1 = M → MaskOk M → SetTable.sizeAbove (SetTable.grown (L.length + 1)) ≤ 128 → (L.length + 1) * 5 < M * 3 →
            wpAny (model P w) A (setRelay a (SetTable.grown (L.length + 1))) (fun _ s' => wpAny (model P w) A (pure true) Q E s') E { s with heap := h1 } := fun M z1 z2 z3 z4 =>
          g_relay (s := { s with heap := h1 }) S ho1 hex rfl hin hpl q3'.dm (by rw [hes, c3, q4]; rcases two with ⟨u1, u2⟩ | ⟨u1, u2⟩ <;> omega) dif keys1 led1 (by rw [hlen]; exact few) z1 z2 z3 (by rw [hlen]; exact z4)
            fun h2 L2 es2 ep2 t2 sb2 R2 pm2 => wpAny_pure (hq true h2 L2 es2 ep2 t2 (sb.trans sb2) R2 (fun z => absurd z hm) fun _ => pm2.trans pm)
        rw [hsz]
        have run : wpAny (model P w) A (setRelay a (SetTable.grown (L.length + 1))) (fun _ s' => wpAny (model P w) A (pure true) Q E s') E { s with heap := h1 } := by
          rcases two with ⟨_, u⟩ | ⟨_, u⟩
          · exact larger 31 (by rw [u, size_20]) (.inr (.inl rfl)) (by rw [u, size_20]; decide) (by omega)
          · exact larger 127 (by rw [u, size_76]) (.inr (.inr rfl)) (by rw [u, size_76]; decide) (by omega)
        first
          | exact wpAny_bind (wp_if_pos (by simp [full]) run)
          | exact wp_if_pos (by simp [full]) (wpAny_bind run)
      · have fin : wpAny (model P w) A (pure true) Q E { s with heap := h1 } := by
          refine wpAny_pure (hq true h1 L1 es1 (ep + 1) t3 sb ⟨⟨_, ho1, hex, rfl⟩, hin, q3', dif, keys1, led1, ?_, by rw [hlen]; exact few⟩ (fun z => absurd z hm) fun _ => pm)
          have z := full
          rw [c5] at z
          unfold SetTable.tooFull at z
          rw [decide_eq_true_eq, q9, List.length_map] at z
          rw [hlen, c3]
          omega
        first
          | exact wp_if_neg (by simp [full]) fin
          | exact wpAny_bind (wp_if_neg (by simp [full]) (wpAny_pure fin))
    have after : ∀ b : Bool, wpAny (model P w) A (do
        let t := if b then t1 else { t1 with plain := false }
        storeSet a (SetTable.insertAt es (SetTable.below t.place (gWay knd t k Z)) (knd.hash k, Value.ref x)) t
        if !false && t.tooFull then setRelay a (SetTable.grown (es.size + 1))
        return true) Q E s → True := fun _ _ => trivial
    by_cases hpl : t1.plain = true
    · have run : ∀ b : Bool, _ := fun b => go (if b = true then t1 else { t1 with plain := false }) (by cases b <;> rfl) (by cases b <;> rfl) (by cases b <;> rfl) (by cases b <;> rfl) (by cases b <;> rfl)
      first
        | exact wpAny_bind (wp_if_pos hpl (S.byv hx run))
        | exact wp_if_pos hpl (wpAny_bind (S.byv hx run))
    · have run := go t1 rfl rfl rfl rfl rfl
      first
        | exact wpAny_bind (wp_if_neg hpl (wpAny_pure run))
        | exact wp_if_neg hpl (wpAny_bind (wpAny_pure run))
        | exact wp_if_neg hpl run
end
end DL
/-! D22: set(list), sorted(set) -/
namespace DL
open PySem PySem.Spec PyProof.Rows L2

section
variable {P : Program} {w : World} {κ : Type} [DecidableEq κ] {knd : HeapKind P w κ} {A : Around} {E : Value → Shared → Prop} {s : Shared}
/-- what the set holds behind i items -/
structure Hold (ks : List (Addr × κ)) (i : Nat) (L : List (Addr × κ)) : Prop where
  sub : ∀ p ∈ L, p ∈ ks
  all : ∀ p ∈ ks.take i, p.2 ∈ L.map (·.2)
theorem Hold.same {ks L : List (Addr × κ)} {i : Nat} {x : Addr × κ} (g : Hold ks i L) (h : ks[i]? = some x) (hm : x.2 ∈ L.map (·.2)) : Hold ks (i + 1) L := ⟨g.sub, fun p hp => by
  rw [take_next h] at hp
  rcases List.mem_append.mp hp with z | z
  · exact g.all p z
  · rw [List.mem_singleton.mp z]; exact hm⟩
theorem Hold.more {ks L L' : List (Addr × κ)} {i : Nat} {x : Addr × κ} (g : Hold ks i L) (h : ks[i]? = some x) (pm : L'.Perm (x :: L)) : Hold ks (i + 1) L' := ⟨fun p hp => by
  rcases List.mem_cons.mp (pm.mem_iff.mp hp) with e | z
  · rw [e]; exact List.mem_of_getElem? h
  · exact g.sub p z, fun p hp => by
  rw [(pm.map (·.2)).mem_iff, List.map_cons]
  rw [take_next h] at hp
  rcases List.mem_append.mp hp with z | z
  · exact List.mem_cons_of_mem _ (g.all p z)
  · rw [List.mem_singleton.mp z]; exact List.mem_cons_self⟩
theorem key_keep (S : SKd knd) {h h' : Heap} {k : κ} {b : Addr} (x : knd.is h k b) (hk : ∀ c o, h.get? c = some o → h'.get? c = some o) : knd.is h' k b := S.st.stays (fun c o _ _ e _ => hk c o e) x
theorem SetG.keep {h h' : Heap} {a : Addr} {L : List (Addr × κ)} {es : Array (Int × Value)} {ep : Nat} {t : SetTable} (R : SetG knd h a L es ep t) (ha : ∀ o, h.get? a = some o → h'.get? a = some o) (ht : ∀ p ∈ L, knd.is h' p.2 p.1) : SetG knd h' a L es ep t :=
  let ⟨o, ho, r⟩ := R.obj
  ⟨⟨o, ha o ho, r⟩, R.rows, R.tab, R.dif, ht, R.led, R.room, R.few⟩
/-- an empty set's table -/
abbrev tab0 (w : World) : SetTable := .fresh 0 0 (!w.params.followText "set-order")
abbrev set0 (w : World) : Obj := { cls := .type "set", dict := none, data := .set #[] 0 (tab0 w) }
theorem setG_new {h : Heap} {a : Addr} (ho : h.get? a = some (set0 w)) : SetG knd h a [] #[] 0 (tab0 w) where
  obj := ⟨_, ho, ⟨rfl, rfl, rfl⟩, rfl⟩
  rows := rfl
  tab := ⟨List.Pairwise.nil, rfl, rfl, .inl rfl, fun x hx => (by cases hx), fun i h j hi => (by simp at hi)⟩
  dif := List.nodup_nil
  keys := fun p hp => (by cases hp)
  led := by
    by_cases c : w.params.followText "set-order" = true
    · exact .inl c
    · exact .inr (show (!w.params.followText "set-order") = true by simpa using c)
  room := (by decide : (0 * 5 < 7 * 3))
  few := (by decide : 0 < 64)
/-- the loop of set.update -/
theorem g_loop (S : SKd knd) {I : Addr} {fp wr : List Addr} {G : Array GenState → Array GenState → Prop} {n : Nat} {Pv : Nat → Value → Prop} {St : Nat → Shared → Prop} {R : Result → Shared → Prop}
    (Wk : WalksS P w A.in1 I fp wr G n Pv St) (D : Addr) (hDf : D ∉ fp) (ks : List (Addr × κ)) (hn : n = ks.length) (few : ∀ l : List κ, l.Nodup → (∀ x ∈ l, x ∈ ks.map (·.2)) → l.length < 64) (hval : ∀ i v, Pv i v → ∃ p, ks[i]? = some p ∧ v = .ref p.1)
    (h0 : Heap) (hk : ∀ p ∈ ks, knd.is h0 p.2 p.1) (hD0 : h0.get? D = none) (hw0 : ∀ b ∈ wr, h0.get? b = none) (hu : knd.room A.in1) :
    ∀ (m i : Nat) (s : Shared), n - i = m → i ≤ n → St i s → (∀ b o, h0.get? b = some o → s.heap.get? b = some o) → (∃ L es ep t, SetG knd s.heap D L es ep t ∧ Hold ks i L) →
      (∀ s' L es ep t, Moved (D :: wr) G s s' → SetG knd s'.heap D L es ep t → Hold ks n L → (∀ b o, h0.get? b = some o → s'.heap.get? b = some o) → R (.ok (.ret .none)) s') →
      codeAny (model P w) A (.builtin "set.update.loop" ⟨[.ref D, .ref I], []⟩) R s := by
  have hDw : D ∉ wr := fun h => hDf (Wk.sub _ h)
  have wider : ∀ b ∈ wr, b ∈ D :: wr := fun b hb => List.mem_cons_of_mem _ hb
  have kept : ∀ {s s' : Shared}, Moved wr G s s' → (∀ b o, h0.get? b = some o → s.heap.get? b = some o) → ∀ b o, h0.get? b = some o → s'.heap.get? b = some o := fun hm hkp b o e => hm.heap b o (fun hb => by rw [hw0 b hb] at e; cases e) (hkp b o e)
  intro m
  induction m with
  | zero =>
    intro i s hm hi hst hkp ⟨L, es, ep, t, hS, g⟩ hR
    obtain rfl : i = n := by omega
    refine codeAny_builtin F.entry_set_update_loop ?_
    rw [Around.under_plainId F.plain_set_update_loop _]
    show wpAny _ A.in1 (pyNext (Value.ref I) >>= _) _ _ s
    refine wpAny_bind (Wk.done s _ _ hst fun s' mv => ?_)
    have hkp' := kept mv hkp
    show wpAny _ A.in1 (ret Value.none) _ _ s'
    exact wpAny_pure (hR s' L es ep t (mv.mono wider) (hS.keep (fun o e => mv.heap D o hDw e) fun p hp => key_keep S (hk p (g.sub p hp)) hkp') g hkp')
  | succ m ih =>
    intro i s hm hi hst hkp ⟨L, es, ep, t, hS, g⟩ hR
    have hlt : i < n := by omega
    refine codeAny_builtin F.entry_set_update_loop ?_
    rw [Around.under_plainId F.plain_set_update_loop _]
    show wpAny _ A.in1 (pyNext (Value.ref I) >>= _) _ _ s
    refine wpAny_bind (Wk.item i s _ _ hlt hst fun v s' hP hst' mv => ?_)
    obtain ⟨p, hp, rfl⟩ := hval i v hP
    have hkp' := kept mv hkp
    have hS' : SetG knd s'.heap D L es ep t := hS.keep (fun o e => mv.heap D o hDw e) fun q hq => key_keep S (hk q (g.sub q hq)) hkp'
    have hx : knd.is s'.heap p.2 p.1 := key_keep S (hk p (List.mem_of_getElem? hp)) hkp'
    show wpAny _ A.in1 (holding [Value.ref p.1] (setAdd D (.ref p.1)) >>= _) _ _ s'
    refine wpAny_bind (wpAny_holding ?_)
    unfold setAdd
    refine wpAny_holding (wpAny_bind (knd.pyHash hu hx ?_))
    refine g_add (s := { s' with toks := s'.toks + knd.draws p.2 }) S hS' hx hu (fun nin => ?_) fun b h' L' es' ep' t' sb hS2 c1 c2 => ?_
    · have := few (p.2 :: L.map (·.2)) (List.nodup_cons.mpr ⟨nin, hS'.dif⟩) fun x hx => by
        rcases List.mem_cons.mp hx with e | hx
        · rw [e]; exact List.mem_map.mpr ⟨p, List.mem_of_getElem? hp, rfl⟩
        · obtain ⟨q, hq, e⟩ := List.mem_map.mp hx
          exact List.mem_map.mpr ⟨q, g.sub q hq, e⟩
      simpa using this
    · have g' : Hold ks (i + 1) L' := by
        by_cases c : p.2 ∈ L.map (·.2)
        · rw [c1 c]; exact g.same hp c
        · exact g.more hp (c2 c)
      have hkp2 : ∀ b o, h0.get? b = some o → h'.get? b = some o := fun b o e => (sb.2 b (fun z => by rw [z, hD0] at e; cases e)).trans (hkp' b o e)
      refine wpAny_pure ⟨plainId_quiet F.plain_set_update_loop _, ih (i + 1) _ (by omega) hlt (Wk.frame _ s' _ _ hst' (Nat.le_add_right _ _) fun b hb o e => ?_) hkp2 ⟨L', es', ep', t', hS2, g'⟩ fun s'' L2 es2 ep2 t2 mv2 hS'' g'' hkp'' => ?_⟩
      · rw [sb.2 b (fun h : b = D => hDf (by rw [← h]; exact hb))]
        exact e
      · refine hR s'' L2 es2 ep2 t2 (Moved.trans Wk.gtrans ((mv.mono wider).then_heap (Nat.le_add_right _ _) fun b o hb e => ?_) mv2) hS'' g'' hkp''
        rw [sb.2 b (fun h : b = D => hb (by rw [h]; exact List.mem_cons_self))]
        exact e
/-- set(l) -/
theorem g_set (S : SKd knd) {l : Addr} {items : Array Value} (ks : List (Addr × κ)) {Q : Value → Shared → Prop} (hh : A.handled = none) (hl : s.heap.IsList l items) (hit : items.toList = ks.map fun p => Value.ref p.1) (hk : ∀ p ∈ ks, knd.is s.heap p.2 p.1)
    (few : ∀ l : List κ, l.Nodup → (∀ x ∈ l, x ∈ ks.map (·.2)) → l.length < 64) (hu : ∀ A' : Around, A'.units ≤ A.units + 4 → knd.room A')
    (h : ∀ (h' : Heap) (tk : Nat) L es ep t, SetG knd h' s.heap.objs.size L es ep t → Hold ks ks.length L → (∀ b o, s.heap.get? b = some o → h'.get? b = some o) → Q (.ref s.heap.objs.size) { s with heap := h', toks := tk }) :
    wpAny (model P w) A (call (.type "set") [.ref l]) Q E s := by
  have hlen : items.size = ks.length := by rw [← Array.length_toList, hit, List.length_map]
  obtain ⟨c, tl, hmro⟩ := F.called_set.mro
  have hmade := F.called_set.made
  have hsub := F.called_set.sub
  refine wpAny_call (codeAny_of_tree ?_)
  show wpAny _ _ (callAny (.type "set") _) _ _ _
  refine wpAny_pure ⟨Code.quiet_builtin _ (by decide +kernel), codeAny_builtin F.entry_type_call ?_⟩
  rw [Around.under_plain (weight_type_call_type "set" [.ref l] []) rfl]
  have k1 := F.called_set.notType
  have k2 := F.called_set.canCreate
  have k3 := F.typeCall_set_1 (.ref l)
  repeat (any_goals (first | assumption | wp_step))
  refine codeAny_mono (code_set_led1 (.ref l) (E := E) (Q₁ := fun obj s₁ => obj = .ref s.heap.objs.size ∧ s₁ = { s with heap := s.heap.push (set0 w) }) ⟨rfl, rfl⟩) fun r s₁ hr => ?_
  cases r with
  | error e => exact hr
  | ok fl =>
    cases fl with
    | ret obj =>
      obtain ⟨rfl, rfl⟩ := hr
      have hS : (s.heap.push (set0 w)).get? s.heap.objs.size = some (set0 w) := Heap.get?_push_size _ rfl
      have hT : Shared.TypeIs { s with heap := s.heap.push (set0 w) } (.ref s.heap.objs.size) "set" := ⟨_, hS, rfl⟩
      have k4 := F.called_set.init.lookup
      have k5 := F.called_set.init.bind (.ref s.heap.objs.size)
      repeat (any_goals (first | assumption | wp_step))
      refine codeAny_mono (codeAny_call_builtin (R := wants (fun r s₂ => r = .none ∧ ∃ h' tk L es ep t, s₂ = { s with heap := h', toks := tk } ∧ SetG knd h' s.heap.objs.size L es ep t ∧ Hold ks ks.length L ∧ (∀ b o, s.heap.get? b = some o → h'.get? b = some o)) E)
        F.called_set.init.plain F.entry_set_init (check_set_init_1 hT ?_)) fun r₂ s₂ hr₂ => ?_
      · obtain ⟨⟨ocls, odict, odata, oslots⟩, hol, hcl, nl, hdl⟩ := hl
        simp only at hcl hdl
        subst hcl hdl
        have hol' : (s.heap.push (set0 w)).get? l = some { cls := .type "list", dict := odict, data := .seq items nl, slots := oslots } := Heap.get?_push_of_some _ hol
        have k6 := F.sub_list_set
        have k7 := F.sub_list_frozenset
        have k8 : (Value.type "list" == Value.type "dict") = false := by decide
        have hl1 : (s.heap.push (set0 w)).IsList l items := ⟨_, hol', rfl, nl, rfl⟩
        unfold Builtin.«set.__init__» noKeywords Builtin.Frozenset.updateFrom
        generalize hPI : pyIter = PI
        wp_walk
        subst hPI
        refine wpAny_pyIter_list hl1 (wpAny_bind (wpAny_runValue ?_))
        have hlS : l < s.heap.objs.size := Heap.lt_size hol
        have hh3 : A.in1.in1.in1.handled = none := by simp [hh]
        have hz : (s.heap.push (set0 w)).objs.size = s.heap.objs.size + 1 := Heap.size_push ..
        have hneI : l ≠ (s.heap.push (set0 w)).objs.size := by rw [hz]; exact Nat.ne_of_lt (Nat.lt_succ_of_lt hlS)
        have hSf : s.heap.objs.size ∉ [(s.heap.push (set0 w)).objs.size, l] := by
          rw [hz]
          simp only [List.mem_cons, List.mem_singleton, List.not_mem_nil, or_false, not_or]
          exact ⟨Nat.ne_of_lt (Nat.lt_succ_self _), Nat.ne_of_gt hlS⟩
        have hval : ∀ (i : Nat) (v : Value), items[i]? = some v → ∃ p, ks[i]? = some p ∧ v = .ref p.1 := fun i v hv => by
          rw [← Array.getElem?_toList, hit, List.getElem?_map] at hv
          obtain ⟨p, hp, e⟩ := Option.map_eq_some_iff.mp hv
          exact ⟨p, hp, e.symm⟩
        have gone : ∀ b, s.heap.objs.size ≤ b → s.heap.get? b = none := fun b hb => by
          cases q : s.heap.get? b with
          | none => rfl
          | some o => exact absurd (Nat.lt_of_lt_of_le (Heap.lt_size q) hb) (Nat.lt_irrefl _)
        refine g_loop S ((Walks.list hh3 _ l hneI items).toS) s.heap.objs.size hSf ks hlen few hval s.heap hk (gone _ (Nat.le_refl _)) (fun b hb => gone b (by rw [List.mem_singleton.mp hb, hz]; exact Nat.le_succ _)) (hu _ ?_) (items.size - 0) 0 _ (by omega) (Nat.zero_le _)
          ⟨⟨_, Heap.get?_push_size _ rfl, rfl, rfl⟩, (hl1.push _)⟩ (fun b o e => Heap.get?_push_of_some _ (Heap.get?_push_of_some _ e)) ⟨[], #[], 0, _, setG_new (Heap.get?_push_of_some _ hS), fun p hp => (by cases hp), fun p hp => (by simp at hp)⟩ ?_
        · first
            | exact Nat.le_refl _
            | (simp only [Around.in1]; omega)
            | (show A.units + _ ≤ A.units + 4; omega)
        · rintro ⟨h', g2, d', tk', os'⟩ L es ep t mv hS' g' hkp
          obtain rfl : g2 = s.gens := mv.gens
          obtain rfl : d' = s.drawn := mv.drawn
          obtain rfl : os' = s.os := mv.os
          show wpAny _ _ _ _ _ _
          refine wpAny_pure ?_
          show wpAny _ _ (ret Value.none) _ _ _
          rw [hlen] at g'
          exact wpAny_pure ⟨rfl, h', tk', L, es, ep, t, rfl, hS', g', hkp⟩
      · cases r₂ with
        | error e => exact hr₂
        | ok fl₂ =>
          cases fl₂ with
          | ret r =>
            obtain ⟨rfl, h', tk, L, es, ep, t, rfl, hS', g', hk'⟩ := hr₂
            repeat (any_goals (first | assumption | wp_step))
            exact h _ _ _ _ _ _ hS' g' hk'
          | _ => exact hr₂.elim
    | _ => exact hr.elim
end
end DL
/-! D23: sorted(set(list)) of keys of trees -/
namespace DL
open PySem PySem.Spec PyProof.Rows L2 PySem.W

theorem perm_lift {α β : Type} {f : α → β} {l m : List β} (h : l.Perm m) : ∀ {L : List α}, m = L.map f → ∃ bs : List α, bs.Perm L ∧ l = bs.map f := by
  induction h with
  | nil => intro L e; exact ⟨L, .refl _, e⟩
  | cons x h ih =>
    intro L e
    cases L with
    | nil => cases e
    | cons y L =>
      rw [List.map_cons] at e
      injection e with e1 e2
      obtain ⟨bs, p, e3⟩ := ih e2
      exact ⟨y :: bs, p.cons y, by rw [List.map_cons, e1, e3]⟩
  | swap x y l =>
    intro L e
    cases L with
    | nil => cases e
    | cons a L =>
      cases L with
      | nil => rw [List.map_cons] at e; injection e with e1 e2; cases e2
      | cons b L =>
        rw [List.map_cons, List.map_cons] at e
        injection e with e1 e2
        injection e2 with e2 e3
        exact ⟨b :: a :: L, .swap a b L, by rw [List.map_cons, List.map_cons, e1, e2, e3]⟩
  | trans h1 h2 ih1 ih2 =>
    intro L e
    obtain ⟨b2, p2, e2⟩ := ih2 e
    obtain ⟨b1, p1, e1⟩ := ih1 e2
    exact ⟨b1, p1.trans p2, e1⟩
theorem sorted_eq {α : Type} {le : α → α → Bool} : ∀ (xs ys : List α), xs.Perm ys → xs.Pairwise (fun a b => le a b = true) → ys.Pairwise (fun a b => le a b = true) → (∀ a ∈ xs, ∀ b ∈ xs, le a b = true → le b a = true → a = b) → xs = ys
  | [], ys, p, _, _, _ => (List.nil_perm.mp p).symm
  | x :: xs, [], p, _, _, _ => absurd p.symm.nil_eq (fun z => nomatch z)
  | x :: xs, y :: ys, p, h1, h2, an => by
    have e : x = y := by
      have hx : x ∈ y :: ys := p.mem_iff.mp List.mem_cons_self
      have hy : y ∈ x :: xs := p.mem_iff.mpr List.mem_cons_self
      rcases List.mem_cons.mp hx with e | hx
      · exact e
      · rcases List.mem_cons.mp hy with e | hy
        · exact e.symm
        · exact an x List.mem_cons_self y (List.mem_cons_of_mem _ hy) ((List.pairwise_cons.mp h1).1 y hy) ((List.pairwise_cons.mp h2).1 x hx)
    subst e
    rw [sorted_eq xs ys (List.perm_cons x |>.mp p) (List.pairwise_cons.mp h1).2 (List.pairwise_cons.mp h2).2 fun a ha b hb => an a (List.mem_cons_of_mem _ ha) b (List.mem_cons_of_mem _ hb)]

/-! ### a tree as data -/
mutual
def datP : PV → PyData
  | .non => .none
  | .bl b => .bool b
  | .int i => .int i
  | .str x => .str x
  | .tup ps => .tuple (datPs ps)
  | .ref _ => .none
  | .ty _ => .none
  | .glb _ => .none
def datPs : List PV → List PyData
  | [] => []
  | p :: ps => datP p :: datPs ps
end
mutual
theorem key_dp {K : PySem.W.Frag} {ρ : List Addr} {H : Hp} : ∀ {k : NestedKey} {v : V}, RV K ρ H (pvN k) v → Dp K H v (datP (pvN k))
  | .none, _, r => by cases r; exact .non
  | .num i, _, r => by cases r; exact .int i
  | .text x, _, r => by cases r; exact .str x
  | .tup ks, _, r => by
    rw [pvN] at r ⊢
    cases r with
    | tup h1 h2 => exact .tup h1 (keys_dp h2)
theorem keys_dp {K : PySem.W.Frag} {ρ : List Addr} {H : Hp} : ∀ {ks : List NestedKey} {vs : List V}, RVs K ρ H (pvNs ks) vs → DpAll K H vs (datPs (pvNs ks))
  | [], _, r => by cases r; exact .nil
  | k :: ks, _, r => by
    rw [pvNs] at r ⊢
    cases r with
    | cons h1 h2 => exact .cons (key_dp h1) (keys_dp h2)
end

/-! ### the set as a tracked thing -/
section
variable {P : Program} {w : World} {κ : Type} [DecidableEq κ] {knd : HeapKind P w κ}
/-- without the keys themselves -/
def SetG0 (knd : HeapKind P w κ) (h : Heap) (a : Addr) (L : List (Addr × κ)) : Prop := ∃ (es : Array (Int × Value)) (ep : Nat) (t : SetTable), (∃ o, h.get? a = some o ∧ o.ExactSet ∧ o.data = .set es ep t) ∧ es.toList = gRows knd L ∧ TabOk t (L.map fun p => knd.hash p.2) ∧ (L.map (·.2)).Nodup ∧
  (w.params.followText "set-order" = true ∨ t.led = true) ∧ L.length * 5 < t.mask * 3 ∧ L.length < 64
def SetHO (knd : HeapKind P w κ) (a : Addr) (L : List (Addr × κ)) : HO := .ext fun h => SetG0 knd h a L
theorem SetG.zero {h : Heap} {a : Addr} {L : List (Addr × κ)} {es : Array (Int × Value)} {ep : Nat} {t : SetTable} (R : SetG knd h a L es ep t) : SetG0 knd h a L := ⟨es, ep, t, R.obj, R.rows, R.tab, R.dif, R.led, R.room, R.few⟩
theorem SetG0.full {h : Heap} {a : Addr} {L : List (Addr × κ)} (R : SetG0 knd h a L) (ht : ∀ p ∈ L, knd.is h p.2 p.1) : ∃ es ep t, SetG knd h a L es ep t :=
  let ⟨es, ep, t, h1, h2, h3, h4, h5, h6, h7⟩ := R
  ⟨es, ep, t, h1, h2, h3, h4, ht, h5, h6, h7⟩
theorem setHO_new {H : Hp} {h : Heap} {a : Addr} {L : List (Addr × κ)} (R : SetG0 knd h a L) : ObjOk P w H h a (SetHO knd a L) := by
  have ⟨es, ep, t, ⟨o, ho, r⟩, q⟩ := R
  refine ⟨R, ⟨o, ho⟩, fun h1 h2 ⟨es', ep', t', ⟨o', ho', r'⟩, q'⟩ k => ⟨es', ep', t', ⟨o', k o' ho', r'⟩, q'⟩⟩
end

/-! ### what is handed back -/
def insP (x : PV) : List PV → List PV
  | [] => [x]
  | y :: ys => if dataLt (datP x) (datP y) = true then x :: y :: ys else if PV.beq x y = true then y :: ys else y :: insP x ys
/-- the different ones, in order -/
def sortP (ps : List PV) : List PV := ps.foldl (fun acc p => insP p acc) []
def memP (x : PV) : List PV → Bool
  | [] => false
  | y :: ys => PV.beq x y || memP x ys
def strictP : List PV → Bool
  | [] => true
  | x :: xs => (xs.all fun y => dataLt (datP x) (datP y)) && strictP xs
/-- a key of trees, a tuple with an item at least -/
def keyT (p : PV) : Bool := match p with
  | .tup (q :: r) => match nkOf (.tup (q :: r)) with
    | some n => decide (n.depth ≤ 8)
    | none => false
  | _ => false
def sortOk (ps ys : List PV) : Bool := ps.all keyT && decide (ys.length < 64) && strictP ys && (ps.all fun p => memP p ys) && (ys.all fun y => memP y ps) && (ys.all fun a => ys.all fun b => alike (datP a) (datP b)) && (ys.all fun a => decide ((datP a).depth ≤ 16))
theorem memP_iff {x : PV} : ∀ {l : List PV}, memP x l = true ↔ x ∈ l
  | [] => by simp [memP]
  | y :: l => by
    rw [memP, Bool.or_eq_true, memP_iff, List.mem_cons]
    exact ⟨fun h => h.imp (PV.eq_of x y) id, fun h => h.imp (fun e => by rw [e]; exact PV.beq_self y) id⟩
theorem strict_pw : ∀ {l : List PV}, strictP l = true → l.Pairwise fun a b => dataLt (datP a) (datP b) = true
  | [], _ => .nil
  | x :: l, h => by
    rw [strictP, Bool.and_eq_true, List.all_eq_true] at h
    exact .cons h.1 (strict_pw h.2)
abbrev leP (a b : PV) : Bool := !dataLt (datP b) (datP a)
theorem lt_irr (d : PyData) : dataLt d d = false := (listOrd itemOrd).irrefl _
theorem lt_asy {d e : PyData} (h : dataLt d e = true) : dataLt e d = false := KeyOrd.klt_asymm (O := listOrd itemOrd) h
theorem strict_le {l : List PV} (h : l.Pairwise fun a b => dataLt (datP a) (datP b) = true) : l.Pairwise fun a b => leP a b = true := h.imp fun {a b} z => by show (!dataLt (datP b) (datP a)) = true; rw [lt_asy z]; rfl
theorem strict_nodup {l : List PV} (h : l.Pairwise fun a b => dataLt (datP a) (datP b) = true) : l.Nodup := h.imp fun {a b} z e => by rw [e, lt_irr] at z; cases z
theorem strict_anti : ∀ {l : List PV}, l.Pairwise (fun a b => dataLt (datP a) (datP b) = true) → ∀ a ∈ l, ∀ b ∈ l, leP a b = true → leP b a = true → a = b
  | [], _, a, ha, _, _, _, _ => by cases ha
  | x :: l, h, a, ha, b, hb, h1, h2 => by
    have ⟨hx, hl⟩ := List.pairwise_cons.mp h
    rcases List.mem_cons.mp ha with e | ha
    · rcases List.mem_cons.mp hb with e' | hb
      · rw [e, e']
      · have z := hx b hb
        rw [e] at h2
        have h2 : (!dataLt (datP x) (datP b)) = true := h2
        rw [z] at h2
        cases h2
    · rcases List.mem_cons.mp hb with e' | hb
      · have z := hx a ha
        rw [e'] at h1
        have h1 : (!dataLt (datP x) (datP a)) = true := h1
        rw [z] at h1
        cases h1
      · exact strict_anti hl a ha b hb h1 h2
def vSortSet : VF := fun xs μ => match xs with
  | [.ref i] => match seqAt μ i with
    | some ps => if sortOk ps (sortP ps) = true then .ok (.ref μ.length) (μ ++ [.lst (sortP ps)]) else .bad
    | none => .bad
  | _ => .bad
end DL
/-! D24: the rule of sorted(set(list)) -/
namespace DL
open PySem PySem.Spec PyProof.Rows L2 PySem.W

abbrev encK (b : Addr × NestedKey) : PyData := datP (pvN b.2)
theorem each_ref : ∀ bs : List (Addr × NestedKey), EachIs (fun (v : Value) (b : Addr × NestedKey) => v = .ref b.1) (bs.map fun b => Value.ref b.1) bs
  | [] => .nil
  | _ :: r => .cons rfl (each_ref r)
theorem ref_each : ∀ {out : List Value} {bs : List (Addr × NestedKey)}, EachIs (fun (v : Value) (b : Addr × NestedKey) => v = .ref b.1) out bs → out = bs.map fun b => Value.ref b.1
  | _, _, .nil => rfl
  | _, _, .cons e t => by rw [List.map_cons, e, ref_each t]
theorem each_all {R : Value → Addr × NestedKey → Prop} : ∀ {bs : List (Addr × NestedKey)}, (∀ b ∈ bs, R (.ref b.1) b) → EachIs R (bs.map fun b => Value.ref b.1) bs
  | [], _ => .nil
  | b :: r, h => .cons (h b List.mem_cons_self) (each_all fun x hx => h x (List.mem_cons_of_mem _ hx))
section
variable {P : Program} {w : World} {A : Around} {E : Value → Shared → Prop} {s : Shared}
theorem g_sorted {a : Addr} {L : List (Addr × NestedKey)} {es : Array (Int × Value)} {ep : Nat} {t : SetTable} {Q : Value → Shared → Prop} (R : SetG (nestedKind P w) s.heap a L es ep t) (hh : A.handled = none) (hu : A.units + 24 < cLine)
    (hr : ∀ p ∈ L, ∃ as, Reads s.heap (.ref p.1) (encK p) as) (hal : AllAlike (L.map encK)) (hk : Sortable (L.map encK)) (hdep : ∀ p ∈ L, (encK p).depth ≤ 16)
    (hQ : ∀ s' p (out : List Value) (c : Nat) (bs : List (Addr × NestedKey)), (∀ b o, s.heap.get? b = some o → s'.heap.get? b = some o) → s'.gens = s.gens → s'.os = s.os → s.heap.objs.size ≤ p → s'.heap.get? p = some (seqObj "list" out.toArray c) →
      out = (bs.mergeSort (dataLe false encK)).map (fun q => Value.ref q.1) → bs.Perm L → Q (.ref p) s') :
    wpAny (model P w) A (call (.builtin "sorted") [.ref a]) Q E s := by
  obtain ⟨o, ho, hex, hd⟩ := R.obj
  have hfew := R.few
  have hsz := R.size
  refine Calls.call_function_entry kind_sorted plain_sorted entry_sorted (args_sorted1 _) ?_
  unfold Builtin.«sorted»
  refine wpAny_bind (m := checkCount "sorted" 1 1 _) (wpAny_pure (wpAny_bind ?_))
  refine collect_set (A := A.in1) hh ⟨o, ho, hex.1, hd⟩ R.fits (by unfold scanBound; omega) R.tab.ris R.led fun s1 vs k1 hz g1 o1 pm => ?_
  rw [R.rows, gRows, List.map_map] at pm
  obtain ⟨bs, pb, rfl⟩ := perm_lift pm rfl
  have hlen : bs.length = L.length := pb.length_eq
  refine wpAny_bind (wpAny_newList ?_ (by simp only [List.size_toArray, List.length_map]; rw [sizeLine_eq]; omega))
  have hoL : (s1.heap.push (seqObj "list" (bs.map fun q => Value.ref q.1).toArray 0)).get? s1.heap.objs.size = some (seqObj "list" (bs.map fun q => Value.ref q.1).toArray 0) := Heap.get?_push_size _ rfl
  have rd : EachIs (fun v b => ∃ as, Reads (s1.heap.push (seqObj "list" (bs.map fun q => Value.ref q.1).toArray 0)) v (encK b) as ∧ s1.heap.objs.size ∉ as) (bs.map fun q => Value.ref q.1) bs := each_all fun b hb => by
    obtain ⟨as, ha⟩ := hr b (pb.mem_iff.mp hb)
    refine ⟨as, PyProof.Rows.Reads.keeps (fun c u e => Heap.get?_push_of_some _ (k1 c u e)) ha, fun hm => ?_⟩
    obtain ⟨u, hu'⟩ := PyProof.On.reads_mem_get ha _ hm
    have h5 := Heap.lt_size hu'
    exact absurd h5 (Nat.not_lt.mpr hz)
  have al : AllAlike (bs.map encK) := fun d h1 d' h2 => hal d ((pb.map encK).mem_iff.mp h1) d' ((pb.map encK).mem_iff.mp h2)
  have so : Sortable (bs.map encK) := hk.imp (fun z d h1 => z d ((pb.map encK).mem_iff.mp h1)) fun z d h1 => z d ((pb.map encK).mem_iff.mp h1)
  refine wpAny_bind (wpAny_holding (list_sort_data (s := { s1 with heap := s1.heap.push (seqObj "list" (bs.map fun q => Value.ref q.1).toArray 0) }) hoL (each_ref bs) rd al so (by rw [hlen, sizeLine_eq]; omega) (fun b hb => ?_) fun out h1 h2 => ?_))
  · have := hdep b (pb.mem_iff.mp hb)
    show A.units + 1 + 1 + _ < cLine
    omega
  · obtain ⟨c, hc⟩ := sortedHeap_at (vs := bs.map fun q => Value.ref q.1) (out := out.toArray) hoL
    refine wpAny_pure ⟨_, rfl, hQ _ s1.heap.objs.size out c bs (fun b u e => ?_) g1 o1 hz hc (ref_each h2) pb⟩
    have q := k1 b u e
    have hlt := Heap.lt_size q
    show (sortedHeap (s1.heap.push (seqObj "list" _ 0)) s1.heap.objs.size _ out.toArray).get? b = some u
    rw [sortedHeap_old (Nat.ne_of_lt hlt) (by rw [size_push']; exact Nat.lt_succ_of_lt hlt)]
    exact Heap.get?_push_of_some _ q
end

/-! ### over the layer -/
section
variable {X : Cx} {W : EW}
/-- set(list of keys) -/
def rSetG (X : Cx) : List V → Hp → VK → Prop := fun xs H Q => ∃ (l : Addr) (ks : List (Addr × NestedKey)), xs = [V.ref l] ∧ SqL X.K H l (ks.map fun p => V.ref p.1) ∧ (∀ p ∈ ks, ∃ ρ, RV X.K ρ H (pvN p.2) (.ref p.1) ∧ p.2.depth ≤ 8) ∧ (∀ m : List NestedKey, m.Nodup → (∀ x ∈ m, x ∈ ks.map (·.2)) → m.length < 64) ∧
  ∀ a L, H a = none → (∀ p ∈ L, p ∈ ks) → (∀ p ∈ ks, p.2 ∈ L.map (·.2)) → (L.map (·.2)).Nodup → Q (.ref a) (upd H a (SetHO (nestedKind X.prog X.w) a L))
theorem refs_vals : ∀ {ks : List (Addr × NestedKey)} {us : List Value}, Vals (ks.map fun p => V.ref p.1) us → us = ks.map fun p => Value.ref p.1
  | [], _, .nil => rfl
  | p :: ks, _, .cons r t => by
    cases r
    rw [refs_vals t]
    rfl
theorem vals_refK : ∀ ks : List (Addr × NestedKey), Vals (ks.map fun p => V.ref p.1) (ks.map fun p => Value.ref p.1)
  | [] => .nil
  | _ :: r => .cons rfl (vals_refK r)
theorem oc_setG (hc : X.calm = true) (hu : X.A.units + 20 < cLine) : CallR X (.type "set") (rSetG X) := by
  intro pins s σ H xs us Q I r ⟨l, ks, ex, hl, hk, hf, q⟩
  subst ex
  obtain ⟨u, rfl, rx⟩ := vals1 r
  obtain rfl : u = Value.ref l := rx
  obtain ⟨its, rv, pl, hz⟩ := I.list hl
  have hn : H s.heap.objs.size = none := I.hok.fresh (Nat.le_refl _)
  refine g_set (P := X.prog) (w := X.w) skd_nested ks (I.ok.hd hc) pl.isList (by simpa using refs_vals rv) (fun p hp => ?_) hf (fun A' hA => show A'.units + 8 < cLine by omega) fun h' tk L es ep t R g k => ?_
  · obtain ⟨ρ, h1, h2⟩ := hk p hp
    exact ⟨nkey_is I (v := .ref p.1) h1 rfl, h2⟩
  · exact ⟨.ref s.heap.objs.size, _, I.laid (t' := tk) (o := SetHO (nestedKind X.prog X.w) s.heap.objs.size L) k (Nat.le_refl _) (setHO_new R.zero), rfl, q _ L hn g.sub (fun p hp => g.all p (by rw [List.take_length]; exact hp)) R.dif⟩
/-- sorted(that set) -/
def rSortG (X : Cx) : List V → Hp → VK → Prop := fun xs H Q => ∃ (a : Addr) (L : List (Addr × NestedKey)), xs = [V.ref a] ∧ H a = some (SetHO (nestedKind X.prog X.w) a L) ∧ (∀ p ∈ L, ∃ ρ, RV X.K ρ H (pvN p.2) (.ref p.1) ∧ p.2.depth ≤ 8) ∧ AllAlike (L.map encK) ∧ Sortable (L.map encK) ∧ (∀ p ∈ L, (encK p).depth ≤ 16) ∧
  ∀ (p : Addr) (bs : List (Addr × NestedKey)), H p = none → bs.Perm L → Q (.ref p) (upd H p (.lst ((bs.mergeSort (dataLe false encK)).map fun q => V.ref q.1)))
theorem oc_sortG (hc : X.calm = true) (hu : X.A.units + 30 < cLine) : CallR X (.builtin "sorted") (rSortG X) := by
  intro pins s σ H xs us Q I r ⟨a, L, ex, ha, hk, al, so, dep, q⟩
  subst ex
  obtain ⟨u, rfl, rx⟩ := vals1 r
  obtain rfl : u = Value.ref a := rx
  have R0 : SetG0 (nestedKind X.prog X.w) s.heap a L := (I.hok a _ ha).1
  obtain ⟨es, ep, t, R⟩ := R0.full fun p hp => by
    obtain ⟨ρ, h1, h2⟩ := hk p hp
    exact ⟨nkey_is I (v := .ref p.1) h1 rfl, h2⟩
  refine g_sorted R (I.ok.hd hc) (by omega) (fun p hp => ?_) al so dep fun s' p out c bs k g o hp hg hout pm => ?_
  · obtain ⟨ρ, h1, h2⟩ := hk p hp
    exact Dp.reads I _ _ _ (key_dp h1) rfl
  · have hfew := R.few
    have hl : ((bs.mergeSort (dataLe false encK)).map fun q => V.ref q.1).length ≤ sizeLine := by
      rw [List.length_map, (List.mergeSort_perm bs _).length_eq, pm.length_eq, sizeLine_eq]
      omega
    have hn : H p = none := I.hok.fresh hp
    have hv : Vals ((bs.mergeSort (dataLe false encK)).map fun q => V.ref q.1) out := by rw [hout]; exact vals_refK _
    have J : Inv X pins σ (upd H p (.lst ((bs.mergeSort (dataLe false encK)).map fun q => V.ref q.1))) { s with heap := s'.heap, gens := s'.gens, drawn := s'.drawn, toks := s'.toks } :=
      I.call (ch := []) (Un.laid k hp hn) (I.hok.laid k hp ⟨hl, out, c, hv, hg⟩) (by rw [g]; exact I.bare) (fun _ z => nomatch z)
    have e : s' = { s with heap := s'.heap, gens := s'.gens, drawn := s'.drawn, toks := s'.toks } := by
      cases s'
      cases s
      cases o
      rfl
    rw [e]
    exact ⟨.ref p, _, J, rfl, q p bs hn pm⟩
end
end DL
/-! D25: sorted(set(e)) over the layer -/
namespace DL
open PySem PySem.Spec PyProof.Rows L2 PySem.W

theorem keyT_of {p : PV} (h : keyT p = true) : ∃ n q r, p = .tup (q :: r) ∧ pvN n = p ∧ n.depth ≤ 8 := by
  unfold keyT at h
  split at h
  · rename_i q r
    split at h
    · rename_i n hn
      exact ⟨n, q, r, rfl, nkOf_pv hn, of_decide_eq_true h⟩
    · cases h
  · cases h
section
variable {K : PySem.W.Frag} {ρ : List Addr} {H : Hp}
/-- the keys of a list of tuples -/
theorem keys_of : ∀ {ps : List PV} {vs : List V}, RVs K ρ H ps vs → (∀ p ∈ ps, keyT p = true) →
    ∃ ks : List (Addr × NestedKey), vs = ks.map (fun p => V.ref p.1) ∧ ps = ks.map (fun p => pvN p.2) ∧ (∀ p ∈ ks, RV K ρ H (pvN p.2) (.ref p.1) ∧ p.2.depth ≤ 8)
  | _, _, .nil, _ => ⟨[], rfl, rfl, fun _ h => nomatch h⟩
  | _, _, .cons (p := p) (v := v) r t, h => by
    obtain ⟨ks, e1, e2, e3⟩ := keys_of t fun x hx => h x (List.mem_cons_of_mem _ hx)
    obtain ⟨n, q, l, ep, en, dn⟩ := keyT_of (h p List.mem_cons_self)
    have hv : ∃ a, v = V.ref a := by
      rw [ep] at r
      cases r with
      | @tup _ _ a _ _ => exact ⟨a, rfl⟩
    obtain ⟨a, rfl⟩ := hv
    refine ⟨(a, n) :: ks, by rw [e1]; rfl, by rw [List.map_cons, en, ← e2], fun x hx => ?_⟩
    rcases List.mem_cons.mp hx with e | hx
    · subst e
      exact ⟨by show RV K ρ H (pvN n) _; rw [en]; exact r, dn⟩
    · exact e3 x hx
theorem rvs_keys : ∀ {L : List (Addr × NestedKey)}, (∀ p ∈ L, RV K ρ H (pvN p.2) (.ref p.1)) → RVs K ρ H (L.map fun p => pvN p.2) (L.map fun p => V.ref p.1)
  | [], _ => .nil
  | p :: r, h => .cons (h p List.mem_cons_self) (rvs_keys fun x hx => h x (List.mem_cons_of_mem _ hx))
theorem nodup_map_inj {α β : Type} {f : α → β} (hf : ∀ a b, f a = f b → a = b) {l : List α} (h : l.Nodup) : (l.map f).Nodup := (List.pairwise_map).mpr (h.imp fun {a b} z e => z (hf a b e))
theorem nodup_of_map {α β : Type} {f : α → β} {l : List α} (h : (l.map f).Nodup) : l.Nodup := ((List.pairwise_map).mp h).imp fun {a b} z e => z (by rw [e])
theorem sorted_is {L bs : List (Addr × NestedKey)} {ys : List PV} (hs : ys.Pairwise fun a b => dataLt (datP a) (datP b) = true) (hn : (L.map (·.2)).Nodup) (h1 : ∀ p ∈ L, pvN p.2 ∈ ys) (h2 : ∀ y ∈ ys, ∃ p ∈ L, pvN p.2 = y) (pb : bs.Perm L) :
    (bs.mergeSort (dataLe false encK)).map (fun p => pvN p.2) = ys := by
  have pm : ((bs.mergeSort (dataLe false encK)).map fun p => pvN p.2).Perm (L.map fun p => pvN p.2) := ((List.mergeSort_perm bs _).trans pb).map _
  have hnd : (L.map fun p => pvN p.2).Nodup := by
    have := nodup_map_inj (f := pvN) (fun a b e => pvN_inj e) hn
    rwa [List.map_map] at this
  have py : (L.map fun p => pvN p.2).Perm ys := (List.perm_ext_iff_of_nodup hnd (strict_nodup hs)).mpr fun a => ⟨fun z => by
    obtain ⟨p, hp, rfl⟩ := List.mem_map.mp z
    exact h1 p hp, fun z => by
    obtain ⟨p, hp, rfl⟩ := h2 a z
    exact List.mem_map.mpr ⟨p, hp, rfl⟩⟩
  have pw : ((bs.mergeSort (dataLe false encK)).map fun p => pvN p.2).Pairwise fun a b => leP a b = true := (List.pairwise_map).mpr ((sort_pairwise (sortLe_total _ false _) bs).imp fun {a b} z => by
    have z : dataLe false encK a b = true := z
    rw [dataLe_eq] at z
    exact z)
  refine sorted_eq _ _ (pm.trans py) pw (strict_le hs) fun a ha b hb => strict_anti hs a ((pm.trans py).mem_iff.mp ha) b ((pm.trans py).mem_iff.mp hb)
end
section
variable {X : Cx} {W : EW}
theorem sset_of (x : V) (H : Hp) (Q : VK) (h : rL X.prog X.w X.K W vSortSet [x] H Q) : rSetG X [x] H fun v H2 => rSortG X [v] H2 Q := by
  obtain ⟨ρ, μ, ps, rp, t, h⟩ := h
  cases rp with
  | cons r1 r2 =>
    cases r2
    cases r1 with
    | @ref i l hl =>
      have h : Post X.prog X.w X.K W ρ H (match seqAt μ i with
        | some ps => if sortOk ps (sortP ps) = true then .ok (.ref μ.length) (μ ++ [.lst (sortP ps)]) else .bad
        | none => .bad) (RV X.K) Q := h
      cases e : seqAt μ i with
      | none => rw [e] at h; exact h.elim
      | some qs =>
        rw [e] at h
        by_cases c : sortOk qs (sortP qs) = true
        · have h6 : Post X.prog X.w X.K W ρ H (if sortOk qs (sortP qs) = true then .ok (.ref μ.length) (μ ++ [.lst (sortP qs)]) else .bad) (RV X.K) Q := h
          clear h
          rw [if_pos c] at h6
          generalize sortP qs = ys at h6 c
          unfold sortOk at c
          simp only [Bool.and_eq_true, List.all_eq_true, decide_eq_true_eq] at c
          obtain ⟨⟨⟨⟨⟨⟨c1, c2⟩, c3⟩, c4⟩, c5⟩, c6⟩, c7⟩ := c
          obtain ⟨vs, h1, h2⟩ := seqAt_of t hl e
          obtain ⟨ks, rfl, rfl, hk⟩ := keys_of h2 c1
          have c4 : ∀ p ∈ ks, pvN p.2 ∈ ys := fun p hp => memP_iff.mp (c4 _ (List.mem_map.mpr ⟨p, hp, rfl⟩))
          have hs := strict_pw c3
          refine ⟨l, ks, rfl, h1, fun p hp => ⟨ρ, hk p hp⟩, fun m hm hx => ?_, fun a L ha g1 g2 g3 => ?_⟩
          · have q := List.Nodup.length_le_of_subset (l₁ := m.map pvN) (l₂ := ys) (nodup_map_inj (fun a b e => pvN_inj e) hm) fun y hy => by
              obtain ⟨n, hn, rfl⟩ := List.mem_map.mp hy
              obtain ⟨p, hp, rfl⟩ := List.mem_map.mp (hx n hn)
              exact c4 p hp
            rw [List.length_map] at q
            exact Nat.lt_of_le_of_lt q c2
          · have st : Step X.K ρ H ρ (upd H a (SetHO (nestedKind X.prog X.w) a L)) := Step.quiet ha
            have hr : ∀ p ∈ L, RV X.K ρ (upd H a (SetHO (nestedKind X.prog X.w) a L)) (pvN p.2) (.ref p.1) := fun p hp => (hk p (g1 p hp)).1.step st
            have my : ∀ p ∈ L, pvN p.2 ∈ ys := fun p hp => c4 p (g1 p hp)
            refine ⟨a, L, rfl, upd_same, fun p hp => ⟨ρ, hr p hp, (hk p (g1 p hp)).2⟩, fun d hd d' hd' => ?_, .inl fun d hd => ?_, fun p hp => c7 _ (my p hp), fun b bs hb pb => ?_⟩
            · obtain ⟨p, hp, rfl⟩ := List.mem_map.mp hd
              obtain ⟨p', hp', rfl⟩ := List.mem_map.mp hd'
              exact c6 _ (my p hp) _ (my p' hp')
            · obtain ⟨p, hp, rfl⟩ := List.mem_map.mp hd
              obtain ⟨n, q, r, e1, -, -⟩ := keyT_of (c1 _ (List.mem_map.mpr ⟨p, g1 p hp, rfl⟩))
              refine ⟨datP q, datPs r, ?_⟩
              show datP (pvN p.2) = _
              rw [e1, datP, datPs]
            · have es := sorted_is hs g3 my (fun y hy => by
                have q := memP_iff.mp (c5 y hy)
                obtain ⟨p, hp, rfl⟩ := List.mem_map.mp q
                obtain ⟨p', hp', e'⟩ := List.mem_map.mp (g2 p hp)
                exact ⟨p', hp', by rw [e']⟩) pb
              have rv : RVs X.K ρ (upd H a (SetHO (nestedKind X.prog X.w) a L)) ys ((bs.mergeSort (dataLe false encK)).map fun q => V.ref q.1) := by
                have z := rvs_keys (K := X.K) (ρ := ρ) (H := upd H a (SetHO (nestedKind X.prog X.w) a L)) (L := bs.mergeSort (dataLe false encK)) fun p hp => hr p (pb.mem_iff.mp ((List.mergeSort_perm bs _).mem_iff.mp hp))
                rwa [es] at z
              exact ok_lst (t.quiet ha) rv hb (Post.step st h6)
        · have h : Post X.prog X.w X.K W ρ H (if sortOk qs (sortP qs) = true then .ok (.ref μ.length) (μ ++ [.lst (sortP qs)]) else .bad) (RV X.K) Q := h
          rw [if_neg c] at h
          exact h.elim
    | _ => exact h.elim
theorem le_sortedSet {x y : Str} {e : Expr} {p p2 pos pos2 : Pos} {d : DE} (hc : X.calm = true) (hu : X.A.units + 30 < cLine) (h : LE X W e d)
    (hg : Gl X x) (hm : X.mg x = none) (hv : bootBuiltins x = some (.builtin "sorted")) (hg2 : Gl X y) (hm2 : X.mg y = none) (hv2 : bootBuiltins y = some (.type "set"))
    (he2 : starEach [e] X.env = (false, eval e X.env) :: starEach [] X.env := by rfl)
    (hn : x ≠ "__name__" := by decide) (hdb : (x == ("__debug__" : Str)) = false := by decide) (hn2 : y ≠ "__name__" := by decide) (hdb2 : (y == ("__debug__" : Str)) = false := by decide) :
    LE X W (.Call (.Name x p) [.Call (.Name y p2) [e] [] pos2] [] pos) (dApp vSortSet (dCons d dNil)) :=
  (pe_callB (oc_sortG hc hu) hg hm hv (pa_cons (pe_callTy (oc_setG hc (by omega)) hg2 hm2 hv2 (pa_cons h pa_nil he2) hn2 hdb2 he2 rfl) pa_nil rfl) hn hdb rfl rfl).impD fun σ H Q h => (app1 h).mono fun x H1 h => sset_of x H1 Q h
end
end DL
/-! D26: sets of keys carried by value: set(list), and their number -/
namespace DL
open PySem PySem.Spec PyProof.Rows L2

section
variable {P : Program} {w : World} {κ : Type} [DecidableEq κ] [BEq κ] [LawfulBEq κ] {knd : KeyKind P w κ} {A : Around} {E : Value → Shared → Prop} {s : Shared}
/-- at D stands the set of just these different keys -/
def SetV (knd : KeyKind P w κ) (h : Heap) (D : Addr) (l : List κ) : Prop := h.SetOf knd D (fun k => decide (k ∈ l)) l.length
/-- what such a set holds behind some items -/
structure HoldV (ks l : List κ) : Prop where
  dif : l.Nodup
  sub : ∀ x ∈ l, x ∈ ks
  all : ∀ x ∈ ks, x ∈ l
theorem HoldV.len {ks l : List κ} (g : HoldV ks l) : l.length ≤ ks.length := List.Nodup.length_le_of_subset g.dif fun x hx => g.sub x hx
theorem HoldV.next {ks l : List κ} {x : κ} (g : HoldV ks l) : HoldV (ks ++ [x]) (if decide (x ∈ l) = true then l else l ++ [x]) := by
  by_cases c : x ∈ l
  · rw [if_pos (decide_eq_true c)]
    refine ⟨g.dif, fun y hy => List.mem_append_left _ (g.sub y hy), fun y hy => ?_⟩
    rcases List.mem_append.mp hy with z | z
    · exact g.all y z
    · rw [List.mem_singleton.mp z]; exact c
  · rw [if_neg (by simp [c])]
    refine ⟨?_, fun y hy => ?_, fun y hy => ?_⟩
    · rw [List.nodup_append]
      exact ⟨g.dif, by simp, fun a ha b hb e => c (by rw [← List.mem_singleton.mp hb, ← e]; exact ha)⟩
    · rcases List.mem_append.mp hy with z | z
      · exact List.mem_append_left _ (g.sub y z)
      · exact List.mem_append_right _ z
    · rcases List.mem_append.mp hy with z | z
      · exact List.mem_append_left _ (g.all y z)
      · exact List.mem_append_right _ z
theorem SetV.at {h h' : Heap} {D : Addr} {l : List κ} (x : SetV knd h D l) (k : ∀ o, h.get? D = some o → h'.get? D = some o) : SetV knd h' D l := by
  obtain ⟨o, es, ep, t, ho, r⟩ := x
  exact ⟨o, es, ep, t, k o ho, r⟩
/-- the loop of set.update -/
theorem v_loop (hsc : ∀ (k : κ) (v : Value), knd.is k v = true → v.scannable = true) {I : Addr} {fp wr : List Addr} {G : Array GenState → Array GenState → Prop} {n : Nat} {Pv : Nat → Value → Prop} {St : Nat → Shared → Prop} {R : Result → Shared → Prop}
    (Wk : WalksS P w A.in1 I fp wr G n Pv St) (D : Addr) (hDf : D ∉ fp) (ks : List κ) (hn : n = ks.length) (few : ks.length < 1000) (hval : ∀ i v, Pv i v → ∃ k, ks[i]? = some k ∧ knd.is k v = true) :
    ∀ (m i : Nat) (s : Shared), n - i = m → i ≤ n → St i s → (∃ l, SetV knd s.heap D l ∧ HoldV (ks.take i) l) →
      (∀ s' l, Moved (D :: wr) G s s' → SetV knd s'.heap D l → HoldV ks l → R (.ok (.ret .none)) s') →
      codeAny (model P w) A (.builtin "set.update.loop" ⟨[.ref D, .ref I], []⟩) R s := by
  have hDw : D ∉ wr := fun h => hDf (Wk.sub _ h)
  have wider : ∀ b ∈ wr, b ∈ D :: wr := fun b hb => List.mem_cons_of_mem _ hb
  intro m
  induction m with
  | zero =>
    intro i s hm hi hst ⟨l, hS, g⟩ hR
    obtain rfl : i = n := by omega
    refine codeAny_builtin F.entry_set_update_loop ?_
    rw [Around.under_plainId F.plain_set_update_loop _]
    show wpAny _ A.in1 (pyNext (Value.ref I) >>= _) _ _ s
    refine wpAny_bind (Wk.done s _ _ hst fun s' mv => ?_)
    show wpAny _ A.in1 (ret Value.none) _ _ s'
    exact wpAny_pure (hR s' l (mv.mono wider) (hS.at fun o e => mv.heap D o hDw e) (by rw [hn, List.take_length] at g; exact g))
  | succ m ih =>
    intro i s hm hi hst ⟨l, hS, g⟩ hR
    have hlt : i < n := by omega
    refine codeAny_builtin F.entry_set_update_loop ?_
    rw [Around.under_plainId F.plain_set_update_loop _]
    show wpAny _ A.in1 (pyNext (Value.ref I) >>= _) _ _ s
    refine wpAny_bind (Wk.item i s _ _ hlt hst fun v s' hP hst' mv => ?_)
    obtain ⟨k, hk, kv⟩ := hval i v hP
    have hS' : SetV knd s'.heap D l := hS.at fun o e => mv.heap D o hDw e
    have hl := g.len
    rw [List.length_take] at hl
    show wpAny _ A.in1 (holding [v] (setAdd D v) >>= _) _ _ s'
    refine wpAny_bind (wpAny_holding ?_)
    unfold setAdd
    refine wpAny_holding (wpAny_bind (knd.pyHash kv ?_))
    refine wpAny_setAddHashed_of (s := { s' with toks := s'.toks + 1 }) kv (hsc k v kv) hS' (by unfold scanBound; omega) fun h' sb hS2 => ?_
    have hS3 : SetV knd h' D (if decide (k ∈ l) = true then l else l ++ [k]) := by
      refine PyProof.Rows.SetOf_congr hS2 (fun k' => ?_) ?_
      · by_cases c : k ∈ l
        · rw [if_pos (decide_eq_true c)]
          by_cases c2 : k' = k
          · subst c2
            simp [c]
          · simp [c2]
        · rw [if_neg (by simp [c])]
          simp
      · by_cases c : k ∈ l <;> simp [c]
    refine wpAny_pure ⟨plainId_quiet F.plain_set_update_loop _, ih (i + 1) _ (by omega) hlt (Wk.frame _ s' _ _ hst' (Nat.le_add_right _ _) fun b hb o e => ?_) ⟨_, hS3, ?_⟩ fun s'' l2 mv2 hS'' g'' => ?_⟩
    · rw [sb.2 b (fun h : b = D => hDf (by rw [← h]; exact hb))]
      exact e
    · rw [take_next hk]
      exact g.next
    · refine hR s'' l2 (Moved.trans Wk.gtrans ((mv.mono wider).then_heap (Nat.le_add_right _ _) fun b o hb e => ?_) mv2) hS'' g''
      rw [sb.2 b (fun h : b = D => hb (by rw [h]; exact List.mem_cons_self))]
      exact e
/-- set(l) -/
theorem v_set (hsc : ∀ (k : κ) (v : Value), knd.is k v = true → v.scannable = true) {l : Addr} {items : Array Value} (ks : List κ) {Q : Value → Shared → Prop} (hh : A.handled = none) (hl : s.heap.IsList l items) (hlen : items.size = ks.length) (few : ks.length < 1000)
    (hval : ∀ (i : Nat) (v : Value), items[i]? = some v → ∃ k, ks[i]? = some k ∧ knd.is k v = true)
    (h : ∀ (h' : Heap) (tk : Nat) l', SetV knd h' s.heap.objs.size l' → HoldV ks l' → (∀ b o, s.heap.get? b = some o → h'.get? b = some o) → Q (.ref s.heap.objs.size) { s with heap := h', toks := tk }) :
    wpAny (model P w) A (call (.type "set") [.ref l]) Q E s := by
  obtain ⟨c, tl, hmro⟩ := F.called_set.mro
  have hmade := F.called_set.made
  have hsub := F.called_set.sub
  refine wpAny_call (codeAny_of_tree ?_)
  show wpAny _ _ (callAny (.type "set") _) _ _ _
  refine wpAny_pure ⟨Code.quiet_builtin _ (by decide +kernel), codeAny_builtin F.entry_type_call ?_⟩
  rw [Around.under_plain (weight_type_call_type "set" [.ref l] []) rfl]
  have k1 := F.called_set.notType
  have k2 := F.called_set.canCreate
  have k3 := F.typeCall_set_1 (.ref l)
  repeat (any_goals (first | assumption | wp_step))
  refine codeAny_mono (code_set_led1 (.ref l) (E := E) (Q₁ := fun obj s₁ => obj = .ref s.heap.objs.size ∧ s₁ = { s with heap := s.heap.push (set0 w) }) ⟨rfl, rfl⟩) fun r s₁ hr => ?_
  cases r with
  | error e => exact hr
  | ok fl =>
    cases fl with
    | ret obj =>
      obtain ⟨rfl, rfl⟩ := hr
      have hS : (s.heap.push (set0 w)).get? s.heap.objs.size = some (set0 w) := Heap.get?_push_size _ rfl
      have hT : Shared.TypeIs { s with heap := s.heap.push (set0 w) } (.ref s.heap.objs.size) "set" := ⟨_, hS, rfl⟩
      have k4 := F.called_set.init.lookup
      have k5 := F.called_set.init.bind (.ref s.heap.objs.size)
      repeat (any_goals (first | assumption | wp_step))
      refine codeAny_mono (codeAny_call_builtin (R := wants (fun r s₂ => r = .none ∧ ∃ h' tk l', s₂ = { s with heap := h', toks := tk } ∧ SetV knd h' s.heap.objs.size l' ∧ HoldV ks l' ∧ (∀ b o, s.heap.get? b = some o → h'.get? b = some o)) E)
        F.called_set.init.plain F.entry_set_init (check_set_init_1 hT ?_)) fun r₂ s₂ hr₂ => ?_
      · obtain ⟨⟨ocls, odict, odata, oslots⟩, hol, hcl, nl, hdl⟩ := hl
        simp only at hcl hdl
        subst hcl hdl
        have hol' : (s.heap.push (set0 w)).get? l = some { cls := .type "list", dict := odict, data := .seq items nl, slots := oslots } := Heap.get?_push_of_some _ hol
        have k6 := F.sub_list_set
        have k7 := F.sub_list_frozenset
        have k8 : (Value.type "list" == Value.type "dict") = false := by decide
        have hl1 : (s.heap.push (set0 w)).IsList l items := ⟨_, hol', rfl, nl, rfl⟩
        unfold Builtin.«set.__init__» noKeywords Builtin.Frozenset.updateFrom
        generalize hPI : pyIter = PI
        wp_walk
        subst hPI
        refine wpAny_pyIter_list hl1 (wpAny_bind (wpAny_runValue ?_))
        have hlS : l < s.heap.objs.size := Heap.lt_size hol
        have hh3 : A.in1.in1.in1.handled = none := by simp [hh]
        have hz : (s.heap.push (set0 w)).objs.size = s.heap.objs.size + 1 := Heap.size_push ..
        have hneI : l ≠ (s.heap.push (set0 w)).objs.size := by rw [hz]; exact Nat.ne_of_lt (Nat.lt_succ_of_lt hlS)
        have hSf : s.heap.objs.size ∉ [(s.heap.push (set0 w)).objs.size, l] := by
          rw [hz]
          simp only [List.mem_cons, List.mem_singleton, List.not_mem_nil, or_false, not_or]
          exact ⟨Nat.ne_of_lt (Nat.lt_succ_self _), Nat.ne_of_gt hlS⟩
        have hset : SetV knd ((s.heap.push (set0 w)).push { cls := .type "list_iterator", data := .fields #[.ref l, .int 0 0] }) s.heap.objs.size [] :=
          PyProof.Rows.SetOf_congr ((PyProof.Rows.setObjOf_fresh (knd := knd) (!w.params.followText "set-order")).setOf (Heap.get?_push_of_some _ hS) (by unfold scanBound; omega)) (fun _ => by simp) rfl
        refine v_loop hsc ((Walks.list hh3 _ l hneI items).toS) s.heap.objs.size hSf ks hlen few hval (items.size - 0) 0 _ (by omega) (Nat.zero_le _)
          ⟨⟨_, Heap.get?_push_size _ rfl, rfl, rfl⟩, (hl1.push _)⟩ ⟨[], hset, List.nodup_nil, fun x hx => (by cases hx), fun x hx => (by simp at hx)⟩ ?_
        · rintro ⟨h', g2, d', tk', os'⟩ l' mv hS' g'
          obtain rfl : g2 = s.gens := mv.gens
          obtain rfl : d' = s.drawn := mv.drawn
          obtain rfl : os' = s.os := mv.os
          show wpAny _ _ _ _ _ _
          refine wpAny_pure ?_
          show wpAny _ _ (ret Value.none) _ _ _
          refine wpAny_pure ⟨rfl, h', tk', l', rfl, hS', g', fun b o e => ?_⟩
          have hlt := Heap.lt_size e
          have n1 : b ≠ s.heap.objs.size := Nat.ne_of_lt hlt
          have n2 : b ≠ (s.heap.push (set0 w)).objs.size := by rw [hz]; exact Nat.ne_of_lt (Nat.lt_succ_of_lt hlt)
          exact mv.heap b o (by simp only [List.mem_cons, List.mem_singleton, List.not_mem_nil, or_false, not_or]; exact ⟨n1, n2⟩) (Heap.get?_push_of_some _ (Heap.get?_push_of_some _ e))
      · cases r₂ with
        | error e => exact hr₂
        | ok fl₂ =>
          cases fl₂ with
          | ret r =>
            obtain ⟨rfl, h', tk, l', rfl, hS', g', hk'⟩ := hr₂
            repeat (any_goals (first | assumption | wp_step))
            exact h _ _ _ hS' g' hk'
          | _ => exact hr₂.elim
    | _ => exact hr.elim
end

/-! ### len(set(texts)) -/
def strsOf : List PV → Option (List Str)
  | [] => some []
  | .str x :: r => (strsOf r).map (x :: ·)
  | _ :: _ => none
def difS : List Str → List Str → List Str
  | [], acc => acc
  | x :: r, acc => difS r (if acc.elem x then acc else x :: acc)
def vLenSet : VF := fun xs μ => match xs with
  | [.ref i] => match (seqAt μ i).bind strsOf with
    | some ss => if ss.length < 1000 then .ok (.int (difS ss []).length) μ else .bad
    | none => .bad
  | _ => .bad
theorem difS_hold : ∀ (xs acc ks : List Str), HoldV ks acc → HoldV (ks ++ xs) (difS xs acc)
  | [], acc, ks, g => by rw [List.append_nil]; exact g
  | x :: r, acc, ks, g => by
    have e : ks ++ x :: r = (ks ++ [x]) ++ r := by simp
    rw [e]
    refine difS_hold r _ _ ?_
    by_cases c : x ∈ acc
    · rw [if_pos (by simpa using c)]
      refine ⟨g.dif, fun y hy => List.mem_append_left _ (g.sub y hy), fun y hy => ?_⟩
      rcases List.mem_append.mp hy with z | z
      · exact g.all y z
      · rw [List.mem_singleton.mp z]; exact c
    · rw [if_neg (by simpa using c)]
      refine ⟨List.nodup_cons.mpr ⟨c, g.dif⟩, fun y hy => ?_, fun y hy => ?_⟩
      · rcases List.mem_cons.mp hy with z | z
        · rw [z]; simp
        · exact List.mem_append_left _ (g.sub y z)
      · rcases List.mem_append.mp hy with z | z
        · exact List.mem_cons_of_mem _ (g.all y z)
        · rw [List.mem_singleton.mp z]; exact List.mem_cons_self
theorem hold_len {ks l l' : List Str} (g : HoldV ks l) (g' : HoldV ks l') : l.length = l'.length :=
  Nat.le_antisymm (List.Nodup.length_le_of_subset g.dif fun x hx => g'.all x (g.sub x hx)) (List.Nodup.length_le_of_subset g'.dif fun x hx => g.all x (g'.sub x hx))
theorem strsOf_vals {K : PySem.W.Frag} {ρ : List Addr} {H : Hp} : ∀ {ps : List PV} {vs : List V} {ss : List Str}, RVs K ρ H ps vs → strsOf ps = some ss → vs = ss.map V.str
  | _, _, _, .nil, e => by cases e; rfl
  | _, _, _, .cons (p := p) r t, e => by
    cases p with
    | str x =>
      rw [strsOf] at e
      obtain ⟨r', e1, e2⟩ := Option.map_eq_some_iff.mp e
      subst e2
      cases r
      rw [strsOf_vals t e1]
      rfl
    | _ => cases e
theorem str_vals : ∀ {ss : List Str} {us : List Value} {i : Nat} {u : Value}, Vals (ss.map V.str) us → us[i]? = some u → ∃ k, ss[i]? = some k ∧ ∃ t, u = .str k t
  | [], _, i, _, .nil, e => by simp at e
  | x :: ss, _, 0, u, .cons r t, e => by
    obtain ⟨k, rfl⟩ := r
    simp at e
    exact ⟨x, rfl, k, e.symm⟩
  | x :: ss, _, i + 1, u, .cons r t, e => by
    obtain ⟨k, h1, h2⟩ := str_vals (i := i) (u := u) t (by simpa using e)
    exact ⟨k, by simpa using h1, h2⟩
section
variable {X : Cx} {W : EW}
def tLenSetA (X : Cx) (W : EW) (d : DE) : TE := T X.prog X.w X.K W (dApp vLenSet (dCons d dNil))
theorem le_lenSet {a : Expr} {d : DE} {p p2 q pos : Pos} (hc : X.calm = true) (hg : Gl X "len") (hm : X.mg "len" = none) (hg2 : Gl X "set") (hm2 : X.mg "set" = none) (ha : LE X W a d)
    (na : starEach [a] X.env = (false, eval a X.env) :: starEach [] X.env := by rfl) : LE X W (.Call (.Name "len" p) [.Call (.Name "set" p2) [a] [] q] [] pos) (dApp vLenSet (dCons d dNil)) := by
  refine ⟨fun pins s σ H Q I h => ?_⟩
  refine Call_ (ld_blt I hg hm boot_len ?_)
  refine PyProof.Rows.callWith_builtin1 (PyProof.Rows.args_cons ?_ rfl) rfl rfl
  refine Call_ (ld_blt I hg2 hm2 boot_set ?_)
  refine PyProof.Rows.callWith_type1 (PyProof.Rows.args_cons (thn (ha.run pins s σ H _ I (app1 h)) fun v s1 ⟨x, H1, I1, r1, q1⟩ => PyProof.Rows.args_nil ?_) na) na rfl
  obtain ⟨ρ, μ, ps, rp, t, z⟩ := q1
  cases rp with
  | cons r2 r3 =>
    cases r3
    cases r2 with
    | @ref i l hi =>
      have z : Post X.prog X.w X.K W ρ H1 (match (seqAt μ i).bind strsOf with
        | some ss => if ss.length < 1000 then .ok (.int (difS ss []).length) μ else .bad
        | none => .bad) (RV X.K) Q := z
      cases e : seqAt μ i with
      | none => rw [e] at z; exact z.elim
      | some qs =>
        rw [e, Option.bind_some] at z
        cases e2 : strsOf qs with
        | none => rw [e2] at z; exact z.elim
        | some ss =>
          rw [e2] at z
          by_cases c : ss.length < 1000
          · have z2 : Post X.prog X.w X.K W ρ H1 (if ss.length < 1000 then .ok (.int (difS ss []).length) μ else .bad) (RV X.K) Q := z
            clear z
            rw [if_pos c] at z2
            obtain ⟨vs, h1, h2⟩ := seqAt_of t hi e
            obtain rfl := strsOf_vals h2 e2
            obtain rfl : v = Value.ref l := r1
            obtain ⟨its, r, pl, hz⟩ := I1.list h1
            have hlen : its.toArray.size = ss.length := by rw [List.size_toArray, ← r.length, List.length_map]
            refine v_set (knd := PySem.strKind X.prog X.w) (fun k v hv => by obtain ⟨t, rfl⟩ := Value.isStrOf_shape hv; rfl) ss (I1.ok.hd hc) pl.isList hlen c (fun i v hv => ?_) fun h' tk l' hS g k => ?_
            · obtain ⟨k, k1, t, rfl⟩ := str_vals r (by simpa using hv)
              exact ⟨k, k1, by simp [PySem.strKind, Value.isStrOf, Value.isStr]⟩
            · refine PyProof.Rows.args_nil ?_
              have hn : l'.length = (difS ss []).length := hold_len g (difS_hold ss [] [] ⟨List.nodup_nil, fun x hx => (by cases hx), fun x hx => (by cases hx)⟩)
              obtain ⟨o, es, ep, tb, ho, hex, hd, _, _, _, hf, hs⟩ := hS
              have hle := g.len
              have I2 : Inv X pins σ H1 { s1 with heap := h', toks := tk } := I1.kept fun b o e => k b o e
              exact call_len_set ho hex hd hf (by rw [hs] <;> omega) ⟨.int (difS ss []).length, H1, I2.tok _, ⟨_, by rw [hs, hn]⟩, z2 ρ _ H1 Step.refl (.int _) t⟩
          · have z2 : Post X.prog X.w X.K W ρ H1 (if ss.length < 1000 then .ok (.int (difS ss []).length) μ else .bad) (RV X.K) Q := z
            rw [if_neg c] at z2
            exact z2.elim
    | _ => exact z.elim
end
end DL
/-! D27: ranges, tuple(text), own __contains__ and __getitem__, constants of a module, calls apart -/
namespace DL
variable {γ : Type}
open PySem PySem.Spec PyProof.Rows L2

/-! ### ranges -/
def rgP (a b : Int) : List PV := (List.range (b - a).toNat).map fun i => PV.int (a + (i : Nat))
def rgFit (a b : Int) : Bool := decide (-(2 ^ 62) ≤ a) && decide (a < 2 ^ 62) && decide (-(2 ^ 62) ≤ b) && decide (b < 2 ^ 62) && decide ((b - a).toNat ≤ 2 ^ 24)
theorem rgFit_of {a b : Int} (h : rgFit a b = true) : RgOk a b := by
  unfold rgFit at h
  simp only [Bool.and_eq_true, decide_eq_true_eq] at h
  exact ⟨h.1.1.1.1, h.1.1.1.2, h.1.1.2, h.1.2, h.2⟩
def rg1 (f : Int → Int → Sto → Rz γ) : PV → Sto → Rz γ := fun p μ => match p with
  | .int n => if rgFit 0 n = true then f 0 n μ else .bad
  | _ => .bad
def rg2 (f : Int → Int → Sto → Rz γ) : PV → PV → Sto → Rz γ := fun p q μ => match p, q with
  | .int a, .int b => if rgFit a b = true then f a b μ else .bad
  | _, _ => .bad
abbrev rgI : Int → Int → Sto → Rz (List PV × (Sto → Bool)) := fun a b μ => .ok (rgP a b, fun _ => true) μ
abbrev rgL : Int → Int → Sto → Rz PV := fun a b μ => .ok (.ref μ.length) (μ ++ [.lst (rgP a b)])
def dRg1 (d : DE) : DI := fun η μ => (d η μ).bind (rg1 rgI)
def dRg2 (d d2 : DE) : DI := fun η μ => (d η μ).bind fun p μ1 => (d2 η μ1).bind (rg2 rgI p)
def dLstRg1 (d : DE) : DE := fun η μ => (d η μ).bind (rg1 rgL)
def dLstRg2 (d d2 : DE) : DE := fun η μ => (d η μ).bind fun p μ1 => (d2 η μ1).bind (rg2 rgL p)
theorem ints_rvs {K : PySem.W.Frag} {ρ : List Addr} {H : Hp} (a : Int) : ∀ l : List Nat, RVs K ρ H (l.map fun i => PV.int (a + (i : Nat))) (l.map fun i => V.int (a + (i : Nat)))
  | [] => .nil
  | _ :: r => .cons (.int _) (ints_rvs a r)
theorem wk_rg {P : Program} {w : World} {K : PySem.W.Frag} {ρ : List Addr} {H : Hp} (a b : Int) : Wk P w K (Itr a (b - a).toNat) ρ H (rgP a b) (fun _ => true) where
  go := fun i p ρ1 H1 μ g t hg hi => by
    unfold rgP at hi
    rw [List.getElem?_map] at hi
    obtain ⟨j, hj, rfl⟩ := Option.map_eq_some_iff.mp hi
    obtain ⟨hlt, e⟩ := List.getElem?_eq_some_iff.mp hj
    rw [List.getElem_range] at e
    subst e
    rw [List.length_range] at hlt
    exact ⟨hlt, fun x H' ⟨e1, e2⟩ => by subst e1 e2; exact ⟨Step.refl, t, .int _⟩⟩
  stop := fun ρ1 H1 μ g t hg => by
    show (b - a).toNat ≤ (rgP a b).length
    unfold rgP
    rw [List.length_map, List.length_range]
    exact Nat.le_refl _
section
variable {P : Program} {w : World} {K : PySem.W.Frag} {W : EW} {ρ : List Addr} {H : Hp} {μ : Sto} {γ δ : Type}
theorem rg1_of {f : Int → Int → Sto → Rz γ} {p : PV} {x : V} {Rel : List Addr → Hp → γ → δ → Prop} {Q : δ → Hp → Prop} (r : RV K ρ H p x) (h : Post P w K W ρ H (rg1 f p μ) Rel Q) : ∃ n, x = .int n ∧ RgOk 0 n ∧ Post P w K W ρ H (f 0 n μ) Rel Q := by
  cases r with
  | int n =>
    unfold rg1 at h
    by_cases c : rgFit 0 n = true
    · have h2 : Post P w K W ρ H (if rgFit 0 n = true then f 0 n μ else .bad) Rel Q := h
      rw [if_pos c] at h2
      exact ⟨n, rfl, rgFit_of c, h2⟩
    · have h2 : Post P w K W ρ H (if rgFit 0 n = true then f 0 n μ else .bad) Rel Q := h
      rw [if_neg c] at h2
      exact h2.elim
  | _ => exact h.elim
theorem rg2_of {f : Int → Int → Sto → Rz γ} {p q : PV} {x y : V} {Rel : List Addr → Hp → γ → δ → Prop} {Q : δ → Hp → Prop} (r : RV K ρ H p x) (r2 : RV K ρ H q y) (h : Post P w K W ρ H (rg2 f p q μ) Rel Q) : ∃ a b, x = .int a ∧ y = .int b ∧ RgOk a b ∧ Post P w K W ρ H (f a b μ) Rel Q := by
  cases r with
  | int a =>
    cases r2 with
    | int b =>
      unfold rg2 at h
      by_cases c : rgFit a b = true
      · have h2 : Post P w K W ρ H (if rgFit a b = true then f a b μ else .bad) Rel Q := h
        rw [if_pos c] at h2
        exact ⟨a, b, rfl, rfl, rgFit_of c, h2⟩
      · have h2 : Post P w K W ρ H (if rgFit a b = true then f a b μ else .bad) Rel Q := h
        rw [if_neg c] at h2
        exact h2.elim
    | _ => exact h.elim
  | _ => exact h.elim
end
section
variable {X : Cx} {W : EW} {σ : L2.St} {H : Hp} {γ : Type}
theorem two_of {d d2 : DE} {f : PV → PV → Sto → Rz γ} {δ : Type} {Rel : List Addr → Hp → γ → δ → Prop} {Q : δ → Hp → Prop} (h : ∃ ρ η μ, REnv X.K ρ H η σ ∧ RSt X.prog X.w X.K ρ H μ ∧ Post X.prog X.w X.K W ρ H ((d η μ).bind fun p μ1 => (d2 η μ1).bind (f p)) Rel Q) :
    T X.prog X.w X.K W d σ H fun x H1 => T X.prog X.w X.K W d2 σ H1 fun y H2 => ∃ ρ2 p q μ2, RV X.K ρ2 H2 p x ∧ RV X.K ρ2 H2 q y ∧ RSt X.prog X.w X.K ρ2 H2 μ2 ∧ Post X.prog X.w X.K W ρ2 H2 (f p q μ2) Rel Q := by
  obtain ⟨ρ, η, μ, en, t, q⟩ := h
  refine ⟨ρ, η, μ, en, t, (Post.bind q).mono fun x H1 ⟨ρ1, p, μ1, st, r, t1, q1⟩ => ?_⟩
  exact ⟨ρ1, η, μ1, en.step st, t1, (Post.bind q1).mono fun y H2 ⟨ρ2, p2, μ2, st2, r2, t2, q2⟩ => ⟨ρ2, p, p2, μ2, r.step st2, r2, t2, q2⟩⟩
theorem one_of {d : DE} {f : PV → Sto → Rz γ} {δ : Type} {Rel : List Addr → Hp → γ → δ → Prop} {Q : δ → Hp → Prop} (h : ∃ ρ η μ, REnv X.K ρ H η σ ∧ RSt X.prog X.w X.K ρ H μ ∧ Post X.prog X.w X.K W ρ H ((d η μ).bind f) Rel Q) :
    T X.prog X.w X.K W d σ H fun x H1 => ∃ ρ2 p μ2, RV X.K ρ2 H1 p x ∧ RSt X.prog X.w X.K ρ2 H1 μ2 ∧ Post X.prog X.w X.K W ρ2 H1 (f p μ2) Rel Q := by
  obtain ⟨ρ, η, μ, en, t, q⟩ := h
  exact ⟨ρ, η, μ, en, t, (Post.bind q).mono fun x H1 ⟨ρ1, p, μ1, st, r, t1, q1⟩ => ⟨ρ1, p, μ1, r, t1, q1⟩⟩
end
section
variable {X : Cx} {W : EW} {tg a b : Expr} {da db : DE} {p pos p2 pos2 : Pos}
theorem li_range1 (hg : Gl X "range") (hm : X.mg "range" = none) (ha : LE X W a da) (hs : starEach [a] X.env = [(false, eval a X.env)] := by rfl) : LI X W tg (.Call (.Name "range" p) [a] [] pos) (dRg1 da) :=
  (pi_range1 hg hm (pa_cons ha pa_nil hs) hs).impD fun σ H R h => (one_of h).mono fun x H1 ⟨ρ, p, μ, r, t, q⟩ => by
    obtain ⟨n, rfl, ⟨b1, b2, b3, b4, b5⟩, q⟩ := rg1_of r q
    have z := q ρ (Itr 0 (n - 0).toNat) H1 Step.refl (wk_rg 0 n) t
    rw [Int.sub_zero] at z
    exact ⟨n, rfl, b3, b4, z⟩
theorem li_range2 (hg : Gl X "range") (hm : X.mg "range" = none) (ha : LE X W a da) (hb : LE X W b db) (hs : starEach [a, b] X.env = [(false, eval a X.env), (false, eval b X.env)] := by rfl) (hs2 : starEach [b] X.env = [(false, eval b X.env)] := by rfl) :
    LI X W tg (.Call (.Name "range" p) [a, b] [] pos) (dRg2 da db) :=
  (pi_range2 hg hm (pa_cons ha (pa_cons hb pa_nil hs2) (by rw [hs, hs2])) hs hs2).impD fun σ H R h => (two_of h).mono fun x H1 h => h.mono fun y H2 ⟨ρ, p, q', μ, r, r2, t, q⟩ => by
    obtain ⟨i, j, rfl, rfl, ⟨b1, b2, b3, b4, b5⟩, q⟩ := rg2_of r r2 q
    exact ⟨i, j, rfl, ⟨b1, b2, b3, b4⟩, q ρ (Itr i (j - i).toNat) H2 Step.refl (wk_rg i j) t⟩
theorem le_lstRg1 (hc : X.calm = true) (hg : Gl X "list") (hm : X.mg "list" = none) (hg2 : Gl X "range") (hm2 : X.mg "range" = none) (ha : LE X W a da) (na : starEach [a] X.env = (false, eval a X.env) :: starEach [] X.env := by rfl)
    (nr : starEach [.Call (.Name "range" p2) [a] [] pos2] X.env = (false, eval (.Call (.Name "range" p2) [a] [] pos2) X.env) :: starEach [] X.env := by rfl) :
    LE X W (.Call (.Name "list" p) [.Call (.Name "range" p2) [a] [] pos2] [] pos) (dLstRg1 da) :=
  (pe_listRg hc hg hm (prg_1 hg2 hm2 ha na) nr).impD fun σ H Q h => (one_of h).mono fun x H1 ⟨ρ, p, μ, r, t, q⟩ => by
    obtain ⟨n, rfl, ok, q⟩ := rg1_of r q
    exact ⟨n, rfl, ok, fun l hl => ok_lst t (ints_rvs 0 (List.range (n - 0).toNat)) hl q⟩
end

/-! ### tuple() of anything -/
def vTupleA : VF := fun xs μ => match xs with
  | [.str z] => if z.length ≤ sizeLine then .ok (.tup (signs z)) μ else .bad
  | _ => vTuple xs μ
section
variable {X : Cx} {W : EW}
theorem signs_rvs {K : PySem.W.Frag} {ρ : List Addr} {H : Hp} : ∀ l : List Nat, RVs K ρ H (l.map fun c => PV.str ⟨#[c]⟩) (l.map fun c => V.str ⟨#[c]⟩)
  | [] => .nil
  | _ :: r => .cons (.str _) (signs_rvs r)
theorem signs_vals : ∀ (l : List Nat) (us : List Value), us.length = l.length → (∀ (j : Nat) (v : Value), us[j]? = some v → ∃ (c : Nat) (u : Tok), l[j]? = some c ∧ v = Value.str ⟨#[c]⟩ u) → Vals (l.map fun c => V.str ⟨#[c]⟩) us
  | [], [], _, _ => .nil
  | [], _ :: _, e, _ => by cases e
  | _ :: _, [], e, _ => by cases e
  | c :: l, v :: us, e, h => by
    obtain ⟨c', u, h1, h2⟩ := h 0 v rfl
    cases h1
    exact .cons ⟨u, h2⟩ (signs_vals l us (by simpa using e) fun j v hj => h (j + 1) v (by simpa using hj))
theorem oc_tupleA (hcm : X.calm = true) : OC X W (.type "tuple") vTupleA := oc1_of fun pins s σ H xs us Q ρ μ ps I r rp t h => by
  have plain : Post X.prog X.w X.K W ρ H (vTuple ps μ) (RV X.K) Q → wpAny (model X.prog X.w) X.A (call (.type "tuple") us) (EP X pins σ Q) X.xe s := fun h => oc_tuple (W := W) pins s σ H _ us Q I r ⟨ρ, μ, ps, rp, t, h⟩
  cases rp with
  | nil => exact h.elim
  | @cons p x _ _ r1 r2 =>
    cases r2 with
    | cons _ _ => cases r1 <;> exact h.elim
    | nil =>
      cases r1 with
      | str z =>
        have h2 : Post X.prog X.w X.K W ρ H (if z.length ≤ sizeLine then .ok (.tup (signs z)) μ else .bad) (RV X.K) Q := h
        by_cases c : z.length ≤ sizeLine
        · rw [if_pos c] at h2
          obtain ⟨u, rfl, rx⟩ := vals1 r
          obtain ⟨tk, rfl⟩ : ∃ tk, u = Value.str z tk := rx
          refine call_tuple_str (I.ok.hd hcm) z tk (fun h' tk' acc hk ha => ?_) c
          have k2 : ∀ b o, s.heap.get? b = some o → (h'.push { cls := .type "tuple", data := .seq acc }).get? b = some o := fun b o e => Heap.get?_push_of_some _ (hk b o e)
          have hz : s.heap.get? h'.objs.size = none := by
            cases e : s.heap.get? h'.objs.size with
            | none => rfl
            | some o => exact absurd (Heap.lt_size (hk _ _ e)) (Nat.lt_irrefl _)
          have hv : Vals (z.cps.toList.map fun c => V.str ⟨#[c]⟩) acc.toList := signs_vals _ _ (by rw [Array.length_toList, Array.length_toList]; exact ha.1) fun j v hj => by
            obtain ⟨c, u, h1, h2⟩ := ha.2 j v (by rw [← Array.getElem?_toList]; exact hj)
            exact ⟨c, u, by rw [Array.getElem?_toList]; exact h1, h2⟩
          have hn : H h'.objs.size = none := L2.HOk.gone I.hok hz
          refine ⟨.ref h'.objs.size, _, I.laidN (t' := tk') (o := .tup (z.cps.toList.map fun c => V.str ⟨#[c]⟩)) k2 hz hn ⟨?_, acc.toList, hv, ⟨_, Heap.get?_push_size _ rfl, rfl, 0, ?_⟩⟩, rfl, ok_tup t (signs_rvs _) hn h2⟩
          · rw [List.length_map, Array.length_toList]
            exact c
          · simp
        · rw [if_neg c] at h2
          exact h2.elim
      | _ => exact plain h
end
end DL
/-! D28: own __contains__ and __getitem__, constants of a module, calls apart -/
namespace DL
open PySem PySem.Spec PyProof.Rows L2

section
variable {X : Cx} {k n : Nat} {f C : Addr} {fd : FuncData} {ps : List Str} {F : VF}
/-- an instance of C at this number -/
def insAt (C : Addr) (p : PV) (μ : Sto) : Bool := match p with
  | .ref i => match μ[i]? with
    | some (.ins D _) => decide (D = C)
    | _ => false
  | _ => false
theorem insAt_of {P : Program} {w : World} {K : PySem.W.Frag} {ρ : List Addr} {H : Hp} {μ : Sto} {C : Addr} {o : PV} {v : V} (s : RSt P w K ρ H μ) (r : RV K ρ H o v) (h : insAt C o μ = true) : ∃ a dx gs, v = .ref a ∧ H a = some (.ins C dx gs) := by
  cases r with
  | @ref i a ha =>
    have h : (match μ[i]? with | some (.ins D _) => decide (D = C) | _ => false) = true := h
    cases e : μ[i]? with
    | none => rw [e] at h; cases h
    | some ob =>
      rw [e] at h
      cases ob with
      | ins D fs =>
        obtain rfl := of_decide_eq_true h
        obtain ⟨dx, gs, h3, _, _⟩ := s.obj i a _ ha e
        exact ⟨a, dx, gs, rfl, h3⟩
      | _ => cases h
  | _ => cases h
/-- a value sought in an own thing -/
def vInO (C : Addr) (F : VF) : VF := fun xs μ => match xs with
  | [x, o] => if insAt C o μ = true then (F [o, x] μ).bind fun r μ1 => match r with
      | .bl b => .ok (.bl b) μ1
      | _ => .bad
    else .bad
  | _ => .bad
theorem o2_inO (hm : Meth X.K C "__contains__" f) (G : FnOk X.prog X.w X.K X.mg X.base CX0 k f fd ps (spD X.prog X.w X.K n F)) (hF : Ar n F) (hr : Room k X.A) (hb : Binds X.K fd ps []) : O2 X EW0 (compareOp .In) (vInO C F) :=
  o2_of fun pins s σ H x y v u Q ρ μ p q I rx ry r1 r2 t h => by
    have h : Post X.prog X.w X.K EW0 ρ H (if insAt C q μ = true then (F [q, p] μ).bind fun r μ1 => match r with
      | .bl b => .ok (.bl b) μ1
      | _ => .bad
    else .bad) (RV X.K) Q := h
    by_cases c : insAt C q μ = true
    · rw [if_pos c] at h
      obtain ⟨a, dx, gs, rfl, h3⟩ := insAt_of t r2 c
      obtain rfl : u = Value.ref a := ry
      obtain ⟨mA, O, _, _, _, _⟩ := ins_get I.hok h3
      obtain ⟨od, J, _⟩ := O.look
      refine wpAny_bind (m := contains (.ref a) v) ?_
      unfold contains
      refine wpAny_holding (wpAny_bind (wpAny_bind (J.type.here ((PySem.W.looks_findIn I.kIn hm.at_).here ?_))))
      rw [if_neg (by simp)]
      refine wpAny_bind (PySem.W.unlessNone_K I.kIn J hm.at_ hm.fn (thn (run_fn (us := [.ref a, v]) (vs := [.ref a, x]) (Q := fun z H2 => ∃ b, z = .bl b ∧ Q (.bl b) H2) G hr hb .nil (pass0 (X := X)) I (.cons rfl (.cons rx .nil)) (sp_of (vs := [.ref a, x]) hF ⟨ρ, μ, [q, p], .cons r2 (.cons r1 .nil), t, ?_⟩)) ?_))
      · refine (Post.bind h).mono fun z H2 ⟨ρ1, b, μ1, st, r, t1, q1⟩ => ?_
        cases r with
        | bl b => exact ⟨b, rfl, q1 ρ1 _ H2 Step.refl (.bl b) t1⟩
        | _ => exact q1.elim
      · rintro r s' ⟨z, H2, I2, rz, b, rfl, q⟩
        obtain rfl : r = Value.bool b := rz
        exact wpAny_truthy_bool (wpAny_pure ⟨.bl b, H2, I2, rfl, q⟩)
    · rw [if_neg c] at h
      exact h.elim
/-- o[i], an own __getitem__ -/
def vItemO (C : Addr) (F : VF) : VF := fun xs μ => match xs with
  | [o, i] => if insAt C o μ = true then F [o, i] μ else .bad
  | _ => .bad
theorem le_itemO {a b : Expr} {d1 d2 : DE} {pos : Pos} (hm : Meth X.K C "__getitem__" f) (hfn : PySem.W.fnIn X.K f = true) (G : FnOk X.prog X.w X.K X.mg X.base CX0 k f fd ps (spD X.prog X.w X.K n F)) (hF : Ar n F) (hr : Room (k + 1) X.A) (hb : Binds X.K fd ps [])
    (h1 : LE X EW0 a d1) (h2 : LE X EW0 b d2) (hsl : ∀ o i, subscripted b true o i = runValue (.builtin "lifetime.subscript" ⟨[o, i], []⟩) := by intro _ _; rfl) :
    LE X EW0 (.Subscript a b pos) (dApp (vItemO C F) (dCons d1 (dCons d2 dNil))) := by
  refine ⟨fun pins s0 σ H0 Q I0 h0 => ?_⟩
  refine Subscript_ (binT h1 h2 I0 (app2 h0) fun v u s x y H I rx ry ⟨ρ, μ, qs, rp, t, h⟩ => ?_)
  cases rp with
  | @cons p _ _ _ r1 rp =>
    cases rp with
    | @cons q _ _ _ r2 rp =>
      cases rp
      have h : Post X.prog X.w X.K EW0 ρ H (if insAt C p μ = true then F [p, q] μ else .bad) (RV X.K) Q := h
      by_cases c : insAt C p μ = true
      · rw [if_pos c] at h
        obtain ⟨a', dx, gs, rfl, h3⟩ := insAt_of t r1 c
        obtain rfl : v = Value.ref a' := rx
        obtain ⟨mA, O, _, _, _, _⟩ := ins_get I.hok h3
        obtain ⟨od, J, _⟩ := O.look
        have hk := hfn
        unfold PySem.W.fnIn at hk
        split at hk
        · rename_i e
          unfold subscriptTail getitemInPython
          refine wpAny_bind (wpAny_bind (wpAny_bind (J.type.here ((PySem.W.looks_findIn I.kIn hm.at_).here ?_))))
          dsimp only
          refine wpAny_bind (wpAny_load (I.kIn _ _ e) (wpAny_pure ?_))
          dsimp only
          rw [hsl]
          refine wpAny_bind (wpAny_runValue (codeAny_builtin PySem.W.entry_sub ?_))
          unfold Builtin.«lifetime.subscript»
          have sp : spD X.prog X.w X.K n F ([V.ref a', y] ++ []) H Q E0 := sp_of (vs := [.ref a', y]) hF ⟨ρ, μ, [p, q], .cons r1 (.cons r2 .nil), t, h⟩
          have hl : ([Value.ref a', u] ++ []).length = ps.length := by rw [← G.len _ _ _ _ sp]; rfl
          refine wpAny_bind (PySem.W.special_fn I.kIn J hm.at_ (beq_iff_eq.mp hm.fn) (wpAny_call (codeAny_mono (G.run X.A.in1 X.stack s H ⟨[.ref a', u], []⟩ ([.ref a', u] ++ []) ([V.ref a', y] ++ []) Q E0 hr.in1 I.env0.in1 (hb s _ I.kIn hl) (show Vals [V.ref a', y] [.ref a', u] from .cons rfl (.cons ry .nil)) sp) fun r s' hq => ?_)))
          cases r with
          | error er => exact False.elim (pass0 (X := X.nox) pins σ H s er s' (I.wish _) hq)
          | ok fl =>
            cases fl with
            | ret u' =>
              obtain ⟨z, H', I3, rv, q3⟩ := I.after hq
              refine wpAny_pure ?_
              show wpAny _ _ (letTemporaryGo a (.ref a') u' >>= fun _ => pure u') _ _ s'
              exact wpAny_bind (wpAny_letTemporaryGo (wpAny_pure ⟨z, H', I3, rv, q3⟩))
            | next => exact False.elim hq
            | brk => exact False.elim hq
            | cont => exact False.elim hq
        · cases hk
      · rw [if_neg c] at h
        exact h.elim
end

/-! ### what a module holds -/
section
variable {X : Cx} {W : EW}
theorem le_glob {x : Str} {v : V} {p : PV} {u : Value} {pos : Pos} (hg : Gl X x) (hm : X.mg x = some u) (r : RelV v u) (rv : ∀ ρ H, RV X.K ρ H p v) (hd : (x == ("__debug__" : Str)) = false := by decide) : LE X W (.Name x pos) (dC p) := le_c (pe_glob hg hm r hd) rv
end

/-! ### a call apart: on an empty store, what comes back bare of numbers -/
mutual
def bareP : PV → Bool
  | .ref _ => false
  | .tup ps => bareL ps
  | _ => true
def bareL : List PV → Bool
  | [] => true
  | p :: ps => bareP p && bareL ps
end
mutual
theorem bare_rv {K : PySem.W.Frag} {ρ ρ' : List Addr} {H : Hp} : ∀ {p : PV} {v : V}, bareP p = true → RV K ρ H p v → RV K ρ' H p v
  | _, _, _, .non => .non
  | _, _, _, .bl b => .bl b
  | _, _, _, .int i => .int i
  | _, _, _, .str x => .str x
  | _, _, _, .ty n => .ty n
  | _, _, _, .glb a => .glb a
  | _, _, h, .ref _ => by cases h
  | _, _, h, .tup e r => .tup e (bare_rvs (by rw [bareP] at h; exact h) r)
theorem bare_rvs {K : PySem.W.Frag} {ρ ρ' : List Addr} {H : Hp} : ∀ {ps : List PV} {vs : List V}, bareL ps = true → RVs K ρ H ps vs → RVs K ρ' H ps vs
  | _, _, _, .nil => .nil
  | _, _, h, .cons r t => by
    rw [bareL, Bool.and_eq_true] at h
    exact .cons (bare_rv h.1 r) (bare_rvs h.2 t)
end
def vApart (F : VF) : VF := fun xs μ => if bareL xs = true then match F xs [] with
    | .ok p _ => if bareP p = true then .ok p μ else .bad
    | _ => .bad
  else .bad
theorem apart_of {P : Program} {w : World} {K : PySem.W.Frag} {F : VF} {vs : List V} {H : Hp} {Q : VK} (h : rL P w K EW0 (vApart F) vs H Q) : rL P w K EW0 F vs H Q := by
  obtain ⟨ρ, μ, ps, r, t, h⟩ := h
  unfold vApart at h
  by_cases c : bareL ps = true
  · rw [if_pos c] at h
    refine ⟨[], [], ps, bare_rvs c r, ⟨rfl, List.nodup_nil, fun i a o e => (by cases e)⟩, ?_⟩
    cases e : F ps [] with
    | ok p μ' =>
      rw [e] at h
      have h : Post P w K EW0 ρ H (if bareP p = true then .ok p μ else .bad) (RV K) Q := h
      by_cases c2 : bareP p = true
      · rw [if_pos c2] at h
        intro ρ' x H' st rx t'
        have keep : ∀ b o, H b = some o → H' b = some o := fun b o e => st.keep b o e (by simp)
        have st2 : Step K ρ H ρ H' := ⟨⟨[], (List.append_nil ρ).symm, fun _ h => by cases h⟩, fun b o e _ => keep b o e, st.tup, st.live, st.dct⟩
        refine h ρ x H' st2 (bare_rv c2 rx) (t.keep st2 fun a ha => ?_)
        cases q : H a with
        | none => exact absurd q (t.there ha)
        | some o => exact keep a o q
      · rw [if_neg c2] at h
        exact h.elim
    | err C v μ' => rw [e] at h; exact h.elim
    | bad => rw [e] at h; exact h.elim
  · rw [if_neg c] at h
    exact h.elim
theorem apart_ar {n : Nat} {F : VF} (a : Ar n F) : Ar n (vApart F) := fun ps μ h => by
  unfold vApart
  rw [a ps [] h]
  split <;> rfl
theorem fn_apart {P : Program} {w : World} {K : PySem.W.Frag} {mg : Str → Option Value} {base : Heap} {k n : Nat} {f : Addr} {fd : FuncData} {ps : List Str} {F : VF} (G : FnOk P w K mg base CX0 k f fd ps (spD P w K n F)) : FnOk P w K mg base CX0 k f fd ps (spD P w K n (vApart F)) :=
  G.imp fun vs H Q E h => ⟨h.1, apart_of h.2⟩
end DL
/-! D29: defs that must know that no repr is under way (guards), calls of them, the end over such a law -/
namespace DL
open PySem PySem.Spec PyProof.Rows L2

/-- a def's promise where no repr is under way -/
structure FnG (P : Program) (w : World) (K : PySem.W.Frag) (mg : Str → Option Value) (base : Heap) (k : Nat) (f : Addr) (fd : FuncData) (ps : List Str) (sp : Sp) : Prop where
  len : ∀ vs H Q E, sp vs H Q E → vs.length = ps.length
  run : ∀ (A : Around) (outer : List Env) (s : Shared) (H : Hp) (args : Args) (us : List Value) (vs : List V) (Q : VK) (E : XK), A.guards = some [] → Room k A → Env0 P w K mg base A outer s H → BindsTo s fd args (ps.zip us) → Vals vs us → sp vs H Q E →
    codeAny (model P w) A (.call (.ref f) args) (CR CX0 outer P w H s Q E) s
section
variable {P : Program} {w : World} {K : PySem.W.Frag} {mg : Str → Option Value} {base : Heap} {k : Nat} {f : Addr} {fd : FuncData} {ps : List Str} {sp : Sp}
theorem FnG.of (F : FnOk P w K mg base CX0 k f fd ps sp) : FnG P w K mg base k f fd ps sp := ⟨F.len, fun A outer s H args us vs Q E _ => F.run A outer s H args us vs Q E⟩
theorem fn_g {x qual : Str} {st : Stmt} {N : List Str} {d : DS} (F : Fun K x qual st f fd) (S : FnScope N ps (defScope st))
    (h : ∀ (cdv : Value) (A : Around) (outer : List Env) (s : Shared) (H : Hp) (E : XK), A.guards = some [] → Room k (A.deeper (envOfC qual (defScope st) s.heap.objs.size f cdv)) →
      LSs (cxOf CX0 P w K mg base N qual (defScope st) f cdv A outer s H E).nox EW0 (defBody st) d) : FnG P w K mg base (k + 1) f fd ps (spD P w K ps.length (fnBody ps.length N.length d)) := by
  obtain ⟨oc, od, kV, doc, pm, an, cdv, ct, osl, rfl, look, rec⟩ := F.ex
  refine ⟨fun vs H Q E hq => hq.1, fun A outer s H args us vs Q E quiet room e0 bnd rel want => ?_⟩
  have inK : K.In s.heap := e0.mod.kin.keeps fun b o e => (e0.bs b o e).1
  have noLim : s.heap.NoLimit := e0.mod.nolimit.keeps fun b o e => (e0.bs b o e).1
  have slots : ∀ y ∈ ps.zip us, (defScope st).names.lookup y.1 = some .local ∨ ((defScope st).names.lookup y.1 = some .cell ∧ ((cellsFrom (s.heap.objs.size + 1) (defScope st).names []).lookup y.1).isSome = true) := fun ⟨n, v⟩ hy => by
    rcases S.par n (List.of_mem_zip hy).1 with z | z
    · exact .inl z
    · exact .inr ⟨z, PySem.W.cellsFrom_some _ _ _ (.inl z)⟩
  refine codeAny_call_function room.depth (inK _ _ look) rfl S.co S.gen rfl (PySem.W.codeRec_of inK rec) (bnd _ _ _ _ ?_)
  refine wpAny_newFunctionEnv_cells S.kind slots fun env same s1 begun => ?_
  subst same
  refine ⟨noLim.keeps begun.toInCall.keep, codeAny_func ?_⟩
  have body := h cdv A outer s H E quiet (room.deeper _)
  obtain ⟨ln, ρ, μ, qs, rq, tq, post⟩ := want
  have ln2 : qs.length = ps.length := fnBody_ar.len post
  have enter := REnv.start rq N
  rw [ln2] at enter
  unfold fnBody at post
  rw [if_pos ln2] at post
  have I : Inv (cxOf CX0 P w K mg base N qual (defScope st) f cdv A outer s H E) [] (start N vs) H s1 := inv_start S room.hd e0 ln rel begun
  have back : ∀ {σ2 : L2.St} {H2 : Hp} {v : V} {u : Value} {s2 : Shared}, Inv (cxOf CX0 P w K mg base N qual (defScope st) f cdv A outer s H E) [] σ2 H2 s2 → RelV v u → Q v H2 → CE outer P w H s Q u s2 :=
    fun {σ2 H2 v u s2} J ru qv => ⟨v, H2, J.os, J.bare, J.base, J.hok, ru, qv⟩
  have read : TS' P w K EW0 d { nx := fun _ H2 => Q .non H2, rt := Q } (start N vs) H := by
    refine ⟨ρ, _, μ, enter, tq, (Post.bind post).mono fun x H1 ⟨ρ1, o, μ1, st1, ro, s1, q1⟩ => ?_⟩
    cases ro with
    | nx en => exact q1 ρ1 .non H1 Step.refl .non s1
    | rt r1 => exact q1 ρ1 _ H1 Step.refl r1 s1
    | bk en => exact q1.elim
    | ct en => exact q1.elim
  refine wpAny_mono (body.nox.run [] s1 (start N vs) H _ I read) (fun fl s2 ends => ?_) fun e s2 ends => ends
  cases fl with
  | ret u =>
    obtain ⟨v, σ2, H2, J, ru, qv⟩ := ends
    exact back J ru qv
  | next =>
    obtain ⟨σ2, H2, J, qv⟩ := ends
    exact back (v := V.non) (u := Value.none) J rfl qv
  | brk =>
    obtain ⟨_, _, _, no⟩ := ends
    exact no.elim
  | cont =>
    obtain ⟨_, _, _, no⟩ := ends
    exact no.elim
end

/-! ### the end -/
theorem int_vals : ∀ {us : List Value} {l : List Int}, IntsAre us l → Vals (l.map V.int) us
  | _, _, .nil => .nil
  | _, _, .cons i t r => .cons ⟨t, rfl⟩ (int_vals r)
/-- the law's promise, at the heap behind the top, no repr under way -/
theorem law_callG {P : Program} {w : World} {K : PySem.W.Frag} {mg mb : Str → Option Value} {k : Nat} {fa a : Addr} {fd : FuncData} {x : Str} {sp : Sp} {s₁ : Shared} {us : List Value} {l : List Int}
    (inK : K.In s₁.heap) (top : s₁.heap.Ns mainGlobals mg) (bn : s₁.heap.Ns builtinsNs mb) (bb : ∀ x : Str, x ≠ "__name__" → mb x = bootBuiltins x) (lim : s₁.heap.NoLimit) (gens : s₁.gens = #[])
    (ha : s₁.heap.get? a = some { cls := .type "list", data := .seq us.toArray }) (whole : IntsAre us l) (few : l.length ≤ sizeLine) (room : Room k callerA)
    (F : ∀ base : Heap, K.In base → base.Ns mainGlobals mg → FnG P w K mg base k fa fd [x] sp) (bind : ∀ (s : Shared) (u : Value), BindsTo s fd ⟨[u], []⟩ [(x, u)])
    (want : ∀ H : Hp, Only H → SqL K H a (l.map V.int) → sp [.ref a] H (fun v _ => v = .bl true) fun _ _ _ => False) :
    codeAny (model P w) callerA (.call (.ref fa) ⟨[.ref a], []⟩) (fun r s' => r = .ok (.ret (.bool true)) ∧ OldK s₁.heap s'.heap ∧ s'.os = s₁.os ∧ AllBare s'.gens) s₁ := by
  have rel := int_vals whole
  have from_ : ∀ H : Hp, Only H → SqL K H a (l.map V.int) → HOk P w H s₁.heap → (∀ b, H b ≠ none → b = a) → (H a ≠ none → K.lookup a = none) →
      codeAny (model P w) callerA (.call (.ref fa) ⟨[.ref a], []⟩) (fun r s' => r = .ok (.ret (.bool true)) ∧ OldK s₁.heap s'.heap ∧ s'.os = s₁.os ∧ AllBare s'.gens) s₁ := fun H only sq ok one kn => by
    have seen : ∀ {b : Addr} {o : Obj}, s₁.heap.get? b = some o → H b = none → (hidT s₁.heap H).get? b = some o := fun g n => hidT_get g n
    have isA : ∀ {b : Addr} {u : HO}, H b = some u → b = a := fun {b u} h => one b (by rw [h]; exact fun z => nomatch z)
    have noDict : ∀ {b : Addr} {o : Obj} {es : Array DictEntry} {ep : Nat}, s₁.heap.get? b = some o → o.data = .dict es ep → H b = none := fun {b o es ep} g d => by
      cases h : H b with
      | none => rfl
      | some u =>
        rw [isA h, ha] at g
        cases g
        exact nomatch (show Data.seq us.toArray _ = Data.dict es ep from d)
    have names : ∀ {b : Addr} {m : Str → Option Value}, s₁.heap.Ns b m → (hidT s₁.heap H).Ns b m := fun {b m} ⟨o, es, ep, g, d, r⟩ => ⟨o, es, ep, seen g (noDict g d), d, r⟩
    have inB : K.In (hidT s₁.heap H) := fun b o g => seen (inK b o g) (by
      cases h : H b with
      | none => rfl
      | some u =>
        rw [isA h, kn (by rw [← isA h, h]; exact fun z => nomatch z)] at g
        cases g)
    have md : Mod K mg (hidT s₁.heap H) := ⟨inB, names top, ⟨mb, names bn, bb⟩, let ⟨mc, h1, h2⟩ := lim; ⟨mc, names h1, h2⟩⟩
    have e0 : Env0 P w K mg (hidT s₁.heap H) callerA [] s₁ H := ⟨rfl, md, fun b o g => of_hidT g, Nat.le_of_eq (hidT_size _ _), trivial, fun b hb => absurd (show b ∈ ([] : List Addr) from hb) (by simp), ok, .of_eq gens⟩
    refine codeAny_mono ((F _ inB (names top)).run callerA [] s₁ H ⟨[.ref a], []⟩ [.ref a] [.ref a] _ _ rfl room e0 (bind s₁ (.ref a)) (.cons rfl .nil) (want H only sq)) fun r s' fin => ?_
    cases r with
    | error e => exact fin.elim
    | ok fl =>
      cases fl with
      | ret u =>
        obtain ⟨v, H', os, bare, un, ok', rv, isT⟩ := fin
        have isT : v = .bl true := isT
        subst isT
        obtain rfl : u = Value.bool true := rv
        refine ⟨rfl, OldK.of_keep fun b o g => ?_, os, bare⟩
        cases h : H b with
        | none => exact un.keep b o g h (fun z => absurd (show b ∈ ([] : List Addr) from z) (by simp)) (by simp)
        | some u =>
          rcases only b with z | ⟨ob, xs, z⟩
          · rw [h] at z
            cases z
          · obtain ⟨g1, _⟩ := ok b _ z
            obtain ⟨g2, _⟩ := ok' b _ (un.frzs b ob _ z)
            rw [g] at g1
            cases g1
            exact g2
      | next => exact fin.elim
      | brk => exact fin.elim
      | cont => exact fin.elim
  have lenV := whole.length
  cases own : K.lookup a with
  | some o =>
    have g := inK a o own
    rw [ha] at g
    cases g
    exact from_ (fun _ => none) (fun _ => .inl rfl) (.inr ⟨_, us.toArray, _, own, rfl, rfl, rfl, by rw [List.size_toArray, lenV]; exact few, by simpa using rel⟩) (fun b u z => nomatch (show (none : Option HO) = some u from z)) (fun b z => absurd rfl z) fun z => absurd rfl z
  | none =>
    have hit : ∀ b, b = a → (fun b => if b = a then some (HO.frz { cls := .type "list", data := .seq us.toArray } (.lst (l.map V.int))) else none) b = some (HO.frz { cls := .type "list", data := .seq us.toArray } (.lst (l.map V.int))) := fun b e => if_pos e
    refine from_ (fun b => if b = a then some (.frz { cls := .type "list", data := .seq us.toArray } (.lst (l.map V.int))) else none) (fun b => ?_) (.inl (.inr ⟨_, hit a rfl⟩)) (fun b u z => ?_) (fun b z => ?_) fun _ => own
    · by_cases e : b = a
      · exact .inr ⟨_, _, hit b e⟩
      · exact .inl (if_neg e)
    · by_cases e : b = a
      · cases (hit b e).symm.trans z
        subst e
        exact ⟨ha, by rw [List.length_map]; exact few, us, _, rel, ha⟩
      · exact nomatch (if_neg e).symm.trans z
    · by_cases e : b = a
      · exact e
      · exact absurd (if_neg e) z
/-- a law: F gives the written part, the function object, the promise over every base -/
theorem walk_ofG {l : PySem.W.OpenLaw} {n k : Nat} {q : Program} {loose : List Str} {XP : (Str → Option Value) → Heap → Prop} {YP : World → Heap → Prop} {d : DefRec} {x : Str}
    (most : l.most = some n) (fits : n ≤ sizeLine) (noDef : d.params.defaults = []) (room : Room k callerA)
    (F : ∀ (w : World) (mg : Str → Option Value) (fa : Addr) (h : Heap), YP w h → h.Ns mainGlobals mg → mg d.name = some (.ref fa) →
      ∃ (K : PySem.W.Frag) (fd : FuncData) (sp : Sp), K.In h ∧ (∀ (s : Shared) (u : Value), BindsTo s fd ⟨[u], []⟩ [(x, u)]) ∧
        (∀ (H : Hp) (a : Addr) (ns : List Int), ns.length ≤ n → Only H → SqL K H a (ns.map V.int) → sp [.ref a] H (fun v _ => v = .bl true) fun _ _ _ => False) ∧
        ∀ base : Heap, K.In base → base.Ns mainGlobals mg → FnG l.prog w K mg base k fa fd [x] sp) :
    PySem.W.WalkO q loose XP YP l.row.toRowW d [] (fun f vs => PySem.call f vs) :=
  Att.attach_call most noDef fun w s₀ s₁ mg mb fa o pm cd doc a vs ns G Y ho hd rec named obj whole len gens =>
    let ⟨K, fd, sp, inK, bind, want, Fn⟩ := F w mg fa _ Y G.T.g named
    law_callG inK G.T.g G.T.b G.T.builtins G.T.nolimit gens obj whole (Nat.le_trans len fits) room Fn bind fun H only sq => want H a ns len only sq

/-! ### a call of such a def by its name -/
section
variable {X : Cx} {k n : Nat} {f : Addr} {fd : FuncData} {ps : List Str} {F : VF} {x : Str} {p pos : Pos} {e : Expr} {es : List Expr} {ds : DA}
theorem run_g {pins : List (Addr × Obj)} {σ : L2.St} {H : Hp} {s : Shared} {Q : VK} {us : List Value} {vs : List V} (G : FnG X.prog X.w X.K X.mg X.base k f fd ps (spD X.prog X.w X.K n F)) (hF : Ar n F) (quiet : X.A.guards = some []) (hr : Room k X.A) (hb : Binds X.K fd ps [])
    (I : Inv X pins σ H s) (r : Vals vs us) (h : rL X.prog X.w X.K EW0 F vs H Q) : wpAny (model X.prog X.w) X.A (call (.ref f) us) (EP X pins σ Q) X.xe s := by
  have sp : spD X.prog X.w X.K n F vs H Q E0 := by
    have := sp_of hF h (E := E0)
    rwa [List.append_nil] at this
  have hl : (us ++ []).length = ps.length := by rw [List.append_nil, ← r.length]; exact G.len _ _ _ _ sp
  have bd := hb s us I.kIn hl
  rw [List.append_nil] at bd
  refine wpAny_call (codeAny_mono (G.run X.A X.stack s H ⟨us, []⟩ us vs Q E0 quiet hr I.env0 bd r sp) fun fin s2 hq => ?_)
  cases fin with
  | error er => exact pass0 (X := X) pins σ H s er s2 I hq
  | ok fl =>
    cases fl with
    | ret u => exact I.after hq
    | next => exact hq.elim
    | brk => exact hq.elim
    | cont => exact hq.elim
theorem le_callG (G : FnG X.prog X.w X.K X.mg X.base k f fd ps (spD X.prog X.w X.K n F)) (hF : Ar n F) (quiet : X.A.guards = some []) (hr : Room k X.A) (hg : Gl X x) (hm : X.mg x = some (.ref f)) (hk : PySem.W.keepIn X.K (.ref f) = true) (hb : Binds X.K fd ps []) (ha : LA X EW0 (e :: es) ds)
    (hdb : (x == ("__debug__" : Str)) = false := by decide) (he : starEach (e :: es) X.env = (false, eval e X.env) :: starEach es X.env := by rfl) (hpl : (backTo pos (starEach es X.env)).any (·.1) = false := by rfl) :
    LE X EW0 (.Call (.Name x p) (e :: es) [] pos) (dApp F ds) := by
  refine ⟨fun pins s σ H Q I h => ?_⟩
  refine wpAny_Call_Name_kw (ld_glob I hg hm ?_ hdb)
  refine PySem.W.callWith_K (h₀ := X.base) I.ok.mod.kin hk (thn (ha.run pos pins s σ H _ I (app_of h)) fun us s1 ⟨vs, H1, I1, r, q⟩ => ⟨I1.kIn, ?_⟩) he hpl
  exact run_g G hF quiet hr hb I1 r q
end
end DL
/-! D30: repr where no repr is under way -/
namespace DL
open PySem PySem.Spec PyProof.Rows L2

def reprD (μ : Sto) (p : PV) : Option Str := match pdat μ 12 p with
  | some d => if (d.showable && !d.hasDict && decide (d.depth ≤ 16) && decide (d.shown.length ≤ sizeLine)) = true then some d.shown else none
  | none => none
def vRepr : VF := fun xs μ => match xs with
  | [.int i] => if i.natAbs.log2 < 1920 then .ok (.str (toString i : String)) μ else .bad
  | [.str x] => if (reprText x).length ≤ sizeLine then .ok (.str (reprText x)) μ else .bad
  | [.bl b] => .ok (.str (if b = true then Str.ofString "True" else Str.ofString "False")) μ
  | [.non] => .ok (.str (Str.ofString "None")) μ
  | [.tup ps] => match reprD μ (.tup ps) with
    | some z => .ok (.str z) μ
    | none => .bad
  | [.ref i] => match reprD μ (.ref i) with
    | some z => .ok (.str z) μ
    | none => .bad
  | _ => .bad
section
variable {X : Cx} {W : EW}
theorem oc_repr (quiet : X.A.guards = some []) (hu : X.A.units + 40 < cLine) : OC X W (.builtin "repr") vRepr := oc1_of fun pins s σ H xs us Q ρ μ ps I r rp t h => by
  have deep : ∀ {p : PV} {a : Addr}, RV X.K ρ H p (.ref a) → us = [.ref a] → Post X.prog X.w X.K W ρ H (match reprD μ p with | some z => .ok (.str z) μ | none => .bad) (RV X.K) Q → wpAny (model X.prog X.w) X.A (call (.builtin "repr") us) (EP X pins σ Q) X.xe s := fun {p a} rv e h => by
    subst e
    unfold reprD at h
    cases e : pdat μ 12 p with
    | none => rw [e] at h; exact h.elim
    | some d =>
      rw [e] at h
      by_cases c : (d.showable && !d.hasDict && decide (d.depth ≤ 16) && decide (d.shown.length ≤ sizeLine)) = true
      · have h2 : Post X.prog X.w X.K W ρ H (match (if (d.showable && !d.hasDict && decide (d.depth ≤ 16) && decide (d.shown.length ≤ sizeLine)) = true then some d.shown else none) with | some z => .ok (.str z) μ | none => .bad) (RV X.K) Q := h
        rw [if_pos c] at h2
        simp only [Bool.and_eq_true, decide_eq_true_eq, Bool.not_eq_true'] at c
        obtain ⟨⟨⟨c1, c2⟩, c3⟩, c4⟩ := c
        obtain ⟨as, rd⟩ := Dp.reads I _ _ _ (pdat_of t 12 p _ d rv e) rfl
        refine repr_of_reads' rd c1 (fun z => by rw [c2] at z; cases z) quiet (by omega) (fun _ _ e => e) (fun h' u tk k => ?_) c4
        exact ⟨.str d.shown, H, I.kept k, ⟨u, rfl⟩, h2 ρ _ H Step.refl (.str _) t⟩
      · have h2 : Post X.prog X.w X.K W ρ H (match (if (d.showable && !d.hasDict && decide (d.depth ≤ 16) && decide (d.shown.length ≤ sizeLine)) = true then some d.shown else none) with | some z => .ok (.str z) μ | none => .bad) (RV X.K) Q := h
        rw [if_neg c] at h2
        exact h2.elim
  cases rp with
  | nil => exact h.elim
  | @cons p x _ _ r1 r2 =>
    cases r2 with
    | cons _ _ => cases r1 <;> exact h.elim
    | nil =>
      obtain ⟨u, rfl, rx⟩ := vals1 r
      cases r1 with
      | int i =>
        obtain ⟨tk, rfl⟩ : ∃ tk, u = Value.int i tk := rx
        by_cases c : i.natAbs.log2 < 1920
        · have h2 : Post X.prog X.w X.K W ρ H (if i.natAbs.log2 < 1920 then .ok (.str (toString i : String)) μ else .bad) (RV X.K) Q := h
          rw [if_pos c] at h2
          exact P.repr_of_int c ⟨.str _, H, I.tok _, ⟨_, rfl⟩, h2 ρ _ H Step.refl (.str _) t⟩
        · have h2 : Post X.prog X.w X.K W ρ H (if i.natAbs.log2 < 1920 then .ok (.str (toString i : String)) μ else .bad) (RV X.K) Q := h
          rw [if_neg c] at h2
          exact h2.elim
      | str x =>
        obtain ⟨tk, rfl⟩ : ∃ tk, u = Value.str x tk := rx
        by_cases c : (reprText x).length ≤ sizeLine
        · have h2 : Post X.prog X.w X.K W ρ H (if (reprText x).length ≤ sizeLine then .ok (.str (reprText x)) μ else .bad) (RV X.K) Q := h
          rw [if_pos c] at h2
          exact P.repr_of_str ⟨.str _, H, I.tok _, ⟨_, rfl⟩, h2 ρ _ H Step.refl (.str _) t⟩ c
        · have h2 : Post X.prog X.w X.K W ρ H (if (reprText x).length ≤ sizeLine then .ok (.str (reprText x)) μ else .bad) (RV X.K) Q := h
          rw [if_neg c] at h2
          exact h2.elim
      | bl b =>
        obtain rfl : u = Value.bool b := rx
        exact P.repr_of_bool ⟨.str _, H, I.tok _, ⟨_, rfl⟩, h ρ _ H Step.refl (.str _) t⟩
      | non =>
        obtain rfl : u = Value.none := rx
        exact P.repr_of_none ⟨.str _, H, I.tok _, ⟨_, rfl⟩, h ρ _ H Step.refl (.str _) t⟩
      | @tup ps vs a h1 h2 =>
        obtain rfl : u = Value.ref a := rx
        exact deep (p := .tup ps) (.tup h1 h2) rfl h
      | @ref i a ha =>
        obtain rfl : u = Value.ref a := rx
        exact deep (p := .ref i) (.ref ha) rfl h
      | _ => exact h.elim
end
end DL
/-! D31: a list comprehension given to a name, three names at once, promises of defs in short -/
namespace DL
open PySem PySem.Spec PyProof.Rows L2
section
variable {X : Cx} {W : EW}
theorem gset_of {i : Nat} {js : List Nat} {x : V} {σ : L2.St} {H : Hp} {Q : L2.St → Hp → Prop} (h : TG' X.prog X.w X.K W js (gSet i) x σ H Q) (hi : i ∈ js) : gName i x σ H Q := by
  obtain ⟨ρ, η, μ, p, en, r, s, q⟩ := h
  exact q ρ _ H Step.refl ⟨en.set r i, ⟨by rw [List.length_set], fun j hj => List.getElem?_set_ne fun e => hj (by rw [← e]; exact hi)⟩⟩ s
theorem asgLc_of {i : Nat} {d : DE} {te : TE} {D : L2.Ends} {σ : L2.St} {H : Hp} (hl : ∀ Q, T X.prog X.w X.K W d σ H Q → te σ H Q) (h : TS' X.prog X.w X.K W (sAsg d (gSet i)) D σ H) : tAsg te (gName i) D σ H :=
  hl _ (T.mono (X := X) (W := W) (asg_of (js := [i]) h) fun x H1 hx => gset_of hx (by simp))
theorem ls_setLc {i : Nat} {y : Str} {py : Pos} {elt tg iter : Expr} {ifs : List Expr} {scope : Scope} {own : List (Str × Nat)} {pos spos : Pos} {di : DI} {g : DG} {tt : DT} {d : DE} {js : List Nat} (hc : X.calm = true) (hN : X.N.Nodup) (hy : X.N[i]? = some y) (hyl : X.env.scope.names.lookup y = some .local)
    (hsw : swapsWith (.ListComp elt [⟨tg, iter, ifs, 0⟩] scope pos) (some (.Name y py)) spos.line X.env = pure true) (hi : LI X W tg iter di) (ok : BlkOk X.N X.env.scope scope own)
    (hg : ∀ (s : Shared) (H : Hp) (C : Addr) (cl : List (Str × Addr)) (fp : List Addr), LG (X.blk s H scope (compEnvC scope cl C X.env) fp) EW0 js tg g) (ht : ∀ (s : Shared) (H : Hp) (C : Addr) (cl : List (Str × Addr)) (fp : List Addr), LTs (X.blk s H scope (compEnvC scope cl C X.env) fp) EW0 ifs tt)
    (he : ∀ (s : Shared) (H : Hp) (C : Addr) (cl : List (Str × Addr)) (fp : List Addr), LE (X.blk s H scope (compEnvC scope cl C X.env) fp) EW0 elt d) (hj : ∀ i ∈ js, i ∈ own.map (·.2)) (hs : ∀ x, foldedSetIterable iter X.env x = pure x := by intro _; rfl) :
    LS X W (.Assign [.Name y py] (.ListComp elt [⟨tg, iter, ifs, 0⟩] scope pos) spos) (sAsg (dLc di g tt d (own.map (·.2))) (gSet i)) :=
  (ps_setLc hc hN hy hyl hsw hi ok hg ht he hs).impD fun D σ H h => asgLc_of (fun Q h => lc_of hj h) h
theorem ls_setLc2 {i : Nat} {y : Str} {py : Pos} {elt tg iter tg1 iter1 : Expr} {ifs ifs1 : List Expr} {scope : Scope} {own : List (Str × Nat)} {vs1 : List Nat} {pos spos : Pos} {di di1 : DI} {g g1 : DG} {tt tt1 : DT} {d : DE} {js js1 : List Nat} (hc : X.calm = true) (hN : X.N.Nodup) (hy : X.N[i]? = some y) (hyl : X.env.scope.names.lookup y = some .local)
    (hsw : swapsWith (.ListComp elt [⟨tg, iter, ifs, 0⟩, ⟨tg1, iter1, ifs1, 0⟩] scope pos) (some (.Name y py)) spos.line X.env = pure true) (hi : LI X W tg iter di) (ok : BlkOk X.N X.env.scope scope own) (hv : ∀ i ∈ vs1, i ∈ own.map (·.2))
    (hg : ∀ (s : Shared) (H : Hp) (C : Addr) (cl : List (Str × Addr)) (fp : List Addr), LG (X.blk s H scope (compEnvC scope cl C X.env) fp) EW0 js tg g) (ht : ∀ (s : Shared) (H : Hp) (C : Addr) (cl : List (Str × Addr)) (fp : List Addr), LTs (X.blk s H scope (compEnvC scope cl C X.env) fp) EW0 ifs tt)
    (hi1 : ∀ (s : Shared) (H : Hp) (C : Addr) (cl : List (Str × Addr)) (fp : List Addr), LI (X.blk s H scope (compEnvC scope cl C X.env) fp) EW0 tg1 iter1 di1)
    (hg1 : ∀ (s : Shared) (H : Hp) (C : Addr) (cl : List (Str × Addr)) (fp : List Addr), LG (X.blk s H scope (compEnvC scope cl C X.env) fp) EW0 js1 tg1 g1) (ht1 : ∀ (s : Shared) (H : Hp) (C : Addr) (cl : List (Str × Addr)) (fp : List Addr), LTs (X.blk s H scope (compEnvC scope cl C X.env) fp) EW0 ifs1 tt1)
    (he : ∀ (s : Shared) (H : Hp) (C : Addr) (cl : List (Str × Addr)) (fp : List Addr), LE (X.blk s H scope (compEnvC scope cl C X.env) fp) EW0 elt d) (hj : ∀ i ∈ js, i ∈ own.map (·.2)) (hj1 : ∀ i ∈ js1, i ∈ vs1) (hs : ∀ x, foldedSetIterable iter X.env x = pure x := by intro _; rfl) (hs1 : ∀ env x, foldedSetIterable iter1 env x = pure x := by intro _ _; rfl) :
    LS X W (.Assign [.Name y py] (.ListComp elt [⟨tg, iter, ifs, 0⟩, ⟨tg1, iter1, ifs1, 0⟩] scope pos) spos) (sAsg (dLc2 di g tt di1 g1 tt1 d (own.map (·.2)) vs1) (gSet i)) :=
  (ps_setLc2 hc hN hy hyl hsw hi ok hv hg ht hi1 hg1 ht1 he hs hs1).impD fun D σ H h => asgLc_of (fun Q h => lc2_of hj hj1 h) h
theorem ls_par3 {i j l : Nat} {x y z : Str} {a b c : Expr} {ds : DA} {px py pz pt pos : Pos} {kt k2 : Nat} {pt2 : Pos} (hc : X.calm = true) (hN : X.N.Nodup) (hi : X.N[i]? = some x) (hj : X.N[j]? = some y) (hl : X.N[l]? = some z) (hij : i ≠ j) (hil : i ≠ l) (hjl : j ≠ l)
    (hx : X.env.scope.names.lookup x = some .local) (hy : X.env.scope.names.lookup y = some .local) (hz : X.env.scope.names.lookup z = some .local) (ha : LA X W [a, b, c] ds)
    (hw : swappedStores [.Tuple [.Name x px, .Name y py, .Name z pz] kt pt] (.Tuple [a, b, c] k2 pt2) X.env = pure (some [x, y, z]))
    (hs : swapsWithSole [.Tuple [.Name x px, .Name y py, .Name z pz] kt pt] (.Tuple [a, b, c] k2 pt2) pos.line X.env = pure false := by rfl) :
    LS X W (.Assign [.Tuple [.Name x px, .Name y py, .Name z pz] kt pt] (.Tuple [a, b, c] k2 pt2) pos) (sPar3 i j l ds) := (ps_par3 hc hN hi hj hl hij hil hjl hx hy hz ha hw hs).impD fun D σ H ⟨ρ, η, μ, en, s, q⟩ => by
  refine ⟨ρ, η, μ, en, s, (Post.bind q).mono fun xs H1 ⟨ρ1, ps, μ1, st, r, s1, q1⟩ => ?_⟩
  cases r with
  | nil => exact q1.elim
  | cons r1 r2 =>
    cases r2 with
    | nil => exact q1.elim
    | cons r2 r3 =>
      cases r3 with
      | nil => exact q1.elim
      | cons r3 r4 =>
        cases r4 with
        | nil => exact ⟨_, _, _, rfl, q1 ρ1 (.nx _) H1 Step.refl (.nx ((((en.step st).set r1 i).set r2 j).set r3 l)) s1⟩
        | cons _ _ => exact q1.elim
end

theorem room_un {k : Nat} {A : Around} (r : Room k A) (n : Nat) (h : n ≤ 200 := by decide) : A.units + n < cLine := by
  have := r.un
  omega
theorem le_const {X : Cx} {W : EW} {x : Str} {v : V} {pv : PV} {pos : Pos} (hg : Gl X x) (h : ∃ u, X.mg x = some u ∧ RelV v u) (rv : ∀ ρ H, RV X.K ρ H pv v) (hd : (x == ("__debug__" : Str)) = false := by decide) : LE X W (.Name x pos) (dC pv) :=
  let ⟨_, hm, r⟩ := h
  le_glob hg hm r rv hd
/-- list() of a text too -/
def vListB : VF := fun xs μ => match xs with
  | [.str z] => if z.length ≤ sizeLine then .ok (.ref μ.length) (μ ++ [.lst (signs z)]) else .bad
  | _ => vListA xs μ
theorem oc_listB {X : Cx} {W : EW} (hcm : X.calm = true) : OC X W (.type "list") vListB := oc1_of fun pins s σ H xs us Q ρ μ ps I r rp t h => by
  have plain : Post X.prog X.w X.K W ρ H (vListA ps μ) (RV X.K) Q → wpAny (model X.prog X.w) X.A (call (.type "list") us) (EP X pins σ Q) X.xe s := fun h => oc_listA (W := W) hcm pins s σ H _ us Q I r ⟨ρ, μ, ps, rp, t, h⟩
  cases rp with
  | nil => exact h.elim
  | @cons p x _ _ r1 r2 =>
    cases r2 with
    | cons _ _ => cases r1 <;> exact plain h
    | nil =>
      cases r1 with
      | str z =>
        have h2 : Post X.prog X.w X.K W ρ H (if z.length ≤ sizeLine then .ok (.ref μ.length) (μ ++ [.lst (signs z)]) else .bad) (RV X.K) Q := h
        by_cases c : z.length ≤ sizeLine
        · rw [if_pos c] at h2
          obtain ⟨u, rfl, rx⟩ := vals1 r
          obtain ⟨tk, rfl⟩ : ∃ tk, u = Value.str z tk := rx
          refine call_list_str (I.ok.hd hcm) z tk (fun h' tk' acc c' kp e' ha => ?_) c
          have hn : H s.heap.objs.size = none := I.hok.fresh (Nat.le_refl _)
          have hv : Vals (z.cps.toList.map fun c => V.str ⟨#[c]⟩) acc.toList := signs_vals _ _ (by rw [Array.length_toList, Array.length_toList]; exact ha.1) fun j v hj => by
            obtain ⟨c, u, h1, h2⟩ := ha.2 j v (by rw [← Array.getElem?_toList]; exact hj)
            exact ⟨c, u, by rw [Array.getElem?_toList]; exact h1, h2⟩
          refine ⟨.ref s.heap.objs.size, _, I.laid (t' := tk') (o := .lst (z.cps.toList.map fun c => V.str ⟨#[c]⟩)) kp (Nat.le_refl _) ⟨?_, acc.toList, c', hv, ?_⟩, rfl, ok_lst t (signs_rvs _) hn h2⟩
          · rw [List.length_map, Array.length_toList]
            exact c
          · rw [Array.toArray_toList]
            exact e'
        · rw [if_neg c] at h2
          exact h2.elim
      | _ => exact plain h
/-! ### promises in short -/
structure Has (P : Program) (w : World) (K : PySem.W.Frag) (mg : Str → Option Value) (base : Heap) (k : Nat) (f : Addr) (ps : List Str) (F : VF) : Prop where
  ex : ∃ fd, Binds K fd ps [] ∧ FnOk P w K mg base CX0 k f fd ps (spD P w K ps.length F)
  kp : PySem.W.keepIn K (.ref f) = true
  ar : Ar ps.length F
structure HasG (P : Program) (w : World) (K : PySem.W.Frag) (mg : Str → Option Value) (base : Heap) (k : Nat) (f : Addr) (ps : List Str) (F : VF) : Prop where
  ex : ∃ fd, Binds K fd ps [] ∧ FnG P w K mg base k f fd ps (spD P w K ps.length F)
  kp : PySem.W.keepIn K (.ref f) = true
  ar : Ar ps.length F
section
variable {P : Program} {w : World} {K : PySem.W.Frag} {mg : Str → Option Value} {base : Heap} {x qual : Str} {st : Stmt} {f : Addr} {fd : FuncData} {N ps : List Str} {k : Nat} {d : DS} {kws : List (Str × V)}
theorem has_of {np nn : Nat} (hp : ps.length = np) (hn : N.length = nn) (F : ∃ fd, FunD K x qual (defArgs st) (defBody st) (defScope st) [] kws f fd) (S : FnScope N ps (defScope st))
    (hb : ∀ (kV doc pm : Value) (an : Option Addr) (cdv ct : Value) (us : List Value), us.length = ps.length → bindArgs (PySem.W.fnOf x qual (defArgs st) (defBody st) (defScope st) .none kV doc pm an cdv ct) ⟨us, []⟩ = pure (ps.zip us))
    (h : ∀ (cdv : Value) (A : Around) (outer : List Env) (s : Shared) (H : Hp) (E : XK), Room k (A.deeper (envOfC qual (defScope st) s.heap.objs.size f cdv)) →
      LSs (cxOf CX0 P w K mg base N qual (defScope st) f cdv A outer s H E).nox EW0 (defBody st) d) : Has P w K mg base (k + 1) f ps (fnBody np nn d) := by
  subst hp hn
  exact let ⟨fd, F⟩ := F
  ⟨⟨fd, (He5.fun_of F).binds hb, fn_ok (He5.fun_of F) S h⟩, F.kp, fnBody_ar⟩
theorem hasG_of {np nn : Nat} (hp : ps.length = np) (hn : N.length = nn) (F : ∃ fd, FunD K x qual (defArgs st) (defBody st) (defScope st) [] kws f fd) (S : FnScope N ps (defScope st))
    (hb : ∀ (kV doc pm : Value) (an : Option Addr) (cdv ct : Value) (us : List Value), us.length = ps.length → bindArgs (PySem.W.fnOf x qual (defArgs st) (defBody st) (defScope st) .none kV doc pm an cdv ct) ⟨us, []⟩ = pure (ps.zip us))
    (h : ∀ (cdv : Value) (A : Around) (outer : List Env) (s : Shared) (H : Hp) (E : XK), A.guards = some [] → Room k (A.deeper (envOfC qual (defScope st) s.heap.objs.size f cdv)) →
      LSs (cxOf CX0 P w K mg base N qual (defScope st) f cdv A outer s H E).nox EW0 (defBody st) d) : HasG P w K mg base (k + 1) f ps (fnBody np nn d) := by
  subst hp hn
  exact let ⟨fd, F⟩ := F
  ⟨⟨fd, (He5.fun_of F).binds hb, fn_g (He5.fun_of F) S h⟩, F.kp, fnBody_ar⟩
theorem lawG_of {np nn : Nat} (hp : ps.length = np) (hn : N.length = nn) (F : FunD K x qual (defArgs st) (defBody st) (defScope st) [] kws f fd) (S : FnScope N ps (defScope st))
    (h : ∀ (cdv : Value) (A : Around) (outer : List Env) (s : Shared) (H : Hp) (E : XK), A.guards = some [] → Room k (A.deeper (envOfC qual (defScope st) s.heap.objs.size f cdv)) →
      LSs (cxOf CX0 P w K mg base N qual (defScope st) f cdv A outer s H E).nox EW0 (defBody st) d) : FnG P w K mg base (k + 1) f fd ps (spD P w K np (fnBody np nn d)) := by
  subst hp hn
  exact fn_g (He5.fun_of F) S h
theorem Has.apart {F : VF} (h : Has P w K mg base k f ps F) : Has P w K mg base k f ps (vApart F) :=
  let ⟨⟨fd, b, G⟩, kp, ar⟩ := h
  ⟨⟨fd, b, fn_apart G⟩, kp, apart_ar ar⟩
theorem HasG.apart {F : VF} (h : HasG P w K mg base k f ps F) : HasG P w K mg base k f ps (vApart F) :=
  let ⟨⟨fd, b, G⟩, kp, ar⟩ := h
  ⟨⟨fd, b, ⟨fun vs H Q E h => h.1, fun A outer s H args us vs Q E a b c d e z => G.run A outer s H args us vs Q E a b c d e ⟨z.1, apart_of z.2⟩⟩⟩, kp, apart_ar ar⟩
theorem Has.g {F : VF} (h : Has P w K mg base k f ps F) : HasG P w K mg base k f ps F :=
  let ⟨⟨fd, b, G⟩, kp, ar⟩ := h
  ⟨⟨fd, b, .of G⟩, kp, ar⟩
end
section
variable {X : Cx} {k n : Nat} {f C g p0 : Addr} {ps : List Str} {F : VF} {x m : Str} {p pos apos : Pos} {e o : Expr} {es : List Expr} {ds : DA} {d : DE}
theorem leh_call (h : Has X.prog X.w X.K X.mg X.base k f ps F) (hr : Room k X.A) (hg : Gl X x) (hm : X.mg x = some (.ref f)) (ha : LA X EW0 (e :: es) ds)
    (hdb : (x == ("__debug__" : Str)) = false := by decide) (he : starEach (e :: es) X.env = (false, eval e X.env) :: starEach es X.env := by rfl) (hpl : (backTo pos (starEach es X.env)).any (·.1) = false := by rfl) :
    LE X EW0 (.Call (.Name x p) (e :: es) [] pos) (dApp F ds) :=
  let ⟨⟨_, b, G⟩, kp, ar⟩ := h
  le_call G ar hr hg hm kp b ha hdb he hpl
theorem leh_call0 (h : Has X.prog X.w X.K X.mg X.base k f ps F) (hr : Room k X.A) (hg : Gl X x) (hm : X.mg x = some (.ref f)) (hdb : (x == ("__debug__" : Str)) = false := by decide) : LE X EW0 (.Call (.Name x p) [] [] pos) (dApp F dNil) :=
  let ⟨⟨_, b, G⟩, kp, ar⟩ := h
  le_call0 G ar hr hg hm kp b hdb
theorem leh_callG (h : HasG X.prog X.w X.K X.mg X.base k f ps F) (quiet : X.A.guards = some []) (hr : Room k X.A) (hg : Gl X x) (hm : X.mg x = some (.ref f)) (ha : LA X EW0 (e :: es) ds)
    (hdb : (x == ("__debug__" : Str)) = false := by decide) (he : starEach (e :: es) X.env = (false, eval e X.env) :: starEach es X.env := by rfl) (hpl : (backTo pos (starEach es X.env)).any (·.1) = false := by rfl) :
    LE X EW0 (.Call (.Name x p) (e :: es) [] pos) (dApp F ds) :=
  let ⟨⟨_, b, G⟩, kp, ar⟩ := h
  le_callG G ar quiet hr hg hm kp b ha hdb he hpl
theorem leh_meth {pl : Sem Bool} (ho : LE X EW0 o d) (c : Cls X.K C) (hm : Meth X.K C m f) (h : Has X.prog X.w X.K X.mg X.base k f ps F) (hr : Room k X.A) (ha : LA X EW0 (e :: es) ds)
    (hst : starEach (e :: es) X.env = (false, eval e X.env) :: starEach es X.env := by rfl) (hpl : (backTo pos (starEach es X.env)).any (·.1) = false := by rfl)
    (ht : eval (.Call (.Attribute o m apos) (e :: es) [] pos) X.env = (do
      let ov ← eval o X.env
      standAt apos.atName
      let (f, first) ← holding [ov] (getMethod ov m pl)
      callWith pos f first (backTo pos (starEach (e :: es) X.env)) (backToKw pos (keywordEach [] X.env))) := by rfl) : LE X EW0 (.Call (.Attribute o m apos) (e :: es) [] pos) (dMeth C m F d ds) :=
  let ⟨⟨_, b, G⟩, kp, ar⟩ := h
  le_meth ho c hm G ar hr b ha hst hpl ht
theorem leh_meth0 {pl : Sem Bool} (ho : LE X EW0 o d) (c : Cls X.K C) (hm : Meth X.K C m f) (h : Has X.prog X.w X.K X.mg X.base k f ps F) (hr : Room k X.A)
    (ht : eval (.Call (.Attribute o m apos) [] [] pos) X.env = (do
      let ov ← eval o X.env
      standAt apos.atName
      let (f, first) ← holding [ov] (getMethod ov m pl)
      callWith pos f first (backTo pos (starEach [] X.env)) (backToKw pos (keywordEach [] X.env))) := by rfl) : LE X EW0 (.Call (.Attribute o m apos) [] [] pos) (dMeth C m F d dNil) :=
  let ⟨⟨_, b, G⟩, kp, ar⟩ := h
  le_meth0 ho c hm G ar hr b ht
theorem leh_make (M : Mk X.K C f) (h : Has X.prog X.w X.K X.mg X.base k f ps F) (hr : Room (k + 1) X.A) (hg : Gl X x) (hm : X.mg x = some (.ref C)) (ha : LA X EW0 (e :: es) ds)
    (hdb : (x == ("__debug__" : Str)) = false := by decide) (he : starEach (e :: es) X.env = (false, eval e X.env) :: starEach es X.env := by rfl) (hpl : (backTo pos (starEach es X.env)).any (·.1) = false := by rfl) :
    LE X EW0 (.Call (.Name x p) (e :: es) [] pos) (dApp (vMake C F) ds) :=
  let ⟨⟨_, b, G⟩, kp, ar⟩ := h
  le_make M G ar hr hg hm b ha hdb he hpl
theorem leh_make0 (M : Mk X.K C f) (h : Has X.prog X.w X.K X.mg X.base k f ps F) (hr : Room (k + 1) X.A) (hg : Gl X x) (hm : X.mg x = some (.ref C)) (hdb : (x == ("__debug__" : Str)) = false := by decide) : LE X EW0 (.Call (.Name x p) [] [] pos) (dApp (vMake C F) dNil) :=
  let ⟨⟨_, b, G⟩, kp, ar⟩ := h
  le_make0 M G ar hr hg hm b hdb
theorem leh_prop (ho : LE X EW0 e d) (c : Cls X.K C) (hp : PropOf X.K C m p0 g) (h : Has X.prog X.w X.K X.mg X.base k g ps F) (hr : Room (k + 1) X.A)
    (hab : attributeBase e m X.env (eval e X.env) = eval e X.env := by rfl) : LE X EW0 (.Attribute e m pos) (dApp (vProp C F) (dCons d dNil)) :=
  let ⟨⟨_, b, G⟩, kp, ar⟩ := h
  le_prop ho c hp G ar hr b hab
theorem oh_in (hm : Meth X.K C "__contains__" f) (h : Has X.prog X.w X.K X.mg X.base k f ps F) (hr : Room k X.A) : O2 X EW0 (compareOp .In) (vInO C F) :=
  let ⟨⟨_, b, G⟩, kp, ar⟩ := h
  o2_inO hm G ar hr b
theorem leh_item {a b : Expr} {d1 d2 : DE} (hm : Meth X.K C "__getitem__" f) (hfn : PySem.W.fnIn X.K f = true) (h : Has X.prog X.w X.K X.mg X.base k f ps F) (hr : Room (k + 1) X.A)
    (h1 : LE X EW0 a d1) (h2 : LE X EW0 b d2) (hsl : ∀ o i, subscripted b true o i = runValue (.builtin "lifetime.subscript" ⟨[o, i], []⟩) := by intro _ _; rfl) : LE X EW0 (.Subscript a b pos) (dApp (vItemO C F) (dCons d1 (dCons d2 dNil))) :=
  let ⟨⟨_, bb, G⟩, kp, ar⟩ := h
  le_itemO hm hfn G ar hr bb h1 h2 hsl
end

/-! ### what stands behind the top: a Hook of tests and defs -/
abbrev ExL := List (PySem.W.Frag → Bool)
def obsM (ex : ExL) (fn : List He5.DefA) (K : PySem.W.Frag) : He.AlD := ((ex.all fun e => e K) && fn.all fun d => d.ok K, fn.map fun d => He5.fnA K (d.at_ K))
def valM (fn : List He5.DefA) : He.AlD := (true, fn.map He5.DefA.val)
def SaysM (ex : ExL) (fn : List He5.DefA) (K : PySem.W.Frag) : Prop := obsM ex fn K = valM fn
def hookM (as : List Addr) (ex : ExL) (fn : List He5.DefA) : PySem.W.Hook where
  α := He.AlD
  obs := fun s => obsM ex fn (He.frG s.heap.get? as)
  val := fun _ => valM fn
  says := fun _ h => ∃ K : PySem.W.Frag, K.In h ∧ SaysM ex fn K
  of := fun _ _ e => ⟨_, He.frG_in, e⟩
  keeps := fun _ _ _ ⟨K, hK, c⟩ k => ⟨K, PySem.W.Frag.In.keeps hK k, c⟩
def obM (as : List Addr) (ex : ExL) (fn : List He5.DefA) (s : PySem.W.SharedT) : He.AlD := obsM ex fn (He.frG (HandSHeadRun.getT s) as)
theorem obM_eq {as : List Addr} {ex : ExL} {fn : List He5.DefA} (s : PySem.W.SharedT) : obM as ex fn s = (hookM as ex fn).obs s.abs := by
  have e : HandSHeadRun.getT s = s.abs.heap.get? := funext (HandSHeadRun.getT_eq s)
  show obsM ex fn (He.frG (HandSHeadRun.getT s) as) = obsM ex fn (He.frG s.abs.heap.get? as)
  rw [e]
/-- the same, lists left out: the script's list is none of them -/
def notLst (q : Addr × Obj) : Bool := match q.2.cls with
  | .type c => !decide (c = "list")
  | _ => true
def frN_ (g : Addr → Option Obj) (as : List Addr) : PySem.W.Frag := (He.frG g as).filter notLst
theorem frN_mem {g : Addr → Option Obj} {as : List Addr} {a : Addr} {o : Obj} (h : (frN_ g as).lookup a = some o) : g a = some o ∧ notLst (a, o) = true := by
  obtain ⟨h1, h2⟩ := List.mem_filter.mp (He.lookup_mem h)
  exact ⟨He.frG_mem h1, h2⟩
def NoLst (K : PySem.W.Frag) : Prop := ∀ a o, K.lookup a = some o → o.cls ≠ .type "list"
theorem noLst_of {g : Addr → Option Obj} {as : List Addr} : NoLst (frN_ g as) := fun a o h e => by
  have h2 := (frN_mem h).2
  unfold notLst at h2
  rw [show ((a, o) : Addr × Obj).2.cls = Value.type "list" from e] at h2
  simp at h2
def hookN (as : List Addr) (ex : ExL) (fn : List He5.DefA) : PySem.W.Hook where
  α := He.AlD
  obs := fun s => obsM ex fn (frN_ s.heap.get? as)
  val := fun _ => valM fn
  says := fun _ h => ∃ K : PySem.W.Frag, K.In h ∧ NoLst K ∧ SaysM ex fn K
  of := fun _ _ e => ⟨_, fun _ _ h => (frN_mem h).1, noLst_of, e⟩
  keeps := fun _ _ _ ⟨K, hK, n, c⟩ k => ⟨K, PySem.W.Frag.In.keeps hK k, n, c⟩
def obN (as : List Addr) (ex : ExL) (fn : List He5.DefA) (s : PySem.W.SharedT) : He.AlD := obsM ex fn (frN_ (HandSHeadRun.getT s) as)
theorem obN_eq {as : List Addr} {ex : ExL} {fn : List He5.DefA} (s : PySem.W.SharedT) : obN as ex fn s = (hookN as ex fn).obs s.abs := by
  have e : HandSHeadRun.getT s = s.abs.heap.get? := funext (HandSHeadRun.getT_eq s)
  show obsM ex fn (frN_ (HandSHeadRun.getT s) as) = obsM ex fn (frN_ s.abs.heap.get? as)
  rw [e]
section
variable {ex : ExL} {fn : List He5.DefA} {K : PySem.W.Frag}
theorem SaysM.ok (c : SaysM ex fn K) (i : Nat) {f : PySem.W.Frag → Bool} (h : ex[i]? = some f) : f K = true := by
  have c1 := (He.ba (show ((ex.all fun e => e K) && fn.all fun d => d.ok K) = true from congrArg (fun z : He.AlD => z.1) c)).1
  exact List.all_eq_true.mp c1 f (List.mem_of_getElem? h)
theorem SaysM.def_ (c : SaysM ex fn K) (i : Nat) {d : He5.DefA} (h : fn[i]? = some d) : ∃ fd, L2.FunD K d.name d.qual d.params d.body d.scope (d.dvs K) (d.kws K) (d.at_ K) fd :=
  He5.SaysA.def_ (fa := []) (fn := fn) (by
    have c1 := (He.ba (show ((ex.all fun e => e K) && fn.all fun d => d.ok K) = true from congrArg (fun z : He.AlD => z.1) c)).2
    have c2 : fn.map (fun d => He5.fnA K (d.at_ K)) = fn.map He5.DefA.val := congrArg (fun z : He.AlD => z.2) c
    show He5.obsA [] fn K = He5.valA fn
    exact Prod.ext (by show (true && fn.all fun d => d.ok K) = true; rw [c1]; rfl) c2) i h
end
/-- a property's getter -/
def getterOf (K : PySem.W.Frag) (C : Addr) (m : Str) : Addr := match PySem.W.recIn K (He.ma K C m) "property" with
  | some (.ref g :: _) => g
  | _ => 0
def propB (C : Addr) (m : Str) (K : PySem.W.Frag) : Bool := He.eqO (PySem.W.findIn K (.ref C) m) (some (some (.ref (He.ma K C m)))) && (He.eqO (PySem.W.specialIn K (.ref (He.ma K C m)) "__get__") (some (some (.builtin "property.__get__"))) &&
  (decide (PySem.W.takesIn K (.ref (He.ma K C m)) = some true) && (match PySem.W.recIn K (He.ma K C m) "property" with
    | some (.ref _ :: _) => true
    | _ => false)))
theorem propB_ok {C : Addr} {m : Str} {K : PySem.W.Frag} (h : propB C m K = true) : PropOf K C m (He.ma K C m) (getterOf K C m) := by
  obtain ⟨h1, h⟩ := He.ba h
  obtain ⟨h2, h⟩ := He.ba h
  obtain ⟨h3, h4⟩ := He.ba h
  refine ⟨He.eqO_ok h1, He.eqO_ok h2, of_decide_eq_true h3, ?_⟩
  unfold getterOf
  split at h4
  · rename_i g r e
    exact ⟨r, by rw [e]⟩
  · cases h4
def clsB (C : Addr) (K : PySem.W.Frag) : Bool := PySem.W.plainGet K C Str.empty && (PySem.W.hasDictIn K C && (PySem.W.plainOver K C && He.eqO (PySem.W.findIn K (.ref C) "__setattr__") (some (some (.builtin "object.__setattr__")))))
theorem clsB_ok {C : Addr} {K : PySem.W.Frag} (c : clsB C K = true) : Cls K C := by
  obtain ⟨c1, c⟩ := He.ba c
  obtain ⟨c2, c⟩ := He.ba c
  obtain ⟨c3, c4⟩ := He.ba c
  exact ⟨c1, c2, c3, He.eqO_ok c4⟩
def noatB (C : Addr) (f : Str) (K : PySem.W.Frag) : Bool := He.eqO (PySem.W.findIn K (.ref C) f) (some none)
theorem noatB_ok {C : Addr} {f : Str} {K : PySem.W.Frag} (c : noatB C f K = true) : NoAttr K C f := He.eqO_ok c
def methB (C : Addr) (m : Str) (K : PySem.W.Frag) : Bool := He.eqO (PySem.W.findIn K (.ref C) m) (some (some (.ref (He.ma K C m)))) && (PySem.W.isFn K (.ref (He.ma K C m)) && PySem.W.keepIn K (.ref (He.ma K C m)))
theorem methB_ok {C : Addr} {m : Str} {K : PySem.W.Frag} (c : methB C m K = true) : Meth K C m (He.ma K C m) := by
  obtain ⟨c1, c⟩ := He.ba c
  obtain ⟨c2, c3⟩ := He.ba c
  exact ⟨He.eqO_ok c1, c2, c3⟩
def mkB (C : Addr) (K : PySem.W.Frag) : Bool := PySem.W.makesIn K C && (He.eqO (PySem.W.findIn K (.ref C) "__init__") (some (some (.ref (He.ma K C "__init__")))) && (PySem.W.isFn K (.ref (He.ma K C "__init__")) && PySem.W.keepIn K (.ref C)))
theorem mkB_ok {C : Addr} {K : PySem.W.Frag} (c : mkB C K = true) : Mk K C (He.ma K C "__init__") := by
  obtain ⟨c1, c⟩ := He.ba c
  obtain ⟨c2, c⟩ := He.ba c
  obtain ⟨c3, c4⟩ := He.ba c
  exact ⟨c1, He.eqO_ok c2, c3, c4⟩
/-- the module's name x stands for the object at a -/
def gloB (x : Str) (a : Addr) (K : PySem.W.Frag) : Bool := He.eqO (PySem.W.nsIn K mainGlobals x) (some (some (.ref a)))
theorem gloB_ok {K : PySem.W.Frag} {h : Heap} {mg : Str → Option Value} (X : K.In h) (G : h.Ns mainGlobals mg) {x : Str} {a : Addr} (c : gloB x a K = true) : mg x = some (.ref a) := PySem.W.mg_of X G (He.eqO_ok c)
def faB (f : He.Fa) (K : PySem.W.Frag) : Bool := f.ok K
end DL
/-! D32: the same functions for the kernel's own reckoning: what is handed on is reckoned first; texts as lists; calls apart met again -/
namespace DL
open PySem PySem.Spec PyProof.Rows L2
section
variable {α β : Type}
noncomputable def frN (n : Nat) (k : Nat → β) : β := match n with
  | 0 => k 0
  | m + 1 => k (Nat.succ m)
theorem frN_eq (n : Nat) (k : Nat → β) : frN n k = k n := by cases n <;> rfl
noncomputable def frI (i : Int) (k : Int → β) : β := match i with
  | .ofNat n => frN n fun m => k (.ofNat m)
  | .negSucc n => frN n fun m => k (.negSucc m)
theorem frI_eq (i : Int) (k : Int → β) : frI i k = k i := by cases i <;> simp only [frI, frN_eq]
noncomputable def frL (xs : List α) : (List α → β) → β := List.rec (motive := fun _ => (List α → β) → β) (fun k => k []) (fun x _ ih k => ih fun ys => k (x :: ys)) xs
theorem frL_eq : ∀ (xs : List α) (k : List α → β), frL xs k = k xs
  | [], _ => rfl
  | x :: xs, k => (frL_eq xs fun ys => k (x :: ys))
noncomputable def frLf (f : α → (α → β) → β) (xs : List α) : (List α → β) → β := List.rec (motive := fun _ => (List α → β) → β) (fun k => k []) (fun x _ ih k => f x fun y => ih fun ys => k (y :: ys)) xs
theorem frLf_eq {f : α → (α → β) → β} (h : ∀ x k, f x k = k x) : ∀ (xs : List α) (k : List α → β), frLf f xs k = k xs
  | [], _ => rfl
  | x :: xs, k => (h x fun y => frLf f xs fun ys => k (y :: ys)).trans (frLf_eq h xs fun ys => k (x :: ys))
noncomputable def frS (x : Str) (k : Str → β) : β := frLf frN x.cps.toList fun l => k ⟨⟨l⟩⟩
theorem frS_eq (x : Str) (k : Str → β) : frS x k = k x := by
  unfold frS
  rw [frLf_eq frN_eq]
noncomputable def fr1 (p : PV) (k : PV → β) : β := match p with
  | .int i => frI i fun j => k (.int j)
  | .str x => frS x fun y => k (.str y)
  | .tup ps => frL ps fun qs => k (.tup qs)
  | .ref i => frN i fun j => k (.ref j)
  | p => k p
theorem fr1_eq (p : PV) (k : PV → β) : fr1 p k = k p := by
  cases p <;> simp only [fr1, frI_eq, frS_eq, frL_eq, frN_eq]
noncomputable def frP : Nat → PV → (PV → β) → β
  | 0, p, k => fr1 p k
  | n + 1, p, k => match p with
    | .tup ps => frLf (frP n) ps fun qs => k (.tup qs)
    | p => fr1 p k
theorem frP_eq : ∀ (n : Nat) (p : PV) (k : PV → β), frP n p k = k p
  | 0, p, k => fr1_eq p k
  | n + 1, p, k => by
    cases p <;> simp only [frP, frLf_eq (frP_eq n), fr1_eq]
/-- an object: its spine, its items -/
noncomputable def frO (o : MObj) (k : MObj → β) : β := match o with
  | .lst ps => frLf fr1 ps fun qs => k (.lst qs)
  | .rol ps => k (.rol ps)
  | .dct kvs => frLf (fun q k => fr1 q.1 fun a => fr1 q.2 fun b => k (a, b)) kvs fun l => k (.dct l)
  | .ins C fs => frLf (fun q k => fr1 q.2 fun b => k (q.1, b)) fs fun l => k (.ins C l)
theorem frO_eq (o : MObj) (k : MObj → β) : frO o k = k o := by
  cases o with
  | lst ps => simp only [frO, frLf_eq fr1_eq]
  | rol ps => rfl
  | dct kvs =>
    have e : ∀ (q : PV × PV) (k : PV × PV → β), (fr1 q.1 fun a => fr1 q.2 fun b => k (a, b)) = k q := fun q k => by rw [fr1_eq, fr1_eq]
    simp only [frO, frLf_eq e]
  | ins C fs =>
    have e : ∀ (q : Str × PV) (k : Str × PV → β), (fr1 q.2 fun b => k (q.1, b)) = k q := fun q k => by rw [fr1_eq]
    simp only [frO, frLf_eq e]
/-- the object at i, and the way to it -/
noncomputable def frAt (n : Nat) (μ : Sto) (k : Sto → β) : β := List.rec (motive := fun _ => Nat → (Sto → β) → β) (fun _ k => k []) (fun o r ih n k => Nat.rec (motive := fun _ => β) (frO o fun o' => k (o' :: r)) (fun m _ => ih m fun μ' => k (o :: μ')) n) μ n k
theorem frAt_eq : ∀ (n : Nat) (μ : Sto) (k : Sto → β), frAt n μ k = k μ
  | 0, [], _ => rfl
  | _ + 1, [], _ => rfl
  | 0, o :: μ, k => frO_eq o fun o' => k (o' :: μ)
  | n + 1, o :: μ, k => frAt_eq n μ fun μ' => k (o :: μ')
noncomputable def frR (p : PV) (μ : Sto) : Rz PV := match p with
  | .ref i => frN i fun j => frAt j μ fun μ' => .ok (.ref j) μ'
  | p => fr1 p fun q => .ok q μ
theorem frR_eq (p : PV) (μ : Sto) : frR p μ = .ok p μ := by
  cases p <;> simp only [frR, frAt_eq, fr1_eq, frN_eq]
end
/-- what comes back is reckoned -/
noncomputable def fres (f : VF) : VF := fun xs μ => match f xs μ with
  | .ok p μ' => frR p μ'
  | .err C v μ' => .err C v μ'
  | .bad => .bad
theorem fres_eq (f : VF) : fres f = f := by
  funext xs μ
  unfold fres
  cases f xs μ with
  | ok p μ' => exact frR_eq p μ'
  | _ => rfl
/-- what was changed is reckoned: the first one -/
noncomputable def fmut (f : VF) : VF := fun xs μ => match f xs μ with
  | .ok p μ' => match xs with
    | .ref i :: _ => frAt i μ' fun μ'' => fr1 p fun q => .ok q μ''
    | _ => .ok p μ'
  | .err C v μ' => .err C v μ'
  | .bad => .bad
theorem fmut_eq (f : VF) : fmut f = f := by
  funext xs μ
  unfold fmut
  cases f xs μ with
  | ok p μ' =>
    show (match xs with | .ref i :: _ => frAt i μ' fun μ'' => fr1 p fun q => Rz.ok q μ'' | _ => Rz.ok p μ') = _
    split
    · rw [frAt_eq, fr1_eq]
    · rfl
  | _ => rfl

noncomputable def dres (d : DE) : DE := fun η μ => match d η μ with
  | .ok p μ' => frR p μ'
  | .err C v μ' => .err C v μ'
  | .bad => .bad
theorem dres_eq (d : DE) : dres d = d := by
  funext η μ
  unfold dres
  cases d η μ with
  | ok p μ' => exact frR_eq p μ'
  | _ => rfl

/-! ### texts -/
noncomputable def eqN (a : List Nat) : List Nat → Bool := List.rec (motive := fun _ => List Nat → Bool) (fun b => List.rec (motive := fun _ => Bool) true (fun _ _ _ => false) b)
  (fun x _ ih b => List.rec (motive := fun _ => Bool) false (fun y ys _ => Bool.rec (motive := fun _ => Bool) false (ih ys) (Nat.beq x y)) b) a
theorem eqN_iff : ∀ {a b : List Nat}, eqN a b = true ↔ a = b
  | [], [] => ⟨fun _ => rfl, fun _ => rfl⟩
  | [], _ :: _ => ⟨fun h => (by cases h), fun h => (by cases h)⟩
  | _ :: _, [] => ⟨fun h => (by cases h), fun h => (by cases h)⟩
  | x :: xs, y :: ys => by
    show (Bool.rec (motive := fun _ => Bool) false (eqN xs ys) (Nat.beq x y) : Bool) = true ↔ _
    cases e : Nat.beq x y with
    | true =>
      have e2 := Nat.eq_of_beq_eq_true e
      subst e2
      show eqN xs ys = true ↔ _
      rw [eqN_iff]
      simp
    | false =>
      have e2 := Nat.ne_of_beq_eq_false e
      refine ⟨fun h => (by cases h), fun h => ?_⟩
      injection h with h1 h2
      exact absurd h1 e2
noncomputable def eqS (x y : Str) : Bool := eqN x.cps.toList y.cps.toList
theorem eqS_iff {x y : Str} : eqS x y = true ↔ x = y := by
  unfold eqS
  rw [eqN_iff]
  obtain ⟨⟨a⟩⟩ := x
  obtain ⟨⟨b⟩⟩ := y
  simp
theorem eqS_eq (x y : Str) : eqS x y = (x == y) := Bool.eq_iff_iff.mpr (eqS_iff.trans beq_iff_eq.symm)
noncomputable def okN (l : List Nat) : Bool := List.rec (motive := fun _ => Bool) true (fun c _ ih => Bool.rec (motive := fun _ => Bool) ih false (Nat.ble 0x110000 c)) l
theorem okN_eq : ∀ l : List Nat, okN l = l.all (· < 0x110000)
  | [] => rfl
  | c :: r => by
    show (Bool.rec (motive := fun _ => Bool) (okN r) false (Nat.ble 0x110000 c) : Bool) = _
    cases e : Nat.ble 0x110000 c with
    | true =>
      have := Nat.le_of_ble_eq_true e
      simp [List.all_cons, show ¬ c < 0x110000 by omega]
    | false =>
      have : ¬ 0x110000 ≤ c := fun h => by rw [Nat.ble_eq_true_of_le h] at e; cases e
      simp only [List.all_cons, okN_eq r]
      simp [show c < 0x110000 by omega]
noncomputable def okS (x : Str) : Bool := okN x.cps.toList
theorem okS_eq (x : Str) : okS x = PyData.strOk x := by
  unfold okS PyData.strOk
  rw [okN_eq]
  simp
theorem shaped_str (x : Str) : SeqAt.shaped (.str x) = okS x := by
  rw [okS_eq]
  simp [SeqAt.shaped, PyData.canLay0, PyData.depth]
/-! ### == -/
noncomputable def vEqF : VF := fun xs μ => match xs with
  | [.str a, .str b] => if (okS a && okS b) = true then .ok (.bl (eqS a b)) μ else .bad
  | [.int i, .int j] => .ok (.bl (decide (i = j))) μ
  | xs => vEqA xs μ
noncomputable def vNeF : VF := fun xs μ => match xs with
  | [.str a, .str b] => if (okS a && okS b) = true then .ok (.bl (!eqS a b)) μ else .bad
  | [.int i, .int j] => .ok (.bl (!decide (i = j))) μ
  | xs => vNeA xs μ
theorem vEqF_eq : vEqF = vEqA := by
  funext xs μ
  unfold vEqF
  split
  · rename_i a b
    show _ = (match pdat μ 12 (.str a), pdat μ 12 (.str b) with | some d, some e => if (SeqAt.shaped d && SeqAt.shaped e) = true then Rz.ok (PV.bl (PyData.eqv d e)) μ else .bad | _, _ => .bad)
    rw [pdat, pdat]
    simp only [shaped_str, eqS_eq, PyData.eqv]
  · rename_i i j
    show _ = (match pdat μ 12 (.int i), pdat μ 12 (.int j) with | some d, some e => if (SeqAt.shaped d && SeqAt.shaped e) = true then Rz.ok (PV.bl (PyData.eqv d e)) μ else .bad | _, _ => .bad)
    rw [pdat, pdat]
    simp [SeqAt.shaped, PyData.canLay0, PyData.depth, PyData.eqv]
    rw [Bool.eq_iff_iff]
    simp
  · rfl
theorem vNeF_eq : vNeF = vNeA := by
  funext xs μ
  unfold vNeF
  split
  · rename_i a b
    show _ = (match pdat μ 12 (.str a), pdat μ 12 (.str b) with | some d, some e => if (SeqAt.shaped d && SeqAt.shaped e) = true then Rz.ok (PV.bl (!PyData.eqv d e)) μ else .bad | _, _ => .bad)
    rw [pdat, pdat]
    simp only [shaped_str, eqS_eq, PyData.eqv]
  · rename_i i j
    show _ = (match pdat μ 12 (.int i), pdat μ 12 (.int j) with | some d, some e => if (SeqAt.shaped d && SeqAt.shaped e) = true then Rz.ok (PV.bl (!PyData.eqv d e)) μ else .bad | _, _ => .bad)
    rw [pdat, pdat]
    simp [SeqAt.shaped, PyData.canLay0, PyData.depth, PyData.eqv]
    rw [Bool.eq_iff_iff]
    simp
  · rfl
/-! ### dicts -/
noncomputable def eqK (a b : PV) : Bool := match a, b with
  | .str x, .str y => eqS x y
  | .int i, .int j => decide (i = j)
  | .tup [.str x, .str x'], .tup [.str y, .str y'] => match eqS x y with
    | true => eqS x' y'
    | false => false
  | a, b => decide (a = b)
theorem eqK_eq (a b : PV) : eqK a b = decide (a = b) := by
  unfold eqK
  split
  · rename_i x y
    rw [Bool.eq_iff_iff, eqS_iff, decide_eq_true_eq]
    exact ⟨fun h => by rw [h], fun h => by injection h⟩
  · rename_i i j
    rw [Bool.eq_iff_iff, decide_eq_true_eq, decide_eq_true_eq]
    exact ⟨fun h => by rw [h], fun h => by injection h⟩
  · rename_i x x' y y'
    have e : (match eqS x y with | true => eqS x' y' | false => false) = (eqS x y && eqS x' y') := by cases eqS x y <;> rfl
    rw [e, Bool.eq_iff_iff, Bool.and_eq_true, eqS_iff, eqS_iff, decide_eq_true_eq]
    refine ⟨fun h => by rw [h.1, h.2], fun h => ?_⟩
    injection h with h
    injection h with h1 h2
    injection h2 with h2 _
    injection h1 with h1
    injection h2 with h2
    exact ⟨h1, h2⟩
  · rfl
noncomputable def dgetF (kvs : List (PV × PV)) (k : PV) : Option PV := List.rec (motive := fun _ => Option PV) none (fun q _ ih => Bool.rec (motive := fun _ => Option PV) ih (some q.2) (eqK q.1 k)) kvs
theorem dgetF_eq : ∀ (kvs : List (PV × PV)) (k : PV), dgetF kvs k = dget kvs k
  | [], _ => rfl
  | q :: r, k => by
    show (Bool.rec (motive := fun _ => Option PV) (dgetF r k) (some q.2) (eqK q.1 k) : Option PV) = _
    rw [eqK_eq]
    unfold dget
    rw [List.find?_cons]
    cases decide (q.1 = k) with
    | true => rfl
    | false => exact dgetF_eq r k
noncomputable def anyK (kvs : List (PV × PV)) (k : PV) : Bool := List.rec (motive := fun _ => Bool) false (fun q _ ih => Bool.rec (motive := fun _ => Bool) ih true (eqK q.1 k)) kvs
theorem anyK_eq : ∀ (kvs : List (PV × PV)) (k : PV), anyK kvs k = kvs.any fun kv => decide (kv.1 = k)
  | [], _ => rfl
  | q :: r, k => by
    show (Bool.rec (motive := fun _ => Bool) (anyK r k) true (eqK q.1 k) : Bool) = _
    rw [eqK_eq, List.any_cons]
    cases decide (q.1 = k) with
    | true => rfl
    | false => exact anyK_eq r k
noncomputable def dputF (kvs : List (PV × PV)) (k v : PV) : List (PV × PV) :=
  if anyK kvs k = true then kvs.map (fun kv => if kv.1 = k then (kv.1, v) else kv) else kvs ++ [(k, v)]
theorem dputF_eq (kvs : List (PV × PV)) (k v : PV) : dputF kvs k v = dput kvs k v := by
  unfold dputF dput
  rw [anyK_eq]
noncomputable def vIxF : VF := fun xs μ => match xs with
  | [.ref i, k] => match dctAt μ i with
    | some kvs => if keyIn kvs k = true then match dgetF kvs k with
        | some v => .ok v μ
        | none => .bad
      else .bad
    | none => vItem [.ref i, k] μ
  | xs => vIx xs μ
theorem vIxF_eq : vIxF = vIx := by
  funext xs μ
  unfold vIxF
  split
  · simp only [dgetF_eq]
    try rfl
  · rfl
noncomputable def vDGetF : VF := fun xs μ => match xs with
  | [.ref i, k, x] => match dctAt μ i with
    | some kvs => if keyIn kvs k = true then .ok ((dgetF kvs k).getD x) μ else .bad
    | none => .bad
  | xs => vDGet xs μ
theorem vDGetF_eq : vDGetF = vDGet := by
  funext xs μ
  unfold vDGetF
  split
  · simp only [dgetF_eq]
    try rfl
  · rfl
/-! ### in -/
noncomputable def memS (x : Str) (l : List Str) : Bool := List.rec (motive := fun _ => Bool) false (fun y _ ih => Bool.rec (motive := fun _ => Bool) ih true (eqS y x)) l
noncomputable def okSs (l : List Str) : Bool := List.rec (motive := fun _ => Bool) true (fun y _ ih => Bool.rec (motive := fun _ => Bool) false ih (okS y)) l
theorem memS_eq (x : Str) : ∀ l : List Str, memS x l = (l.map PyData.str).any fun z => PyData.eqv z (.str x)
  | [] => rfl
  | y :: r => by
    show (Bool.rec (motive := fun _ => Bool) (memS x r) true (eqS y x) : Bool) = _
    rw [List.map_cons, List.any_cons, memS_eq x r, eqS_eq]
    simp only [PyData.eqv]
    cases (y == x) <;> rfl
theorem strsL_pdat {μ : Sto} {n : Nat} : ∀ {ps : List PV} {ys : List Str}, strsL ps = some ys → pdatL (pdat μ (n + 1)) ps = some (ys.map PyData.str)
  | [], _, h => by cases h; rfl
  | p :: ps, ys, h => by
    cases p with
    | str x =>
      obtain ⟨zs, e, rfl⟩ := Option.map_eq_some_iff.mp (show (strsL ps).map (x :: ·) = some ys from h)
      rw [pdatL, strsL_pdat (n := n) e]
      rfl
    | _ => cases h
theorem canLay_strs : ∀ ys : List Str, PyData.canLayAll0 (ys.map PyData.str) = okSs ys
  | [] => rfl
  | y :: r => by
    show _ = (Bool.rec (motive := fun _ => Bool) false (okSs r) (okS y) : Bool)
    rw [List.map_cons, PyData.canLayAll0, canLay_strs r, PyData.canLay0, okS_eq]
    cases PyData.strOk y <;> rfl
theorem depth_strs : ∀ ys : List Str, PyData.depthAll (ys.map PyData.str) = 0
  | [] => rfl
  | y :: r => by
    rw [List.map_cons, PyData.depthAll, depth_strs r, PyData.depth]
    rfl
noncomputable def inF (μ : Sto) (p c : PV) : Option Bool := match c with
  | .tup ps => match p with
    | .str x => match strsL ps with
      | some ys => if (okS x && okSs ys) = true then some (memS x ys) else none
      | none => isIn μ p (.tup ps)
    | p => isIn μ p (.tup ps)
  | .ref i => match dctAt μ i with
    | some kvs => if keyIn kvs p = true then some (dgetF kvs p).isSome else none
    | none => inSeq μ p (.ref i)
  | c => isIn μ p c
theorem inF_eq (μ : Sto) (p c : PV) : inF μ p c = isIn μ p c := by
  unfold inF
  split
  · rename_i ps
    split
    · rename_i x
      split
      · rename_i ys e
        show _ = (match pdat μ 12 (.str x), pdat μ 12 (.tup ps) with
          | some d, some (.list ds) => if (SeqAt.shaped d && SeqAt.shaped (.list ds)) = true then some (ds.any fun z => PyData.eqv z d) else none
          | some d, some (.tuple ds) => if (SeqAt.shaped d && SeqAt.shaped (.tuple ds)) = true then some (ds.any fun z => PyData.eqv z d) else none
          | _, _ => none)
        have e1 : pdat μ 12 (.tup ps) = some (.tuple (ys.map PyData.str)) := by
          show (pdatL (pdat μ 11) ps).map PyData.tuple = _
          rw [strsL_pdat (n := 10) e]
          rfl
        have e2 : pdat μ 12 (.str x) = some (.str x) := rfl
        rw [e1, e2]
        have e3 : SeqAt.shaped (.tuple (ys.map PyData.str)) = okSs ys := by
          simp [SeqAt.shaped, PyData.canLay0, PyData.depth, canLay_strs, depth_strs]
        show _ = (if (SeqAt.shaped (.str x) && SeqAt.shaped (.tuple (ys.map PyData.str))) = true then some ((ys.map PyData.str).any fun z => PyData.eqv z (.str x)) else none)
        rw [e3, shaped_str, memS_eq]
      · rfl
    · rfl
  · rename_i i
    simp only [dgetF_eq]
    try rfl
  · rfl
noncomputable def vInF : VF := fun xs μ => match xs with
  | [p, c] => match inF μ p c with
    | some b => .ok (.bl b) μ
    | none => .bad
  | _ => .bad
noncomputable def vNotInF : VF := fun xs μ => match xs with
  | [p, c] => match inF μ p c with
    | some b => .ok (.bl (!b)) μ
    | none => .bad
  | _ => .bad
theorem vInF_eq : vInF = vIn := by
  funext xs μ
  unfold vInF
  simp only [inF_eq]
  try rfl
theorem vNotInF_eq : vNotInF = vNotIn := by
  funext xs μ
  unfold vNotInF
  simp only [inF_eq]
  try rfl
/-! ### repr of what is bare of numbers -/
theorem pdatL_bare {f g : PV → Option PyData} (h : ∀ p, bareP p = true → f p = g p) : ∀ {ps : List PV}, bareL ps = true → pdatL f ps = pdatL g ps
  | [], _ => rfl
  | p :: ps, hb => by
    rw [bareL, Bool.and_eq_true] at hb
    rw [pdatL, pdatL, h p hb.1, pdatL_bare h hb.2]
theorem pdat_bare {μ : Sto} : ∀ (n : Nat) (p : PV), bareP p = true → pdat μ n p = pdat [] n p
  | 0, p, _ => by cases p <;> rfl
  | n + 1, p, h => by
    cases p with
    | tup ps =>
      rw [bareP] at h
      show (pdatL (pdat μ n) ps).map PyData.tuple = (pdatL (pdat [] n) ps).map PyData.tuple
      rw [pdatL_bare (fun p hp => pdat_bare n p hp) h]
    | ref i => cases h
    | _ => rfl
noncomputable def vReprF : VF := fun xs μ => match xs with
  | [.tup ps] => if bareL ps = true then frP 6 (.tup ps) fun q => match reprD [] q with
      | some z => frS z fun z => .ok (.str z) μ
      | none => .bad
    else vRepr [.tup ps] μ
  | xs => vRepr xs μ
theorem vReprF_eq : vReprF = vRepr := by
  funext xs μ
  unfold vReprF
  split
  · rename_i ps
    split
    · rename_i h
      rw [frP_eq]
      simp only [frS_eq]
      show _ = (match reprD μ (.tup ps) with | some z => Rz.ok (PV.str z) μ | none => .bad)
      unfold reprD
      rw [pdat_bare (μ := μ) 12 (.tup ps) (by rw [bareP]; exact h)]
    · rfl
  · rfl
/-! ### combinators -/
noncomputable def dConsF (d : DE) (ds : DA) : DA := fun η μ => (d η μ).bind fun p μ1 => fr1 p fun p' => (ds η μ1).bind fun ps μ2 => .ok (p' :: ps) μ2
theorem dConsF_eq : dConsF = dCons := by
  funext d ds η μ
  unfold dConsF dCons
  simp only [fr1_eq]
noncomputable def nth {α : Type} (l : List α) : Nat → Option α := List.rec (motive := fun _ => Nat → Option α) (fun _ => none) (fun x _ ih n => Nat.rec (motive := fun _ => Option α) (some x) (fun m _ => ih m) n) l
theorem nth_eq {α : Type} : ∀ (l : List α) (n : Nat), nth l n = l[n]?
  | [], _ => rfl
  | x :: xs, 0 => rfl
  | x :: xs, m + 1 => nth_eq xs m
noncomputable def dVarF (i : Nat) : DE := fun η μ => match nth η i with
  | some (some p) => .ok p μ
  | _ => .bad
theorem dVarF_eq : dVarF = dVar := by
  funext i η μ
  unfold dVarF dVar
  rw [nth_eq]
  try rfl
noncomputable def sSeqF (a b : DS) : DS := fun η μ => (a η μ).bind fun o μ1 => match o.1 with
  | .nx => frL o.2 fun η' => b η' μ1
  | _ => .ok o μ1
theorem sSeqF_eq : sSeqF = sSeq := by
  funext a b η μ
  unfold sSeqF sSeq
  simp only [frL_eq]
  try rfl
noncomputable def sRetF (d : DE) : DS := fun η μ => (d η μ).bind fun p μ1 => fr1 p fun q => .ok (.rt q, η) μ1
theorem sRetF_eq : sRetF = sRet := by
  funext d η μ
  unfold sRetF sRet
  simp only [fr1_eq]
noncomputable def sAsgF (d : DE) (g : DG) : DS := fun η μ => (d η μ).bind fun p μ1 => fr1 p fun q => (g q η μ1).bind fun η' μ2 => .ok (.nx, η') μ2
theorem sAsgF_eq : sAsgF = sAsg := by
  funext d g η μ
  unfold sAsgF sAsg
  simp only [fr1_eq]
noncomputable def forGoF (gd : Sto → Bool) (g : DG) (body : DS) (its : List PV) : Env' → Sto → Rz (Out × Env') := List.rec (motive := fun _ => Env' → Sto → Rz (Out × Env')) (fun η μ => if gd μ = true then .ok (.nx, η) μ else .bad)
  (fun p _ ih η μ => if gd μ = true then fr1 p fun p => (g p η μ).bind fun η1 μ1 => frL η1 fun η1 => (body η1 μ1).bind fun o μ2 => match o.1 with
      | .nx => frL o.2 fun η3 => ih η3 μ2
      | .ct => frL o.2 fun η3 => ih η3 μ2
      | .bk => .ok (.nx, o.2) μ2
      | .rt v => .ok (.rt v, o.2) μ2
    else .bad) its
theorem forGoF_eq (gd : Sto → Bool) (g : DG) (body : DS) : ∀ (its : List PV) (η : Env') (μ : Sto), forGoF gd g body its η μ = forGo gd g body its η μ
  | [], η, μ => rfl
  | p :: rest, η, μ => by
    have ih := forGoF_eq gd g body rest
    show (if gd μ = true then fr1 p fun p => (g p η μ).bind fun η1 μ1 => frL η1 fun η1 => (body η1 μ1).bind fun o μ2 => match o.1 with
      | .nx => frL o.2 fun η3 => forGoF gd g body rest η3 μ2
      | .ct => frL o.2 fun η3 => forGoF gd g body rest η3 μ2
      | .bk => .ok (.nx, o.2) μ2
      | .rt v => .ok (.rt v, o.2) μ2
    else .bad) = _
    unfold forGo
    simp only [fr1_eq, frL_eq, ih]
    try rfl
noncomputable def sForF (di : DI) (g : DG) (body : DS) : DS := fun η μ => (di η μ).bind fun x μ1 => forGoF x.2 g body x.1 η μ1
theorem sForF_eq : sForF = sFor := by
  funext di g body η μ
  unfold sForF sFor
  simp only [forGoF_eq]
noncomputable def lcGoF (gd : Sto → Bool) (g : DG) (tt : DT) (el : Env' → Sto → List PV → Rz (List PV)) (η : Env') (its : List PV) : List PV → Sto → Rz (List PV) := List.rec (motive := fun _ => List PV → Sto → Rz (List PV)) (fun acc μ => if gd μ = true then .ok acc μ else .bad)
  (fun p _ ih acc μ => if gd μ = true then fr1 p fun p => (calmR (g p η μ)).bind fun η1 μ1 => frL η1 fun η1 => (calmR (tt η1 μ1)).bind fun k μ2 =>
      if k = true then (calmR (el η1 μ2 acc)).bind fun acc' μ3 => frL acc' fun acc' => ih acc' μ3
      else ih acc μ2
    else .bad) its
theorem lcGoF_eq (gd : Sto → Bool) (g : DG) (tt : DT) (el : Env' → Sto → List PV → Rz (List PV)) (η : Env') : ∀ (its acc : List PV) (μ : Sto), lcGoF gd g tt el η its acc μ = lcGo gd g tt el η its acc μ
  | [], acc, μ => rfl
  | p :: rest, acc, μ => by
    have ih := lcGoF_eq gd g tt el η rest
    show (if gd μ = true then fr1 p fun p => (calmR (g p η μ)).bind fun η1 μ1 => frL η1 fun η1 => (calmR (tt η1 μ1)).bind fun k μ2 =>
      if k = true then (calmR (el η1 μ2 acc)).bind fun acc' μ3 => frL acc' fun acc' => lcGoF gd g tt el η rest acc' μ3
      else lcGoF gd g tt el η rest acc μ2
    else .bad) = _
    unfold lcGo
    simp only [fr1_eq, frL_eq, ih]
noncomputable def elOneF (d : DE) : Env' → Sto → List PV → Rz (List PV) := fun η μ acc => if acc.length < sizeLine then (d η μ).bind fun p μ1 => fr1 p fun p => .ok (acc ++ [p]) μ1 else .bad
theorem elOneF_eq : elOneF = elOne := by
  funext d η μ acc
  unfold elOneF elOne
  simp only [fr1_eq]
noncomputable def lcEndF : List PV → Sto → Rz PV := fun acc μ => frN μ.length fun n => .ok (.ref n) (μ ++ [.lst acc])
theorem lcEndF_eq : lcEndF = lcEnd := by
  funext acc μ
  exact frN_eq _ _
noncomputable def vMakeF (C : Addr) (f : VF) : VF := fun ps μ => frN μ.length fun n => (f (.ref n :: ps) (μ ++ [.ins C []])).bind fun r μ1 => match r with
  | .non => .ok (.ref n) μ1
  | _ => .bad
theorem vMakeF_eq : vMakeF = vMake := by
  funext C f ps μ
  unfold vMakeF vMake
  rw [frN_eq]
  try rfl
noncomputable def dLcF (di : DI) (g : DG) (tt : DT) (d : DE) (vs : List Nat) : DE := fun η μ => (di η μ).bind fun x μ1 => frL (wipeE η vs) fun η0 => (lcGoF x.2 g tt (elOneF d) η0 x.1 [] μ1).bind lcEndF
theorem dLcF_eq : dLcF = dLc := by
  funext di g tt d vs η μ
  unfold dLcF dLc
  simp only [frL_eq, lcGoF_eq, lcEndF_eq, elOneF_eq]
noncomputable def el2F (di1 : DI) (g1 : DG) (tt1 : DT) (d : DE) (vs1 : List Nat) : Env' → Sto → List PV → Rz (List PV) := fun η μ acc => (di1 η μ).bind fun x μ1 => frL (wipeE η vs1) fun η0 => lcGoF x.2 g1 tt1 (elOne d) η0 x.1 acc μ1
theorem el2F_eq : el2F = el2 := by
  funext di g tt d vs η μ acc
  unfold el2F el2
  simp only [frL_eq, lcGoF_eq, elOneF_eq]
noncomputable def dLc2F (di : DI) (g : DG) (tt : DT) (di1 : DI) (g1 : DG) (tt1 : DT) (d : DE) (vs vs1 : List Nat) : DE := fun η μ => (di η μ).bind fun x μ1 => frL (wipeE η vs) fun η0 => (lcGoF x.2 g tt (el2F di1 g1 tt1 d vs1) η0 x.1 [] μ1).bind lcEndF
theorem dLc2F_eq : dLc2F = dLc2 := by
  funext di g tt di1 g1 tt1 d vs vs1 η μ
  unfold dLc2F dLc2
  simp only [frL_eq, lcGoF_eq, el2F_eq, lcEndF_eq]
noncomputable def fnBodyF (np n : Nat) (d : DS) : VF := fun ps μ => if ps.length = np then frL (ps.map some ++ List.replicate (n - np) none) fun η => (d η μ).bind fun o μ1 => match o.1 with
  | .rt v => .ok v μ1
  | .nx => .ok .non μ1
  | _ => .bad
  else .bad
theorem fnBodyF_eq : fnBodyF = fnBody := by
  funext np n d ps μ
  unfold fnBodyF fnBody
  simp only [frL_eq]
  try rfl
noncomputable def vApartF (F : VF) : VF := fun xs μ => if bareL xs = true then frLf (frP 6) xs fun ys => match F ys [] with
    | .ok p _ => if bareP p = true then frP 6 p fun q => .ok q μ else .bad
    | _ => .bad
  else .bad
theorem vApartF_eq : vApartF = vApart := by
  funext F xs μ
  unfold vApartF vApart
  simp only [frLf_eq (frP_eq 6), frP_eq]
  try rfl
noncomputable def gItemF (d1 d2 : DE) : DG := fun p η μ => (d1 η μ).bind fun o μ1 => (d2 η μ1).bind fun i μ2 => match vStore o i p μ2 with
  | some μ3 => match o with
    | .ref j => frAt j μ3 fun μ3 => .ok η μ3
    | _ => .ok η μ3
  | none => .bad
theorem gItemF_eq : gItemF = gItem := by
  funext d1 d2 p η μ
  unfold gItemF gItem
  congr 1
  funext o μ1
  congr 1
  funext i μ2
  cases vStore o i p μ2 with
  | none => rfl
  | some μ3 => cases o <;> simp only [frAt_eq]
/-! ### fields by their names -/
noncomputable def lkF (fs : List (Str × PV)) (f : Str) : Option PV := List.rec (motive := fun _ => Option PV) none (fun q _ ih => Bool.rec (motive := fun _ => Option PV) ih (some q.2) (eqS f q.1)) fs
theorem lkF_eq : ∀ (fs : List (Str × PV)) (f : Str), lkF fs f = fs.lookup f
  | [], _ => rfl
  | (g, v) :: r, f => by
    show (Bool.rec (motive := fun _ => Option PV) (lkF r f) (some v) (eqS f g) : Option PV) = _
    rw [eqS_eq, lkF_eq r f, List.lookup_cons]
    cases (f == g) <;> rfl
noncomputable def vFldF (C : Addr) (f : Str) : VF := fun xs μ => match xs with
  | [.ref i] => match nth μ i with
    | some (.ins D fs) => match Nat.beq D C with
      | true => match lkF fs f with
        | some p => .ok p μ
        | none => .bad
      | false => .bad
    | _ => .bad
  | _ => .bad
theorem beqA {D C : Nat} {β : Type} (a b : β) : (match Nat.beq D C with | true => a | false => b) = if D = C then a else b := by
  cases e : Nat.beq D C with
  | true => rw [if_pos (Nat.eq_of_beq_eq_true e)]
  | false => rw [if_neg (Nat.ne_of_beq_eq_false e)]
theorem vFldF_eq : vFldF = vFld := by
  funext C f xs μ
  unfold vFldF vFld
  simp only [nth_eq, lkF_eq, beqA]
  try rfl
noncomputable def isInsF (C : Addr) (m : Str) (o : PV) (μ : Sto) : Bool := match o with
  | .ref i => match nth μ i with
    | some (.ins D fs) => match Nat.beq D C with
      | true => (lkF fs m).isNone
      | false => false
    | _ => false
  | _ => false
theorem isInsF_eq : isInsF = isIns := by
  funext C m o μ
  unfold isInsF isIns
  cases o with
  | ref i =>
    simp only [nth_eq, lkF_eq]
    cases μ[i]? with
    | none => rfl
    | some ob =>
      cases ob with
      | ins D fs =>
        simp only
        rw [beqA]
        by_cases c : D = C
        · simp [c]
        · simp [c]
      | _ => rfl
  | _ => rfl
noncomputable def dMethF (C : Addr) (m : Str) (f : VF) (o : DE) (ds : DA) : DE := fun η μ => (o η μ).bind fun p μ1 => match isInsF C m p μ1 with
  | true => (ds η μ1).bind fun ps μ2 => f (p :: ps) μ2
  | false => .bad
theorem boolA {β : Type} (c : Bool) (a b : β) : (match c with | true => a | false => b) = if c = true then a else b := by cases c <;> rfl
theorem dMethF_eq : dMethF = dMeth := by
  funext C m f o ds η μ
  unfold dMethF dMeth
  simp only [isInsF_eq, boolA]
noncomputable def putDF (f : Str) (v : PV) (l : List (Str × PV)) : List (Str × PV) := List.rec (motive := fun _ => List (Str × PV)) [(f, v)] (fun q r ih => Bool.rec (motive := fun _ => List (Str × PV)) (q :: ih) ((q.1, v) :: r) (eqS q.1 f)) l
theorem putDF_eq (f : Str) (v : PV) : ∀ l : List (Str × PV), putDF f v l = putD f v l
  | [] => rfl
  | (g, x) :: r => by
    have e : (Bool.rec (motive := fun _ => List (Str × PV)) ((g, x) :: putDF f v r) ((g, v) :: r) (eqS g f) : List (Str × PV)) = if eqS g f = true then (g, v) :: r else (g, x) :: putDF f v r := by cases eqS g f <;> rfl
    show (Bool.rec (motive := fun _ => List (Str × PV)) ((g, x) :: putDF f v r) ((g, v) :: r) (eqS g f) : List (Str × PV)) = _
    rw [e, putDF_eq f v r]
    show _ = if g = f then (g, v) :: r else (g, x) :: putD f v r
    by_cases c : g = f
    · rw [if_pos (eqS_iff.mpr c), if_pos c]
    · rw [if_neg (fun h => c (eqS_iff.mp h)), if_neg c]
noncomputable def sFldSetF (C : Addr) (f : Str) (o v : DE) : DS := fun η μ => (v η μ).bind fun p μ1 => (o η μ1).bind fun q μ2 => match q with
  | .ref i => match nth μ2 i with
    | some (.ins D fs) => if D = C ∧ fs.length < 1000 then frAt i (μ2.set i (.ins C (putDF f p fs))) fun μ3 => .ok (.nx, η) μ3 else .bad
    | _ => .bad
  | _ => .bad
theorem sFldSetF_eq : sFldSetF = sFldSet := by
  funext C f o v η μ
  unfold sFldSetF sFldSet
  simp only [frAt_eq, nth_eq, putDF_eq]
  try rfl
/-! ### loops: that what is walked stands as it was, quickly seen -/
noncomputable def eqPs (f : PV → PV → Bool) (a : List PV) : List PV → Bool := List.rec (motive := fun _ => List PV → Bool) (fun b => List.rec (motive := fun _ => Bool) true (fun _ _ _ => false) b)
  (fun x _ ih b => List.rec (motive := fun _ => Bool) false (fun y ys _ => Bool.rec (motive := fun _ => Bool) false (ih ys) (f x y)) b) a
theorem eqPs_eq {f : PV → PV → Bool} (h : ∀ a b, f a b = decide (a = b)) : ∀ (xs ys : List PV), eqPs f xs ys = decide (xs = ys)
  | [], [] => rfl
  | [], _ :: _ => rfl
  | _ :: _, [] => rfl
  | x :: xs, y :: ys => by
    show (Bool.rec (motive := fun _ => Bool) false (eqPs f xs ys) (f x y) : Bool) = _
    rw [h, eqPs_eq h xs ys]
    by_cases c : x = y
    · simp [c]
    · simp [c]
noncomputable def eqPn : Nat → PV → PV → Bool
  | 0, a, b => decide (a = b)
  | n + 1, a, b => match a with
    | .str x => match b with
      | .str y => eqS x y
      | _ => false
    | .int i => match b with
      | .int j => decide (i = j)
      | _ => false
    | .tup xs => match b with
      | .tup ys => eqPs (eqPn n) xs ys
      | _ => false
    | .ref i => match b with
      | .ref j => Nat.beq i j
      | _ => false
    | a => decide (a = b)
theorem eqPn_eq : ∀ (n : Nat) (a b : PV), eqPn n a b = decide (a = b)
  | 0, _, _ => rfl
  | n + 1, a, b => by
    cases a with
    | str x => cases b <;> first | rfl | (simp only [eqPn]; rw [Bool.eq_iff_iff, eqS_iff]; simp)
    | int i => cases b <;> first | rfl | simp [eqPn]
    | tup xs => cases b <;> first | rfl | (simp only [eqPn]; rw [eqPs_eq (eqPn_eq n)]; simp)
    | ref i => cases b <;> first | rfl | (simp only [eqPn]; rw [Bool.eq_iff_iff, show (Nat.beq _ _ = true) = _ from Nat.beq_eq]; simp)
    | _ => rfl
theorem beqs_dec (xs ys : List PV) : PV.beqs xs ys = decide (xs = ys) := by
  rw [Bool.eq_iff_iff, decide_eq_true_eq]
  exact ⟨PV.eqs_of xs ys, fun h => by rw [h]; exact PV.beqs_self ys⟩
theorem beq_dec (x y : PV) : PV.beq x y = decide (x = y) := by
  rw [Bool.eq_iff_iff, decide_eq_true_eq]
  exact ⟨PV.eq_of x y, fun h => by rw [h]; exact PV.beq_self y⟩
noncomputable def sameSeqF (μ : Sto) (i : Nat) (ps : List PV) : Bool := match seqAt μ i with
  | some qs => eqPs (eqPn 4) qs ps
  | none => false
theorem sameSeqF_eq : sameSeqF = sameSeq := by
  funext μ i ps
  unfold sameSeqF sameSeq
  cases seqAt μ i with
  | none => rfl
  | some qs => simp only [eqPs_eq (eqPn_eq 4), beqs_dec]
noncomputable def sameKvsF : List (PV × PV) → List (PV × PV) → Bool
  | [], b => match b with
    | [] => true
    | _ :: _ => false
  | x :: xs, b => match b with
    | [] => false
    | y :: ys => match eqPn 4 x.1 y.1 with
      | true => match eqPn 4 x.2 y.2 with
        | true => sameKvsF xs ys
        | false => false
      | false => false
theorem sameKvsF_eq : ∀ a b : List (PV × PV), sameKvsF a b = sameKvs a b
  | [], [] => rfl
  | [], _ :: _ => rfl
  | _ :: _, [] => rfl
  | x :: xs, y :: ys => by
    show (match eqPn 4 x.1 y.1 with | true => (match eqPn 4 x.2 y.2 with | true => sameKvsF xs ys | false => false) | false => false) = (PV.beq x.1 y.1 && PV.beq x.2 y.2 && sameKvs xs ys)
    rw [eqPn_eq, eqPn_eq, beq_dec, beq_dec, sameKvsF_eq xs ys]
    cases decide (x.1 = y.1) <;> cases decide (x.2 = y.2) <;> rfl
noncomputable def sameDctF (μ : Sto) (i : Nat) (ps : List (PV × PV)) : Bool := match dctAt μ i with
  | some qs => sameKvsF qs ps
  | none => false
theorem sameDctF_eq : sameDctF = sameDct := by
  funext μ i ps
  unfold sameDctF sameDct
  cases dctAt μ i with
  | none => rfl
  | some qs => exact sameKvsF_eq qs ps
noncomputable def srcOfF (p : PV) (μ : Sto) : Option (List PV × (Sto → Bool)) := match p with
  | .ref i => match seqAt μ i with
    | some ps => some (ps, fun μ' => sameSeqF μ' i ps)
    | none => none
  | p => srcOf p μ
theorem srcOfF_eq : srcOfF = srcOf := by
  funext p μ
  cases p with
  | ref i => simp only [srcOfF, srcOf, sameSeqF_eq]; try rfl
  | _ => rfl
noncomputable def srcKF (p : PV) (μ : Sto) : Option (List PV × (Sto → Bool)) := match p with
  | .ref i => match dctAt μ i with
    | some kvs => some (kvs.map (·.1), fun μ' => sameDctF μ' i kvs)
    | none => srcOfF p μ
  | _ => srcOfF p μ
theorem srcKF_eq : srcKF = srcK := by
  funext p μ
  cases p with
  | ref i => simp only [srcKF, srcK, sameDctF_eq, srcOfF_eq]; try rfl
  | _ => simp only [srcKF, srcK, srcOfF_eq]
noncomputable def dItAF (d : DE) : DI := fun η μ => (d η μ).bind fun p μ1 => match srcKF p μ1 with
  | some x => .ok x μ1
  | none => .bad
theorem dItAF_eq : dItAF = dItA := by
  funext d η μ
  unfold dItAF dItA
  rw [srcKF_eq]
  try rfl
noncomputable def dEnumF (d : DE) : DI := fun η μ => (d η μ).bind fun p μ1 => match srcOfF p μ1 with
  | some x => .ok ((enum2 x.1 0).map PV.tup, x.2) μ1
  | none => .bad
theorem dEnumF_eq : dEnumF = dEnum := by
  funext d η μ
  unfold dEnumF dEnum
  rw [srcOfF_eq]
  try rfl
noncomputable def dZipF (da db : DE) : DI := fun η μ => (da η μ).bind fun p μ1 => (db η μ1).bind fun q μ2 => match srcOfF p μ2, srcOfF q μ2 with
  | some x, some y => .ok ((zip2 x.1 y.1).map PV.tup, fun μ' => x.2 μ' && y.2 μ') μ2
  | _, _ => .bad
theorem dZipF_eq : dZipF = dZip := by
  funext da db η μ
  unfold dZipF dZip
  rw [srcOfF_eq]
  try rfl
noncomputable def dValsF (d : DE) : DI := fun η μ => (d η μ).bind fun p μ1 => match p with
  | .ref i => match dctAt μ1 i with
    | some kvs => .ok (kvs.map (·.2), fun μ' => sameDctF μ' i kvs) μ1
    | none => .bad
  | _ => .bad
theorem dValsF_eq : dValsF = dVals := by
  funext d η μ
  unfold dValsF dVals
  rw [sameDctF_eq]
  try rfl
noncomputable def dItemsF (d : DE) : DI := fun η μ => (d η μ).bind fun p μ1 => match p with
  | .ref i => match dctAt μ1 i with
    | some kvs => .ok ((kvs.map fun kv => [kv.1, kv.2]).map PV.tup, fun μ' => sameDctF μ' i kvs) μ1
    | none => .bad
  | _ => .bad
theorem dItemsF_eq : dItemsF = dItems := by
  funext d η μ
  unfold dItemsF dItems
  rw [sameDctF_eq]
  try rfl
end DL
/-! D33: rules for reckoning with letters: draws -/
namespace DL
open PySem PySem.Spec PyProof.Rows L2
theorem bindOk {α β : Type} (a : α) (μ : Sto) (f : α → Sto → Rz β) : (Rz.ok a μ).bind f = f a μ := (Eq.refl _).trans (Eq.refl _)
theorem mul_l {μ : Sto} {i j : Int} (h : -(2 ^ 64) < i ∧ i < 2 ^ 64) : vMulA [.int i, .int j] μ = .ok (.int (i * j)) μ := if_pos (.inl h)
theorem mul_r {μ : Sto} {i j : Int} (h : -(2 ^ 64) < j ∧ j < 2 ^ 64) : vMulA [.int i, .int j] μ = .ok (.int (i * j)) μ := if_pos (.inr h)
theorem mod_p {μ : Sto} {i j : Int} (h : 0 < j) : vMod [.int i, .int j] μ = .ok (.int (i % j)) μ := if_pos h
theorem int_i {μ : Sto} {i : Int} : vInt [.int i] μ = .ok (.int i) μ := rfl
theorem int_b {μ : Sto} {k : Bool} : vInt [.bl k] μ = .ok (.int (if k then 1 else 0)) μ := rfl
theorem abs_i {μ : Sto} {i : Int} : vAbs [.int i] μ = .ok (.int (if i < 0 then -i else i)) μ := rfl
theorem add_i {μ : Sto} {i j : Int} : vAdd [.int i, .int j] μ = .ok (.int (i + j)) μ := rfl
theorem ge_i {μ : Sto} {i j : Int} : vGe [.int i, .int j] μ = .ok (.bl (decide (j ≤ i))) μ := rfl
theorem lt_i {μ : Sto} {i j : Int} : vLt [.int i, .int j] μ = .ok (.bl (decide (i < j))) μ := rfl
theorem len_0 {μ : Sto} {i : Nat} {ps : List PV} (h : seqAt μ i = some ps) (hd : dctAt μ i = none) : vLen [.ref i] μ = .ok (.int ps.length) μ := by
  simp only [vLen, lenOf, hd, h, Option.map_some]
theorem ix_0 {μ : Sto} {i : Nat} {ps : List PV} {z : Int} {p : PV} (h : seqAt μ i = some ps) (hd : dctAt μ i = none) (hz : L2.atI ps z = some p) : vIx [.ref i, .int z] μ = .ok p μ := by
  show (match dctAt μ i with | some kvs => _ | none => vItem [.ref i, .int z] μ) = _
  rw [hd]
  show (match (seqAt μ i).bind fun ps => L2.atI ps z with | some p => Rz.ok p μ | none => .bad) = _
  rw [h, Option.bind_some, hz]
theorem lst_k {μ : Sto} {ps : List PV} (h : ps.length ≤ 100) : vLst ps μ = .ok (.ref μ.length) (μ ++ [.lst ps]) := if_pos (Nat.le_trans h (by decide))
theorem sub_i {μ : Sto} {i j : Int} : vSub [.int i, .int j] μ = .ok (.int (i - j)) μ := rfl
theorem gt_i {μ : Sto} {i j : Int} : vGt [.int i, .int j] μ = .ok (.bl (decide (j < i))) μ := rfl
theorem div_p {μ : Sto} {i j : Int} (h : 0 < j) (hb : j < 2 ^ 64) : vDiv [.int i, .int j] μ = .ok (.int (i / j)) μ := by
  refine if_pos ⟨h, ?_⟩
  have : j.natAbs < 2 ^ 64 := by omega
  by_cases c : j.natAbs = 0
  · rw [c]; decide
  · exact Nat.lt_of_lt_of_le ((Nat.log2_lt c).mpr this) (by decide)
theorem cube {μ : Sto} {i : Int} (h : i.natAbs < 2 ^ 80) : vPow [.int i, .int 3] μ = .ok (.int (i ^ 3)) μ := by
  refine (if_pos ⟨by decide, ?_⟩).trans rfl
  have := PySem.intBits_le_iff.mpr h
  omega
theorem seq_l {μ : Sto} {i : Nat} {ps : List PV} (h : μ[i]? = some (.lst ps)) : seqAt μ i = some ps := by unfold seqAt; rw [h]
theorem dct_l {μ : Sto} {i : Nat} {ps : List PV} (h : μ[i]? = some (.lst ps)) : dctAt μ i = none := by unfold dctAt; rw [h]
theorem lst_l {μ : Sto} {i : Nat} {ps : List PV} (h : μ[i]? = some (.lst ps)) : isLst μ i = some ps := by unfold isLst; rw [h]
theorem ix_l {μ : Sto} {i : Nat} {ps : List PV} {z : Int} {p : PV} (h : μ[i]? = some (.lst ps)) (hz : L2.atI ps z = some p) : vIx [.ref i, .int z] μ = .ok p μ := ix_0 (seq_l h) (dct_l h) hz
theorem len_l {μ : Sto} {i : Nat} {ps : List PV} (h : μ[i]? = some (.lst ps)) : vLen [.ref i] μ = .ok (.int ps.length) μ := len_0 (seq_l h) (dct_l h)
theorem st_l {μ : Sto} {i : Nat} {ps : List PV} {z : Int} {n : Nat} {v : PV} (h : μ[i]? = some (.lst ps)) (hz : ixN ps.length z = some n) : vStore (.ref i) (.int z) v μ = some (μ.set i (.lst (ps.set n v))) := by
  show (match dctAt μ i with | some kvs => _ | none => match (isLst μ i).bind (storeL (.int z) v) with | some ps => some (μ.set i (.lst ps)) | none => none) = _
  rw [dct_l h, lst_l h]
  simp only [Option.bind_some, storeL, hz, Option.map_some]
theorem islp {μ : Sto} {i : Nat} {ps : List PV} (h : μ[i]? = some (.lst ps)) : isLstP (.ref i) μ = true := by
  show (seqAt μ i).isSome = true
  rw [seq_l h]
  rfl
theorem app_l {μ : Sto} {i : Nat} {ps : List PV} {p : PV} (h : μ[i]? = some (.lst ps)) (hl : ps.length ≤ 1000) : vAppend [.ref i, p] μ = .ok .non (μ.set i (.lst (ps ++ [p]))) := by
  show (match isLst μ i with | some ps => if ps.length < sizeLine then Rz.ok PV.non (μ.set i (.lst (ps ++ [p]))) else .bad | none => .bad) = _
  rw [lst_l h]
  exact if_pos (Nat.lt_of_le_of_lt hl (by decide))
theorem pop_l {μ : Sto} {i k : Nat} {ps : List PV} (h : μ[i]? = some (.lst ps)) (hk : k < ps.length) (hl : ps.length ≤ 1000) : vPop [.ref i, .int k] μ = .ok ps[k] (μ.set i (.lst (ps.eraseIdx k))) := by
  have e : seqIndex? (k : Int) ps.length = some k := by
    unfold seqIndex?
    have h1 : ¬ (k : Int) < 0 := by omega
    simp [h1, hk]
  have c : -(2 ^ 63) ≤ (k : Int) ∧ (k : Int) < 2 ^ 63 := ⟨by omega, by omega⟩
  simp only [vPop, lst_l h, if_pos c, e, List.getElem?_eq_getElem hk]
theorem listB_l {μ : Sto} {i : Nat} {ps : List PV} (h : μ[i]? = some (.lst ps)) : vListB [.ref i] μ = .ok (.ref μ.length) (μ ++ [.lst ps]) := by
  simp only [vListB, vListA, vList, dct_l h, seq_l h]
end DL
/-! D34: split by one sign, on lists -/
namespace DL
open PySem PySem.Spec PyProof.Rows L2
/-- the places of a sign -/
def posN (c : Nat) : Nat → List Nat → List Nat
  | _, [] => []
  | k, d :: r => if d = c then k :: posN c (k + 1) r else posN c (k + 1) r
/-- what lies between them: acc is the piece under way, turned about -/
def splitG (c : Nat) : List Nat → List Nat → List (List Nat)
  | acc, [] => [acc.reverse]
  | acc, d :: r => if d = c then acc.reverse :: splitG c [] r else splitG c (d :: acc) r
theorem occ_run (x : Str) (c L : Nat) : ∀ (m k : Nat) (found : Array Nat) (free : Nat), free ≤ k → found.size ≤ k → k + m ≤ L → x.length < k + m →
    (forIn (List.range' k m) (found, free) (StrLaws.occBody x ⟨#[c]⟩ x.length L)).run.fst.toList = found.toList ++ posN c k (x.cps.toList.drop k)
  | 0, k, found, free, _, _, _, h => by
    have e : x.cps.toList.drop k = [] := List.drop_eq_nil_iff.mpr (by simp [Str.length] at h ⊢; omega)
    rw [e]
    simp [posN]
  | m + 1, k, found, free, h1, h2, h3, h4 => by
    rw [List.range'_succ, List.forIn_cons]
    unfold StrLaws.occBody
    have key := StrLaws.subAt_one x c k
    by_cases hc : x.cps.toList[k]? = some c
    · obtain ⟨k1, k2⟩ := key.mpr hc
      rw [if_pos ⟨⟨⟨by show found.size < L; omega, h1⟩, k1⟩, k2⟩]
      have hk := (List.getElem?_eq_some_iff.mp hc).1
      have e : x.cps.toList.drop k = c :: x.cps.toList.drop (k + 1) := by
        rw [List.drop_eq_getElem_cons hk]
        rw [(List.getElem?_eq_some_iff.mp hc).2]
      rw [e]
      have ih := occ_run x c L m (k + 1) (found.push k) (k + 1) (Nat.le_refl _) (by simp; omega) (by omega) (by omega)
      show (forIn (List.range' (k + 1) m) (found.push k, k + 1) (StrLaws.occBody x ⟨#[c]⟩ x.length L)).run.fst.toList = _
      rw [ih, posN, if_pos rfl, Array.toList_push, List.append_assoc]
      rfl
    · rw [if_neg fun h => hc (key.mp ⟨h.1.2, h.2⟩)]
      have ih := occ_run x c L m (k + 1) found free (by omega) (by omega) (by omega) (by omega)
      show (forIn (List.range' (k + 1) m) (found, free) (StrLaws.occBody x ⟨#[c]⟩ x.length L)).run.fst.toList = _
      rw [ih]
      by_cases hk : k < x.cps.toList.length
      · rw [List.drop_eq_getElem_cons hk, posN, if_neg fun e => hc (by rw [List.getElem?_eq_getElem hk, e])]
      · rw [List.drop_eq_nil_iff.mpr (Nat.le_of_not_lt hk), List.drop_eq_nil_iff.mpr (by omega)]
        rfl
theorem occ_pos (x : Str) (c : Nat) : Builtin.Str.occurrences x ⟨#[c]⟩ 0 x.length (x.length + 1) = posN c 0 x.cps.toList := by
  rw [StrLaws.occ_eq]
  have := occ_run x c (x.length + 1) (x.length + 1) 0 #[] 0 (Nat.le_refl _) (by simp) (by omega) (by omega)
  rw [show x.length + 1 - 0 = x.length + 1 from rfl, this]
  simp
theorem sub_list (x : Str) (a b : Nat) : Builtin.Str.strSub x a b = ⟨⟨(x.cps.toList.take b).drop a⟩⟩ := by
  unfold Builtin.Str.strSub
  congr 1
  apply Array.ext'
  simp [List.drop_take]
theorem parts_split (x : Str) (c : Nat) : ∀ (l : List Nat) (a k : Nat), l = x.cps.toList.drop k → a ≤ k → k ≤ x.cps.toList.length →
    StrLaws.partsFrom x 1 a (posN c k l) = (splitG c ((x.cps.toList.take k).drop a).reverse l).map fun p => (⟨⟨p⟩⟩ : Str)
  | [], a, k, h, ha, hk => by
    have e : x.cps.toList.length ≤ k := List.drop_eq_nil_iff.mp h.symm
    rw [posN, StrLaws.partsFrom, splitG, sub_list, List.reverse_reverse]
    rw [List.take_of_length_le e, List.take_of_length_le (by simp [Str.length])]
    rfl
  | d :: r, a, k, h, ha, hk => by
    have hlt : k < x.cps.toList.length := by
      apply Nat.lt_of_not_le
      intro e
      rw [List.drop_eq_nil_iff.mpr e] at h
      cases h
    have e1 := List.drop_eq_getElem_cons hlt
    rw [← h] at e1
    injection e1 with e2 e3
    rw [posN, splitG]
    have tk : x.cps.toList.take (k + 1) = x.cps.toList.take k ++ [d] := by rw [List.take_add_one, List.getElem?_eq_getElem hlt, e2]; rfl
    by_cases hc : d = c
    · rw [if_pos hc, if_pos hc, StrLaws.partsFrom, List.map_cons, List.reverse_reverse, sub_list]
      have ih := parts_split x c r (k + 1) (k + 1) e3 (Nat.le_refl _) (by omega)
      rw [ih]
      have e4 : (x.cps.toList.take (k + 1)).drop (k + 1) = [] := List.drop_eq_nil_iff.mpr (by rw [List.length_take]; exact Nat.min_le_left _ _)
      rw [e4]
      rfl
    · rw [if_neg hc, if_neg hc]
      have ih := parts_split x c r a (k + 1) e3 (by omega) (by omega)
      rw [ih, tk, List.drop_append_of_le_length (by rw [List.length_take]; omega), List.reverse_append]
      rfl
theorem kind_pos (x : Str) : 1 ≤ Builtin.Str.strKind x := by
  unfold Builtin.Str.strKind
  split
  · exact Nat.le_refl _
  · split <;> omega
theorem kind_one {c : Nat} (h : c < 256) : Builtin.Str.strKind ⟨#[c]⟩ = 1 := by
  unfold Builtin.Str.strKind
  exact if_pos (by simp [h])
theorem split_one (x : Str) {c : Nat} (h : c < 256) : Txt.split x ⟨#[c]⟩ = (splitG c [] x.cps.toList).map fun p => (⟨⟨p⟩⟩ : Str) := by
  have main := parts_split x c x.cps.toList 0 0 rfl (Nat.le_refl _) (Nat.zero_le _)
  rw [show ((x.cps.toList.take 0).drop 0).reverse = [] from rfl] at main
  have all : Builtin.Str.partsBetween x (Builtin.Str.occurrences x ⟨#[c]⟩ 0 x.length (x.length + 1)) 1 = (splitG c [] x.cps.toList).map fun p => (⟨⟨p⟩⟩ : Str) := by
    rw [StrLaws.partsBetween_eq, occ_pos, main]
  have whole : (posN c 0 x.cps.toList) = [] → (splitG c [] x.cps.toList).map (fun p => (⟨⟨p⟩⟩ : Str)) = [x] := fun e => by
    rw [← main, e]
    show [Builtin.Str.strSub x 0 x.length] = [x]
    rw [sub_list]
    have : x.cps.toList.take x.length = x.cps.toList := List.take_of_length_le (by simp [Str.length])
    rw [this]
    rfl
  unfold Txt.split
  have hk : decide (Builtin.Str.strKind x < Builtin.Str.strKind ⟨#[c]⟩) = false := decide_eq_false (by rw [kind_one h]; have := kind_pos x; omega)
  by_cases hl : x.length < (⟨#[c]⟩ : Str).length
  · rw [if_pos (by rw [decide_eq_true hl]; rfl)]
    have e : x.cps.toList = [] := by
      have : x.cps.toList.length < 1 := by simpa [Str.length] using hl
      exact List.length_eq_zero_iff.mp (by omega)
    exact (whole (by rw [e]; rfl)).symm
  · rw [if_neg (by rw [decide_eq_false hl, hk]; simp)]
    split
    · rename_i he
      rw [occ_pos] at he
      exact (whole (List.isEmpty_iff.mp he)).symm
    · exact all
/-- the same for the kernel -/
noncomputable def splitK (c : Nat) (l : List Nat) : List Nat → List PV := List.rec (motive := fun _ => List Nat → List PV) (fun acc => [.str ⟨⟨acc.reverse⟩⟩])
  (fun d _ ih acc => Bool.rec (motive := fun _ => List PV) (ih (d :: acc)) (.str ⟨⟨acc.reverse⟩⟩ :: ih []) (Nat.beq d c)) l
theorem splitK_eq (c : Nat) : ∀ (l acc : List Nat), splitK c l acc = (splitG c acc l).map fun p => PV.str ⟨⟨p⟩⟩
  | [], acc => rfl
  | d :: r, acc => by
    show (Bool.rec (motive := fun _ => List PV) (splitK c r (d :: acc)) (.str ⟨⟨acc.reverse⟩⟩ :: splitK c r []) (Nat.beq d c) : List PV) = _
    rw [splitK_eq c r, splitK_eq c r, splitG]
    cases e : Nat.beq d c with
    | true => rw [if_pos (Nat.eq_of_beq_eq_true e)]; rfl
    | false => rw [if_neg (Nat.ne_of_beq_eq_false e)]
noncomputable def vSplitF : VF := fun xs μ => match xs with
  | [.str a, .str ⟨⟨[c]⟩⟩] => if c < 256 then (if a.length + 2 ≤ sizeLine then .ok (.ref μ.length) (μ ++ [.lst (splitK c a.cps.toList [])]) else .bad) else vSplit [.str a, .str ⟨⟨[c]⟩⟩] μ
  | xs => vSplit xs μ
theorem vSplitF_eq : vSplitF = vSplit := by
  funext xs μ
  unfold vSplitF
  split
  · rename_i a c
    by_cases hc : c < 256
    · rw [if_pos hc]
      show _ = (if ((⟨⟨[c]⟩⟩ : Str).length == 0) = false ∧ a.length + 2 ≤ sizeLine then Rz.ok (PV.ref μ.length) (μ ++ [.lst ((Txt.split a ⟨⟨[c]⟩⟩).map PV.str)]) else .bad)
      rw [split_one a hc, splitK_eq, List.map_map]
      by_cases h2 : a.length + 2 ≤ sizeLine
      · rw [if_pos h2, if_pos ⟨rfl, h2⟩]
        rfl
      · rw [if_neg h2, if_neg fun h => h2 h.2]
    · rw [if_neg hc]
  · rfl
end DL
/-! D35: names by letters: a text may hold letters that stand for names; what is reckoned with letters holds for the names -/
namespace DL
open PySem PySem.Spec PyProof.Rows L2
abbrev lim : Nat := 0x110000
/-- names: small letters, eight at most, unlike one another -/
structure Nam (ν : Nat → List Nat) (n : Nat) : Prop where
  ok : ∀ i, ∀ c ∈ ν i, 97 ≤ c ∧ c ≤ 122
  ne : ∀ i, ν i ≠ []
  len : ∀ i, (ν i).length ≤ 8
  inj : ∀ i j, i < n → j < n → ν i = ν j → i = j
section
variable (ν : Nat → List Nat)
def gC (c : Nat) : List Nat := if c < lim then [c] else ν (c - lim)
def gN : List Nat → List Nat
  | [] => []
  | c :: r => gC ν c ++ gN r
def gTx (x : Str) : Str := ⟨⟨gN ν x.cps.toList⟩⟩
mutual
def gP : PV → PV
  | .str x => .str (gTx ν x)
  | .tup ps => .tup (gPs ps)
  | .non => .non
  | .bl b => .bl b
  | .int i => .int i
  | .ref i => .ref i
  | .ty n => .ty n
  | .glb a => .glb a
def gPs : List PV → List PV
  | [] => []
  | p :: ps => gP p :: gPs ps
end
def gK : List (PV × PV) → List (PV × PV)
  | [] => []
  | q :: r => (gP ν q.1, gP ν q.2) :: gK r
def gF : List (Str × PV) → List (Str × PV)
  | [] => []
  | q :: r => (q.1, gP ν q.2) :: gF r
def gO : MObj → MObj
  | .lst ps => .lst (gPs ν ps)
  | .rol ps => .rol (gPs ν ps)
  | .dct kvs => .dct (gK ν kvs)
  | .ins C fs => .ins C (gF ν fs)
abbrev gM (μ : Sto) : Sto := μ.map (gO ν)
abbrev gE (η : Env') : Env' := η.map (Option.map (gP ν))
/-- what is reckoned with letters, if it comes to an end, is so of the names -/
def SG {α : Type} (g : α → α) (x y : Rz α) : Prop := ∀ a μ, x = .ok a μ → y = .ok (g a) (gM ν μ)
abbrev QE (d' d : DE) : Prop := ∀ η μ, SG ν (gP ν) (d' η μ) (d (gE ν η) (gM ν μ))
abbrev QA (d' d : DA) : Prop := ∀ η μ, SG ν (gPs ν) (d' η μ) (d (gE ν η) (gM ν μ))
abbrev QT (d' d : DT) : Prop := ∀ η μ, SG ν id (d' η μ) (d (gE ν η) (gM ν μ))
abbrev QO (d' d : DO) : Prop := ∀ η μ, SG ν id (d' η μ) (d (gE ν η) (gM ν μ))
abbrev QF (f' f : VF) : Prop := ∀ ps μ, SG ν (gP ν) (f' ps μ) (f (gPs ν ps) (gM ν μ))
def gOut (o : Out × Env') : Out × Env' := (match o.1 with
  | .rt v => .rt (gP ν v)
  | .nx => .nx
  | .bk => .bk
  | .ct => .ct, gE ν o.2)
abbrev QS (s' s : DS) : Prop := ∀ η μ, SG ν (gOut ν) (s' η μ) (s (gE ν η) (gM ν μ))
abbrev QG (g' g : DG) : Prop := ∀ p η μ, SG ν (gE ν) (g' p η μ) (g (gP ν p) (gE ν η) (gM ν μ))
abbrev QGs (g' g : List PV → Env' → Sto → Rz Env') : Prop := ∀ ps η μ, SG ν (gE ν) (g' ps η μ) (g (gPs ν ps) (gE ν η) (gM ν μ))
def QI (d' d : DI) : Prop := ∀ η μ its gd μ', d' η μ = .ok (its, gd) μ' → ∃ gd', d (gE ν η) (gM ν μ) = .ok (gPs ν its, gd') (gM ν μ') ∧ ∀ μ, gd μ = true → gd' (gM ν μ) = true
end
section
variable {ν : Nat → List Nat}
theorem SG.ok {α : Type} {g : α → α} {a : α} {μ : Sto} {y : Rz α} (h : y = .ok (g a) (gM ν μ)) : SG ν g (.ok a μ) y := fun a' μ' e => by
  cases e
  exact h
theorem SG.bad {α : Type} {g : α → α} {y : Rz α} : SG ν g .bad y := fun a' μ' e => by cases e
theorem SG.err {α : Type} {g : α → α} {y : Rz α} {C : Addr} {v : PV} {μ : Sto} : SG ν g (.err C v μ) y := fun a' μ' e => by cases e
theorem SG.bind {α β : Type} {ga : α → α} {gb : β → β} {x y : Rz α} {f f' : α → Sto → Rz β} (h : SG ν ga x y) (hf : ∀ a μ, SG ν gb (f a μ) (f' (ga a) (gM ν μ))) : SG ν gb (x.bind f) (y.bind f') := by
  cases x with
  | ok a μ =>
    rw [h a μ rfl]
    exact hf a μ
  | err C v μ => exact SG.err
  | bad => exact SG.bad
theorem SG.ite {α : Type} {g : α → α} {c : Prop} [Decidable c] {c' : Prop} [Decidable c'] {x y x' y' : Rz α} (hc : c ↔ c') (h1 : c → SG ν g x x') (h2 : ¬ c → SG ν g y y') : SG ν g (if c then x else y) (if c' then x' else y') := by
  by_cases h : c
  · rw [if_pos h, if_pos (hc.mp h)]
    exact h1 h
  · rw [if_neg h, if_neg fun z => h (hc.mpr z)]
    exact h2 h
theorem SG.guard {α : Type} {g : α → α} {c : Prop} [Decidable c] {x y : Rz α} (h1 : c → SG ν g x y) : SG ν g (if c then x else .bad) y := by
  by_cases h : c
  · rw [if_pos h]
    exact h1 h
  · rw [if_neg h]
    exact SG.bad
/-! ### lists -/
theorem gPs_map : ∀ ps : List PV, gPs ν ps = ps.map (gP ν)
  | [] => rfl
  | p :: ps => by rw [gPs, List.map_cons, gPs_map ps]
theorem gPs_len (ps : List PV) : (gPs ν ps).length = ps.length := by rw [gPs_map, List.length_map]
theorem gPs_app (ps qs : List PV) : gPs ν (ps ++ qs) = gPs ν ps ++ gPs ν qs := by rw [gPs_map, gPs_map, gPs_map, List.map_append]
theorem gPs_get (ps : List PV) (i : Nat) : (gPs ν ps)[i]? = ps[i]?.map (gP ν) := by rw [gPs_map, List.getElem?_map]
theorem gK_map : ∀ l : List (PV × PV), gK ν l = l.map fun q => (gP ν q.1, gP ν q.2)
  | [] => rfl
  | p :: ps => by rw [gK, List.map_cons, gK_map ps]
theorem gF_map : ∀ l : List (Str × PV), gF ν l = l.map fun q => (q.1, gP ν q.2)
  | [] => rfl
  | p :: ps => by rw [gF, List.map_cons, gF_map ps]
theorem gF_lookup (f : Str) : ∀ l : List (Str × PV), (gF ν l).lookup f = (l.lookup f).map (gP ν)
  | [] => rfl
  | (k, v) :: r => by
    rw [gF, List.lookup_cons, List.lookup_cons, gF_lookup f r]
    cases (f == k) <;> rfl
theorem gM_get (μ : Sto) (i : Nat) : (gM ν μ)[i]? = μ[i]?.map (gO ν) := List.getElem?_map
theorem gM_app (μ : Sto) (o : MObj) : gM ν (μ ++ [o]) = gM ν μ ++ [gO ν o] := by simp [gM]
theorem gM_set (μ : Sto) (i : Nat) (o : MObj) : gM ν (μ.set i o) = (gM ν μ).set i (gO ν o) := by simp [gM]
theorem gM_len (μ : Sto) : (gM ν μ).length = μ.length := by simp [gM]
theorem gE_set (η : Env') (i : Nat) (p : PV) : gE ν (η.set i (some p)) = (gE ν η).set i (some (gP ν p)) := by simp [gE]
theorem gE_wipe (η : Env') : ∀ vs : List Nat, gE ν (wipeE η vs) = wipeE (gE ν η) vs
  | [] => rfl
  | v :: vs => by
    show gE ν ((wipeE η vs).set v none) = (wipeE (gE ν η) vs).set v none
    rw [← gE_wipe η vs]
    simp [gE]
theorem gSeq (μ : Sto) (i : Nat) : seqAt (gM ν μ) i = (seqAt μ i).map (gPs ν) := by
  unfold seqAt
  rw [gM_get]
  cases μ[i]? with
  | none => rfl
  | some o => cases o <;> rfl
theorem gDct (μ : Sto) (i : Nat) : dctAt (gM ν μ) i = (dctAt μ i).map (gK ν) := by
  unfold dctAt
  rw [gM_get]
  cases μ[i]? with
  | none => rfl
  | some o => cases o <;> rfl
theorem gLst (μ : Sto) (i : Nat) : isLst (gM ν μ) i = (isLst μ i).map (gPs ν) := by
  unfold isLst
  rw [gM_get]
  cases μ[i]? with
  | none => rfl
  | some o => cases o <;> rfl
theorem gItems (p : PV) (μ : Sto) : items (gP ν p) (gM ν μ) = (items p μ).map (gPs ν) := by
  cases p with
  | tup ps => rw [gP]; rfl
  | ref i => rw [gP]; exact gSeq μ i
  | _ => rw [gP]; rfl
/-! ### combinators -/
theorem qNil : QA ν dNil dNil := fun η μ => SG.ok (by rw [gPs]; rfl)
theorem qCons {d d' : DE} {ds ds' : DA} (h1 : QE ν d d') (h2 : QA ν ds ds') : QA ν (dCons d ds) (dCons d' ds') := fun η μ => SG.bind (h1 η μ) fun p μ1 => SG.bind (h2 η μ1) fun ps μ2 => SG.ok (by rw [gPs])
theorem qApp {f f' : VF} {ds ds' : DA} (h1 : QF ν f f') (h2 : QA ν ds ds') : QE ν (dApp f ds) (dApp f' ds') := fun η μ => SG.bind (h2 η μ) fun ps μ1 => h1 ps μ1
theorem qVar {i : Nat} : QE ν (dVar i) (dVar i) := fun η μ => by
  unfold dVar
  rw [List.getElem?_map]
  cases η[i]? with
  | none => exact SG.bad
  | some o =>
    cases o with
    | none => exact SG.bad
    | some p => exact SG.ok rfl
theorem qC {p p' : PV} (h : gP ν p = p') : QE ν (dC p) (dC p') := fun η μ => SG.ok (by rw [h]; rfl)
theorem qIf {c c' : DT} {a a' b b' : DE} (hc : QT ν c c') (ha : QE ν a a') (hb : QE ν b b') : QE ν (dIf c a b) (dIf c' a' b') := fun η μ => SG.bind (hc η μ) fun k μ1 => SG.ite (c := k = true) (c' := k = true) Iff.rfl (fun _ => ha η μ1) fun _ => hb η μ1
theorem qNot {c c' : DT} (h : QT ν c c') : QT ν (dNot c) (dNot c') := fun η μ => SG.bind (h η μ) fun k μ1 => SG.ok rfl
theorem qAnd {a a' b b' : DT} (h1 : QT ν a a') (h2 : QT ν b b') : QT ν (dAnd a b) (dAnd a' b') := fun η μ => SG.bind (h1 η μ) fun k μ1 => SG.ite (c := k = true) (c' := k = true) Iff.rfl (fun _ => h2 η μ1) fun _ => SG.ok rfl
theorem qOr {a a' b b' : DT} (h1 : QT ν a a') (h2 : QT ν b b') : QT ν (dOr a b) (dOr a' b') := fun η μ => SG.bind (h1 η μ) fun k μ1 => SG.ite (c := k = true) (c' := k = true) Iff.rfl (fun _ => SG.ok rfl) fun _ => h2 η μ1
theorem qB {c c' : DT} (h : QT ν c c') : QE ν (dB c) (dB c') := fun η μ => SG.bind (h η μ) fun k μ1 => SG.ok (by rw [gP]; rfl)
theorem qTest {d d' : DE} (h : QE ν d d') : QT ν (dTest d) (dTest d') := fun η μ => SG.bind (h η μ) fun p μ1 => by
  cases p with
  | bl k => rw [gP]; exact SG.ok rfl
  | _ => exact SG.bad
/-! ### truth: of texts without letters -/
noncomputable def truthG (p : PV) (μ : Sto) : Option Bool := match p with
  | .str x => if okS x = true then truth (.str x) μ else none
  | p => truth p μ
theorem gN_pure : ∀ l : List Nat, okN l = true → gN ν l = l
  | [], _ => rfl
  | c :: r, h => by
    have h2 : (Bool.rec (motive := fun _ => Bool) (okN r) false (Nat.ble lim c) : Bool) = true := h
    cases e : Nat.ble lim c with
    | true => rw [e] at h2; cases h2
    | false =>
      rw [e] at h2
      have hc : c < lim := Nat.lt_of_not_le fun z => by rw [Nat.ble_eq_true_of_le z] at e; cases e
      rw [gN, gN_pure r h2, gC, if_pos hc]
      rfl
theorem gTx_pure {x : Str} (h : okS x = true) : gTx ν x = x := by
  unfold gTx
  rw [gN_pure _ h]
theorem gPs_emp (ps : List PV) : (gPs ν ps).isEmpty = ps.isEmpty := by cases ps <;> rfl
theorem gTruth {p : PV} {μ : Sto} {k : Bool} (h : truthG p μ = some k) : truth (gP ν p) (gM ν μ) = some k := by
  cases p with
  | str x =>
    have h : (if okS x = true then truth (.str x) μ else none) = some k := h
    by_cases c : okS x = true
    · rw [if_pos c] at h
      rw [gP, gTx_pure c]
      exact h
    · rw [if_neg c] at h
      cases h
  | tup ps =>
    rw [gP]
    show some (!(gPs ν ps).isEmpty) = some k
    rw [gPs_emp]
    exact h
  | ref i =>
    rw [gP]
    show (seqAt (gM ν μ) i).map (fun ps => !ps.isEmpty) = some k
    have h : (seqAt μ i).map (fun ps => !ps.isEmpty) = some k := h
    rw [gSeq]
    cases e : seqAt μ i with
    | none => rw [e] at h; cases h
    | some ps =>
      rw [e] at h
      show some (!(gPs ν ps).isEmpty) = some k
      rw [gPs_emp]
      exact h
  | _ => rw [gP]; exact h
noncomputable def dTruG (d : DE) : DT := fun η μ => (d η μ).bind fun p μ1 => match truthG p μ1 with
  | some k => .ok k μ1
  | none => .bad
noncomputable def dOrVG (a b : DE) : DE := fun η μ => (a η μ).bind fun p μ1 => match truthG p μ1 with
  | some k => if k = true then .ok p μ1 else b η μ1
  | none => .bad
noncomputable def dAndVG (a b : DE) : DE := fun η μ => (a η μ).bind fun p μ1 => match truthG p μ1 with
  | some k => if k = true then b η μ1 else .ok p μ1
  | none => .bad
noncomputable def dNotVG (a : DE) : DE := fun η μ => (a η μ).bind fun p μ1 => match truthG p μ1 with
  | some k => .ok (.bl (!k)) μ1
  | none => .bad
theorem qTru {d d' : DE} (h : QE ν d d') : QT ν (dTruG d) (dTru d') := fun η μ => SG.bind (h η μ) fun p μ1 => by
  cases e : truthG p μ1 with
  | none => exact SG.bad
  | some k =>
    show SG ν id (.ok k μ1) (match truth (gP ν p) (gM ν μ1) with | some k => .ok k (gM ν μ1) | none => .bad)
    rw [gTruth e]
    exact SG.ok rfl
theorem qOrV {a a' b b' : DE} (h1 : QE ν a a') (h2 : QE ν b b') : QE ν (dOrVG a b) (dOrV a' b') := fun η μ => SG.bind (h1 η μ) fun p μ1 => by
  cases e : truthG p μ1 with
  | none => exact SG.bad
  | some k =>
    show SG ν (gP ν) (if k = true then .ok p μ1 else b η μ1) (match truth (gP ν p) (gM ν μ1) with | some k => if k = true then .ok (gP ν p) (gM ν μ1) else b' (gE ν η) (gM ν μ1) | none => .bad)
    rw [gTruth e]
    exact SG.ite Iff.rfl (fun _ => SG.ok rfl) fun _ => h2 η μ1
theorem qAndV {a a' b b' : DE} (h1 : QE ν a a') (h2 : QE ν b b') : QE ν (dAndVG a b) (dAndV a' b') := fun η μ => SG.bind (h1 η μ) fun p μ1 => by
  cases e : truthG p μ1 with
  | none => exact SG.bad
  | some k =>
    show SG ν (gP ν) (if k = true then b η μ1 else .ok p μ1) (match truth (gP ν p) (gM ν μ1) with | some k => if k = true then b' (gE ν η) (gM ν μ1) else .ok (gP ν p) (gM ν μ1) | none => .bad)
    rw [gTruth e]
    exact SG.ite Iff.rfl (fun _ => h2 η μ1) fun _ => SG.ok rfl
theorem qNotV {a a' : DE} (h1 : QE ν a a') : QE ν (dNotVG a) (dNotV a') := fun η μ => SG.bind (h1 η μ) fun p μ1 => by
  cases e : truthG p μ1 with
  | none => exact SG.bad
  | some k =>
    show SG ν (gP ν) (.ok (.bl (!k)) μ1) (match truth (gP ν p) (gM ν μ1) with | some k => .ok (.bl (!k)) (gM ν μ1) | none => .bad)
    rw [gTruth e]
    exact SG.ok (by rw [gP])
theorem qChain {f f' g g' : VF} {a a' b b' c c' : DE} (hf : QF ν f f') (hg : QF ν g g') (h1 : QE ν a a') (h2 : QE ν b b') (h3 : QE ν c c') : QE ν (dChain f g a b c) (dChain f' g' a' b' c') := fun η μ =>
  SG.bind (h1 η μ) fun x μ1 => SG.bind (h2 η μ1) fun y μ2 => SG.bind (gb := gP ν) (by have := hf [x, y] μ2; rw [gPs, gPs, gPs] at this; exact this) fun z μ3 => by
    cases z with
    | bl k =>
      rw [gP]
      exact SG.ite Iff.rfl (fun _ => SG.bind (h3 η μ3) fun u μ4 => by have := hg [y, u] μ4; rw [gPs, gPs, gPs] at this; exact this) fun _ => SG.ok (by rw [gP])
    | _ => exact SG.bad
theorem qStar {d d' : DE} {ds ds' : DA} (h1 : QE ν d d') (h2 : QA ν ds ds') : QA ν (dStar d ds) (dStar d' ds') := fun η μ => SG.bind (h1 η μ) fun p μ1 => by
  cases e : items p μ1 with
  | none => exact SG.bad
  | some ps =>
    show SG ν (gPs ν) ((ds η μ1).bind fun qs μ2 => .ok (ps ++ qs) μ2) (match items (gP ν p) (gM ν μ1) with | some ps => (ds' (gE ν η) (gM ν μ1)).bind fun qs μ2 => .ok (ps ++ qs) μ2 | none => .bad)
    rw [gItems, e]
    exact SG.bind (h2 η μ1) fun qs μ2 => SG.ok (by rw [gPs_app])
/-! ### statements -/
theorem qsNil : QS ν sNil sNil := fun η μ => SG.ok rfl
theorem qsSeq {a a' b b' : DS} (h1 : QS ν a a') (h2 : QS ν b b') : QS ν (sSeq a b) (sSeq a' b') := fun η μ => SG.bind (h1 η μ) fun o μ1 => by
  obtain ⟨o, η1⟩ := o
  cases o with
  | nx => exact h2 η1 μ1
  | _ => exact SG.ok rfl
theorem qsExpr {d d' : DE} (h : QE ν d d') : QS ν (sExpr d) (sExpr d') := fun η μ => SG.bind (h η μ) fun p μ1 => SG.ok rfl
theorem qsRet {d d' : DE} (h : QE ν d d') : QS ν (sRet d) (sRet d') := fun η μ => SG.bind (h η μ) fun p μ1 => SG.ok rfl
theorem qsRetN : QS ν sRetN sRetN := fun η μ => SG.ok (by unfold gOut; simp only [gP]; rfl)
theorem qsIf {c c' : DT} {a a' b b' : DS} (hc : QT ν c c') (ha : QS ν a a') (hb : QS ν b b') : QS ν (sIf c a b) (sIf c' a' b') := fun η μ => SG.bind (hc η μ) fun k μ1 => SG.ite (c := k = true) (c' := k = true) Iff.rfl (fun _ => ha η μ1) fun _ => hb η μ1
theorem qsBreak : QS ν sBreak sBreak := fun η μ => SG.ok rfl
theorem qsCont : QS ν sCont sCont := fun η μ => SG.ok rfl
theorem qsBad {s : DS} : QS ν sBad s := fun η μ => SG.bad
theorem qsAsg {d d' : DE} {g g' : DG} (h : QE ν d d') (hg : QG ν g g') : QS ν (sAsg d g) (sAsg d' g') := fun η μ => SG.bind (h η μ) fun p μ1 => SG.bind (hg p η μ1) fun η2 μ2 => SG.ok rfl
theorem qsPar {i j : Nat} {ds ds' : DA} (h : QA ν ds ds') : QS ν (sPar i j ds) (sPar i j ds') := fun η μ => SG.bind (h η μ) fun ps μ1 => by
  match ps with
  | [p, q] =>
    rw [gPs, gPs, gPs]
    exact SG.ok (by unfold gOut; simp only [gE_set])
  | [] => exact SG.bad
  | [_] => exact SG.bad
  | _ :: _ :: _ :: _ => exact SG.bad
theorem qsPar3 {i j l : Nat} {ds ds' : DA} (h : QA ν ds ds') : QS ν (sPar3 i j l ds) (sPar3 i j l ds') := fun η μ => SG.bind (h η μ) fun ps μ1 => by
  match ps with
  | [p, q, r] =>
    rw [gPs, gPs, gPs, gPs]
    exact SG.ok (by unfold gOut; simp only [gE_set])
  | [] => exact SG.bad
  | [_] => exact SG.bad
  | [_, _] => exact SG.bad
  | _ :: _ :: _ :: _ :: _ => exact SG.bad
theorem qgSet {i : Nat} : QG ν (gSet i) (gSet i) := fun p η μ => SG.ok (by rw [gE_set]; rfl)
theorem qgNil : QGs ν gNil' gNil' := fun ps η μ => by
  cases ps with
  | nil => exact SG.ok rfl
  | cons _ _ => exact SG.bad
theorem qgCons {g g' : DG} {gs gs' : List PV → Env' → Sto → Rz Env'} (h1 : QG ν g g') (h2 : QGs ν gs gs') : QGs ν (gCons' g gs) (gCons' g' gs') := fun ps η μ => by
  cases ps with
  | nil => exact SG.bad
  | cons p r =>
    rw [gPs]
    exact SG.bind (h1 p η μ) fun η1 μ1 => h2 r η1 μ1
theorem qgTup {n : Nat} {gs gs' : List PV → Env' → Sto → Rz Env'} (h : QGs ν gs gs') : QG ν (gTupA n gs) (gTupA n gs') := fun p η μ => by
  unfold gTupA
  rw [gItems]
  cases items p μ with
  | none => exact SG.bad
  | some ps => exact SG.ite (by rw [gPs_len]) (fun _ => h ps η μ) fun _ => SG.bad
/-! ### loops -/
theorem q_forGo {gd gd' : Sto → Bool} {g g' : DG} {body body' : DS} (hgd : ∀ μ, gd μ = true → gd' (gM ν μ) = true) (hg : QG ν g g') (hb : QS ν body body') : ∀ (its : List PV) (η : Env') (μ : Sto), SG ν (gOut ν) (forGo gd g body its η μ) (forGo gd' g' body' (gPs ν its) (gE ν η) (gM ν μ))
  | [], η, μ => by
    rw [gPs]
    unfold forGo
    refine SG.guard fun c => ?_
    rw [if_pos (hgd μ c)]
    exact SG.ok rfl
  | p :: rest, η, μ => by
    rw [gPs]
    unfold forGo
    refine SG.guard fun c => ?_
    rw [if_pos (hgd μ c)]
    refine SG.bind (hg p η μ) fun η1 μ1 => SG.bind (hb η1 μ1) fun o μ2 => ?_
    obtain ⟨o, η2⟩ := o
    cases o with
    | nx => exact q_forGo hgd hg hb rest η2 μ2
    | ct => exact q_forGo hgd hg hb rest η2 μ2
    | bk => exact SG.ok rfl
    | rt v => exact SG.ok rfl
theorem qsFor {di di' : DI} {g g' : DG} {body body' : DS} (hi : QI ν di di') (hg : QG ν g g') (hb : QS ν body body') : QS ν (sFor di g body) (sFor di' g' body') := fun η μ => by
  unfold sFor
  cases e : di η μ with
  | ok a μ1 =>
    obtain ⟨its, gd⟩ := a
    obtain ⟨gd', e1, e2⟩ := hi η μ its gd μ1 e
    rw [e1]
    exact q_forGo e2 hg hb its η μ1
  | err C v μ1 => exact SG.err
  | bad => exact SG.bad
theorem SG.calm {α : Type} {g : α → α} {x y : Rz α} (h : SG ν g x y) : SG ν g (calmR x) (calmR y) := by
  cases x with
  | ok a μ =>
    rw [h a μ rfl]
    exact SG.ok rfl
  | _ => exact SG.bad
abbrev QL (el el' : Env' → Sto → List PV → Rz (List PV)) : Prop := ∀ η μ acc, SG ν (gPs ν) (el η μ acc) (el' (gE ν η) (gM ν μ) (gPs ν acc))
theorem q_lcGo {gd gd' : Sto → Bool} {g g' : DG} {tt tt' : DT} {el el' : Env' → Sto → List PV → Rz (List PV)} (hgd : ∀ μ, gd μ = true → gd' (gM ν μ) = true) (hg : QG ν g g') (ht : QT ν tt tt') (hl : QL (ν := ν) el el') (η : Env') :
    ∀ (its acc : List PV) (μ : Sto), SG ν (gPs ν) (lcGo gd g tt el η its acc μ) (lcGo gd' g' tt' el' (gE ν η) (gPs ν its) (gPs ν acc) (gM ν μ))
  | [], acc, μ => by
    rw [gPs]
    unfold lcGo
    refine SG.guard fun c => ?_
    rw [if_pos (hgd μ c)]
    exact SG.ok rfl
  | p :: rest, acc, μ => by
    rw [gPs]
    unfold lcGo
    refine SG.guard fun c => ?_
    rw [if_pos (hgd μ c)]
    refine SG.bind (SG.calm (hg p η μ)) fun η1 μ1 => SG.bind (SG.calm (ht η1 μ1)) fun k μ2 => ?_
    refine SG.ite (c := k = true) (c' := k = true) Iff.rfl (fun _ => ?_) fun _ => q_lcGo hgd hg ht hl η rest acc μ2
    exact SG.bind (SG.calm (hl η1 μ2 acc)) fun acc' μ3 => q_lcGo hgd hg ht hl η rest acc' μ3
theorem q_elOne {d d' : DE} (h : QE ν d d') : QL (ν := ν) (elOne d) (elOne d') := fun η μ acc => by
  unfold elOne
  rw [gPs_len]
  exact SG.ite Iff.rfl (fun _ => SG.bind (h η μ) fun p μ1 => SG.ok (by rw [gPs_app, gPs, gPs])) fun _ => SG.bad
theorem q_lcEnd (acc : List PV) (μ : Sto) : SG ν (gP ν) (lcEnd acc μ) (lcEnd (gPs ν acc) (gM ν μ)) := SG.ok (by unfold lcEnd; rw [gM_app, gM_len, gP, gO])
theorem qLc {di di' : DI} {g g' : DG} {tt tt' : DT} {d d' : DE} {vs : List Nat} (hi : QI ν di di') (hg : QG ν g g') (ht : QT ν tt tt') (hd : QE ν d d') : QE ν (dLc di g tt d vs) (dLc di' g' tt' d' vs) := fun η μ => by
  unfold dLc
  cases e : di η μ with
  | ok a μ1 =>
    obtain ⟨its, gd⟩ := a
    obtain ⟨gd', e1, e2⟩ := hi η μ its gd μ1 e
    rw [e1]
    refine SG.bind (ga := gPs ν) ?_ q_lcEnd
    have := q_lcGo e2 hg ht (q_elOne hd) (wipeE η vs) its [] μ1
    rw [gE_wipe, gPs] at this
    exact this
  | err C v μ1 => exact SG.err
  | bad => exact SG.bad
theorem q_el2 {di di' : DI} {g g' : DG} {tt tt' : DT} {d d' : DE} {vs : List Nat} (hi : QI ν di di') (hg : QG ν g g') (ht : QT ν tt tt') (hd : QE ν d d') : QL (ν := ν) (el2 di g tt d vs) (el2 di' g' tt' d' vs) := fun η μ acc => by
  unfold el2
  cases e : di η μ with
  | ok a μ1 =>
    obtain ⟨its, gd⟩ := a
    obtain ⟨gd', e1, e2⟩ := hi η μ its gd μ1 e
    rw [e1]
    have := q_lcGo e2 hg ht (q_elOne hd) (wipeE η vs) its acc μ1
    rw [gE_wipe] at this
    exact this
  | err C v μ1 => exact SG.err
  | bad => exact SG.bad
theorem qLc2 {di di' di1 di1' : DI} {g g' g1 g1' : DG} {tt tt' tt1 tt1' : DT} {d d' : DE} {vs vs1 : List Nat} (hi : QI ν di di') (hg : QG ν g g') (ht : QT ν tt tt') (hi1 : QI ν di1 di1') (hg1 : QG ν g1 g1') (ht1 : QT ν tt1 tt1') (hd : QE ν d d') :
    QE ν (dLc2 di g tt di1 g1 tt1 d vs vs1) (dLc2 di' g' tt' di1' g1' tt1' d' vs vs1) := fun η μ => by
  unfold dLc2
  cases e : di η μ with
  | ok a μ1 =>
    obtain ⟨its, gd⟩ := a
    obtain ⟨gd', e1, e2⟩ := hi η μ its gd μ1 e
    rw [e1]
    refine SG.bind (ga := gPs ν) ?_ q_lcEnd
    have := q_lcGo e2 hg ht (q_el2 (vs := vs1) hi1 hg1 ht1 hd) (wipeE η vs) its [] μ1
    rw [gE_wipe, gPs] at this
    exact this
  | err C v μ1 => exact SG.err
  | bad => exact SG.bad
theorem qYes : QT ν tYes' tYes' := fun η μ => SG.ok rfl
/-! ### defs -/
theorem qBody {np n : Nat} {s s' : DS} (h : QS ν s s') : QF ν (fnBody np n s) (fnBody np n s') := fun ps μ => by
  unfold fnBody
  rw [gPs_len]
  refine SG.ite Iff.rfl (fun _ => ?_) fun _ => SG.bad
  have e : (gPs ν ps).map some ++ List.replicate (n - np) none = gE ν (ps.map some ++ List.replicate (n - np) none) := by
    simp [gE, gPs_map]
  rw [e]
  refine SG.bind (h _ μ) fun o μ1 => ?_
  obtain ⟨o, η1⟩ := o
  cases o with
  | rt v => exact SG.ok rfl
  | nx => exact SG.ok (by rw [gP]; rfl)
  | _ => exact SG.bad
end
end DL
/-! D36: operations with letters -/
namespace DL
open PySem PySem.Spec PyProof.Rows L2
section
variable {ν : Nat → List Nat} {n : Nat}
/-! ### numbers -/
theorem q_vSub : QF ν vSub vSub := fun ps μ a μ' e => by
  unfold vSub at e
  split at e
  · cases e; simp only [gPs, gP, vSub]
  · cases e
theorem q_vDiv : QF ν vDiv vDiv := fun ps μ a μ' e => by
  unfold vDiv at e
  split at e
  · split at e
    · rename_i c
      cases e; simp only [gPs, gP, vDiv, if_pos c]
    · cases e
  · cases e
theorem q_vMod : QF ν vMod vMod := fun ps μ a μ' e => by
  unfold vMod at e
  split at e
  · split at e
    · rename_i c
      cases e; simp only [gPs, gP, vMod, if_pos c]
    · cases e
  · cases e
theorem q_vPow : QF ν vPow vPow := fun ps μ a μ' e => by
  unfold vPow at e
  split at e
  · split at e
    · rename_i c
      cases e; simp only [gPs, gP, vPow, if_pos c]
    · cases e
  · cases e
theorem q_vNeg : QF ν vNeg vNeg := fun ps μ a μ' e => by
  unfold vNeg at e
  split at e
  · cases e; simp only [gPs, gP, vNeg]
  · cases e
theorem q_cmpI {f : Int → Int → Bool} : QF ν (cmpI f) (cmpI f) := fun ps μ a μ' e => by
  unfold cmpI at e
  split at e
  · cases e; simp only [gPs, gP, cmpI]
  · cases e
theorem q_vLt : QF ν vLt vLt := q_cmpI
theorem q_vLe : QF ν vLe vLe := q_cmpI
theorem q_vGt : QF ν vGt vGt := q_cmpI
theorem q_vGe : QF ν vGe vGe := q_cmpI
theorem isNon_g (p : PV) : isNon (gP ν p) = isNon p := by cases p <;> rw [gP] <;> rfl
theorem q_vIs : QF ν vIs vIs := fun ps μ a μ' e => by
  unfold vIs at e
  split at e
  · cases e; simp only [gPs, gP, vIs, isNon_g]
  · cases e; simp only [gPs, gP, vIs]
  · cases e
theorem q_vIsNot : QF ν vIsNot vIsNot := fun ps μ a μ' e => by
  unfold vIsNot at e
  split at e
  · cases e; simp only [gPs, gP, vIsNot, isNon_g]
  · cases e; simp only [gPs, gP, vIsNot]
  · cases e
theorem q_vAbs : QF ν vAbs vAbs := fun ps μ a μ' e => by
  unfold vAbs at e
  split at e
  · cases e; simp only [gPs, gP, vAbs]
  · cases e
theorem q_vMax2 : QF ν vMax2 vMax2 := fun ps μ a μ' e => by
  unfold vMax2 at e
  split at e
  · cases e; simp only [gPs, gP, vMax2]
  · cases e
theorem q_vMin2 : QF ν vMin2 vMin2 := fun ps μ a μ' e => by
  unfold vMin2 at e
  split at e
  · cases e; simp only [gPs, gP, vMin2]
  · cases e
noncomputable def vIntG : VF := fun xs μ => match xs with
  | [.int i] => .ok (.int i) μ
  | [.bl k] => .ok (.int (if k then 1 else 0)) μ
  | [.str a] => if okS a = true then vInt [.str a] μ else .bad
  | _ => .bad
theorem int_str {a : Str} {μ μ' : Sto} {r : PV} (e : vInt [.str a] μ = .ok r μ') : ∃ n, r = .int n ∧ μ' = μ ∧ ∀ μ2, vInt [.str a] μ2 = .ok (.int n) μ2 := by
  have e : (match PySem.intText? a with | some n => if a.length ≤ 640 then Rz.ok (PV.int n) μ else .bad | none => .bad) = .ok r μ' := e
  cases h : PySem.intText? a with
  | none => rw [h] at e; cases e
  | some n =>
    rw [h] at e
    by_cases c : a.length ≤ 640
    · have e : (if a.length ≤ 640 then Rz.ok (PV.int n) μ else .bad) = .ok r μ' := e
      rw [if_pos c] at e
      cases e
      refine ⟨n, rfl, rfl, fun μ2 => ?_⟩
      show (match PySem.intText? a with | some n => if a.length ≤ 640 then Rz.ok (PV.int n) μ2 else .bad | none => .bad) = _
      rw [h]
      exact if_pos c
    · have e : (if a.length ≤ 640 then Rz.ok (PV.int n) μ else .bad) = .ok r μ' := e
      rw [if_neg c] at e
      cases e
theorem q_vInt : QF ν vIntG vInt := fun ps μ a μ' e => by
  unfold vIntG at e
  split at e
  · cases e; simp only [gPs, gP, vInt]
  · cases e; simp only [gPs, gP, vInt]
  · split at e
    · rename_i c
      obtain ⟨m, rfl, rfl, h⟩ := int_str e
      simp only [gPs, gP, gTx_pure c, h]
    · cases e
  · cases e
/-! ### tuples, lists -/
theorem q_vTup : QF ν vTup vTup := fun ps μ => by
  unfold vTup
  rw [gPs_len]
  exact SG.ite Iff.rfl (fun _ => SG.ok (by rw [gP])) fun _ => SG.bad
theorem q_vLst : QF ν vLst vLst := fun ps μ => by
  unfold vLst
  rw [gPs_len, gM_len]
  exact SG.ite Iff.rfl (fun _ => SG.ok (by rw [gM_app, gP, gO])) fun _ => SG.bad
theorem gPs_rep (k : Nat) (ps : List PV) : gPs ν (List.replicate k ps).flatten = (List.replicate k (gPs ν ps)).flatten := by
  induction k with
  | zero => rfl
  | succ k ih => rw [List.replicate_succ, List.replicate_succ, List.flatten_cons, List.flatten_cons, gPs_app, ih]
theorem gPs_nil {ps : List PV} : gPs ν ps = [] ↔ ps = [] := by
  cases ps with
  | nil => simp [gPs]
  | cons p r => simp [gPs]
theorem q_vMul : QF ν vMul vMul := fun ps μ a μ' e => by
  unfold vMul at e
  split at e
  · split at e
    · rename_i c
      cases e; simp only [gPs, gP, vMul, if_pos c]
    · cases e
  · rename_i i k
    split at e
    · rename_i qs hq
      split at e
      · rename_i c
        cases e
        simp only [gPs, gP, vMul, gLst, hq, Option.map_some, gPs_len, if_pos c, gM_len, gM_app, gO, gPs_rep]
      · cases e
    · cases e
  · split at e
    · rename_i c
      cases e
      simp only [gPs, gP, vMul, gPs_len, ne_eq, gPs_nil, if_pos c, gPs_rep]
    · cases e
  · cases e
theorem q_vMulA : QF ν vMulA vMulA := fun ps μ a μ' e => by
  unfold vMulA at e
  split at e
  · rename_i qs k
    split at e
    · rename_i c
      cases e
      simp only [gPs, gP, vMulA, if_pos c]
    · rename_i c
      have := q_vMul (ν := ν) [.tup qs, .int k] μ a μ' e
      simp only [gPs, gP] at this ⊢
      simp only [vMulA, if_neg c]
      exact this
  · rename_i p q h
    have := q_vMul (ν := ν) [p, q] μ a μ' e
    simp only [gPs] at this ⊢
    unfold vMulA
    split
    · rename_i ps' k' hh
      injection hh with h1 h2
      injection h2 with h2 _
      have hp : ∃ qs, p = .tup qs := by cases p <;> simp [gP] at h1 <;> exact ⟨_, rfl⟩
      have hq : ∃ k, q = .int k := by cases q <;> simp [gP] at h2 <;> exact ⟨_, rfl⟩
      obtain ⟨qs, rfl⟩ := hp
      obtain ⟨k, rfl⟩ := hq
      exact absurd rfl (h _ _ · rfl)
    · rename_i hh
      cases hh
      exact this
    · rename_i hh
      exact absurd rfl (hh _ _)
  · cases e
/-! ### lists: changed, made -/
theorem gPs_append1 (ps : List PV) (p : PV) : gPs ν (ps ++ [p]) = gPs ν ps ++ [gP ν p] := by rw [gPs_app, gPs, gPs]
theorem q_vAppend : QF ν vAppend vAppend := fun ps μ a μ' e => by
  unfold vAppend at e
  split at e
  · rename_i i p
    split at e
    · rename_i qs hq
      split at e
      · rename_i c
        cases e
        simp only [gPs, gP, vAppend, gLst, hq, Option.map_some, gPs_len, if_pos c, gM_set, gO, gPs_append1]
      · cases e
    · cases e
  · cases e
theorem q_vExtend : QF ν vExtend vExtend := fun ps μ a μ' e => by
  unfold vExtend at e
  split at e
  · rename_i i j
    split at e
    · rename_i qs rs hq hr
      split at e
      · rename_i c
        cases e
        simp only [gPs, gP, vExtend, gLst, hq, hr, Option.map_some, gPs_len, if_pos c, gM_set, gO, gPs_app]
      · cases e
    · cases e
  · cases e
theorem gPs_dropLast (ps : List PV) : gPs ν ps.dropLast = (gPs ν ps).dropLast := by rw [gPs_map, gPs_map, List.map_dropLast]
theorem erase_map' {α β : Type} (f : α → β) : ∀ (l : List α) (a : Nat), (l.map f).eraseIdx a = (l.eraseIdx a).map f
  | [], _ => rfl
  | x :: xs, 0 => rfl
  | x :: xs, a + 1 => by
    show f x :: (xs.map f).eraseIdx a = f x :: (xs.eraseIdx a).map f
    rw [erase_map' f xs a]
theorem gPs_erase (ps : List PV) (k : Nat) : gPs ν (ps.eraseIdx k) = (gPs ν ps).eraseIdx k := by rw [gPs_map, gPs_map, erase_map']
theorem q_vPop : QF ν vPop vPop := fun ps μ a μ' e => by
  unfold vPop at e
  split at e
  · rename_i i
    split at e
    · rename_i qs hq
      split at e
      · rename_i p hp
        cases e
        simp only [gPs, gP, vPop, gLst, hq, Option.map_some, gPs_len, gPs_get, hp, gM_set, gO, gPs_dropLast]
      · cases e
    · cases e
  · rename_i i z
    split at e
    · rename_i qs hq
      split at e
      · rename_i c
        split at e
        · rename_i k hk
          split at e
          · rename_i p hp
            cases e
            simp only [gPs, gP, vPop, gLst, hq, Option.map_some, gPs_len, if_pos c, hk, gPs_get, hp, gM_set, gO, gPs_erase]
          · cases e
        · cases e
      · cases e
    · cases e
  · cases e
theorem ints_g : ∀ {ps : List PV} {l : List Int}, intsL ps = some l → intsL (gPs ν ps) = some l
  | [], _, h => by rw [gPs]; exact h
  | p :: ps, l, h => by
    cases p with
    | int i =>
      obtain ⟨m, e, rfl⟩ := Option.map_eq_some_iff.mp (show (intsL ps).map (i :: ·) = some l from h)
      rw [gPs, gP]
      show (intsL (gPs ν ps)).map (i :: ·) = _
      rw [ints_g e]
      rfl
    | _ => cases h
theorem bools_g : ∀ {ps : List PV} {l : List Bool}, boolsL ps = some l → boolsL (gPs ν ps) = some l
  | [], _, h => by rw [gPs]; exact h
  | p :: ps, l, h => by
    cases p with
    | bl i =>
      obtain ⟨m, e, rfl⟩ := Option.map_eq_some_iff.mp (show (boolsL ps).map (i :: ·) = some l from h)
      rw [gPs, gP]
      show (boolsL (gPs ν ps)).map (i :: ·) = _
      rw [bools_g e]
      rfl
    | _ => cases h
theorem q_v1L {α : Type} {g : List PV → Option α} {k : α → PV} (hg : ∀ ps a, g ps = some a → g (gPs ν ps) = some a) (hk : ∀ a, gP ν (k a) = k a) : QF ν (v1L g k) (v1L g k) := fun ps μ a μ' e => by
  unfold v1L at e
  split at e
  · rename_i i
    split at e
    · rename_i x hx
      cases e
      obtain ⟨qs, h1, h2⟩ := Option.bind_eq_some_iff.mp hx
      simp only [gPs, gP, v1L, gSeq, h1, Option.map_some, Option.bind_some, hg _ _ h2, hk]
    · cases e
  · cases e
theorem q_vSum : QF ν vSum vSum := q_v1L (fun _ _ h => ints_g h) fun a => by rw [gP]
theorem q_vAny : QF ν vAny vAny := q_v1L (fun _ _ h => bools_g h) fun a => by rw [gP]
theorem q_vAll : QF ν vAll vAll := q_v1L (fun _ _ h => bools_g h) fun a => by rw [gP]
/-! ### texts joined: room for the names -/
theorem gC_len (N : Nam ν n) (c : Nat) : (gC ν c).length ≤ 8 := by
  unfold gC
  split
  · show 1 ≤ 8; omega
  · exact N.len _
theorem gN_len (N : Nam ν n) : ∀ l : List Nat, (gN ν l).length ≤ 8 * l.length
  | [] => Nat.zero_le _
  | c :: r => by
    rw [gN, List.length_append, List.length_cons]
    have := gC_len N c
    have := gN_len N r
    omega
theorem gTx_len (N : Nam ν n) (x : Str) : (gTx ν x).length ≤ 8 * x.length := by
  obtain ⟨⟨l⟩⟩ := x
  exact gN_len N l
theorem gN_app (a b : List Nat) : gN ν (a ++ b) = gN ν a ++ gN ν b := by
  induction a with
  | nil => rfl
  | cons c r ih => rw [List.cons_append, gN, gN, ih, List.append_assoc]
theorem gTx_app (x y : Str) : gTx ν (x ++ y) = gTx ν x ++ gTx ν y := by
  obtain ⟨⟨a⟩⟩ := x
  obtain ⟨⟨b⟩⟩ := y
  have e : ((⟨⟨a⟩⟩ : Str) ++ ⟨⟨b⟩⟩) = ⟨⟨a ++ b⟩⟩ := by
    show (⟨(⟨a⟩ : Array Nat) ++ ⟨b⟩⟩ : Str) = _
    simp
  have e2 : ((⟨⟨gN ν a⟩⟩ : Str) ++ ⟨⟨gN ν b⟩⟩) = ⟨⟨gN ν a ++ gN ν b⟩⟩ := by
    show (⟨(⟨gN ν a⟩ : Array Nat) ++ ⟨gN ν b⟩⟩ : Str) = _
    simp
  rw [e]
  show (⟨⟨gN ν (a ++ b)⟩⟩ : Str) = ⟨⟨gN ν a⟩⟩ ++ ⟨⟨gN ν b⟩⟩
  rw [e2, gN_app]
noncomputable def vAddG : VF := fun xs μ => match xs with
  | [.str x, .str y] => if 8 * (x.length + y.length) ≤ sizeLine then .ok (.str (x ++ y)) μ else .bad
  | xs => vAdd xs μ
theorem q_vAdd (N : Nam ν n) : QF ν vAddG vAdd := fun ps μ a μ' e => by
  unfold vAddG at e
  split at e
  · rename_i x y
    split at e
    · rename_i c
      cases e
      have h1 := gTx_len N x
      have h2 := gTx_len N y
      simp only [gPs, gP, vAdd, gTx_app]
      exact if_pos (by omega)
    · cases e
  · rename_i hx
    unfold vAdd at e
    split at e
    · cases e; simp only [gPs, gP, vAdd]
    · exact absurd rfl (hx _ _)
    · split at e
      · rename_i c
        cases e; simp only [gPs, gP, vAdd, gPs_len, if_pos c, gPs_app]
      · cases e
    · split at e
      · rename_i qs rs hq hr
        split at e
        · rename_i c
          cases e
          simp only [gPs, gP, vAdd, gLst, hq, hr, Option.map_some, gPs_len, if_pos c, gM_len, gM_app, gO, gPs_app]
        · cases e
      · cases e
    · cases e
end
end DL
/-! D37: equality with letters, what lies in what, dicts -/
namespace DL
open PySem PySem.Spec PyProof.Rows L2
section
variable {ν : Nat → List Nat} {n : Nat}
/-! ### texts with letters: alike, or not, or not known -/
noncomputable def eqX (n : Nat) (a b : Str) : Option Bool := match eqS a b with
  | true => some true
  | false => match okS a && okS b with
    | true => some false
    | false => match a.cps.toList, b.cps.toList with
      | [], _ :: _ => some false
      | _ :: _, [] => some false
      | [c], [d] => if lim ≤ c ∧ lim ≤ d ∧ c - lim < n ∧ d - lim < n then some false else none
      | _, _ => none
theorem gC_ne (N : Nam ν n) (c : Nat) : gC ν c ≠ [] := by
  unfold gC
  split
  · simp
  · exact N.ne _
theorem gN_ne (N : Nam ν n) {c : Nat} {r : List Nat} : gN ν (c :: r) ≠ [] := by
  rw [gN]
  intro h
  exact gC_ne N c (List.append_eq_nil_iff.mp h).1
theorem eqX_ok (N : Nam ν n) {a b : Str} {r : Bool} (h : eqX n a b = some r) : eqS (gTx ν a) (gTx ν b) = r := by
  unfold eqX at h
  cases e : eqS a b with
  | true =>
    rw [e] at h
    cases h
    rw [eqS_iff.mp e]
    exact eqS_iff.mpr rfl
  | false =>
    rw [e] at h
    cases e2 : okS a && okS b with
    | true =>
      rw [e2] at h
      cases h
      rw [Bool.and_eq_true] at e2
      rw [gTx_pure e2.1, gTx_pure e2.2, e]
    | false =>
      rw [e2] at h
      have no : ∀ {x y : List Nat}, a.cps.toList = x → b.cps.toList = y → gN ν x ≠ gN ν y → eqS (gTx ν a) (gTx ν b) = false := fun {x y} h1 h2 h3 => by
        cases q : eqS (gTx ν a) (gTx ν b) with
        | false => rfl
        | true =>
          have z := eqN_iff.mp (show eqN (gN ν a.cps.toList) (gN ν b.cps.toList) = true from q)
          rw [h1, h2] at z
          exact absurd z h3
      simp only at h
      split at h
      · rename_i h1 h2
        cases h
        exact no h1 h2 fun z => gN_ne N (z.symm.trans rfl)
      · rename_i h1 h2
        cases h
        exact no h1 h2 fun z => gN_ne N (z.trans rfl)
      · rename_i c d h1 h2
        split at h
        · rename_i hc
          cases h
          refine no h1 h2 fun z => ?_
          simp only [gN, List.append_nil, gC, if_neg (Nat.not_lt.mpr hc.1), if_neg (Nat.not_lt.mpr hc.2.1)] at z
          have z2 := N.inj _ _ hc.2.2.1 hc.2.2.2 z
          have z3 : c = d := by omega
          subst z3
          have : a = b := by
            obtain ⟨⟨x⟩⟩ := a
            obtain ⟨⟨y⟩⟩ := b
            have h1 : x = [c] := h1
            have h2 : y = [c] := h2
            rw [h1, h2]
          rw [this, eqS_iff.mpr rfl] at e
          cases e
        · cases h
      · cases h
theorem okN_app (a b : List Nat) : okN (a ++ b) = (okN a && okN b) := by rw [okN_eq, okN_eq, okN_eq, List.all_append]
theorem okN_g (N : Nam ν n) : ∀ l : List Nat, okN (gN ν l) = true
  | [] => rfl
  | c :: r => by
    rw [gN, okN_app, okN_g N r, Bool.and_true, okN_eq, List.all_eq_true]
    intro d hd
    unfold gC at hd
    split at hd
    · rename_i hc
      rw [List.mem_singleton.mp hd]
      exact decide_eq_true hc
    · have := (N.ok _ d hd).2
      exact decide_eq_true (by omega)
theorem okS_g (N : Nam ν n) (x : Str) : okS (gTx ν x) = true := okN_g N _
/-! ### data without letters -/
theorem pdatL_g {f f' : PV → Option PyData} (h : ∀ p d, f p = some d → d.canLay0 = true → f' (gP ν p) = some d) : ∀ {ps : List PV} {ds : List PyData}, pdatL f ps = some ds → PyData.canLayAll0 ds = true → pdatL f' (gPs ν ps) = some ds
  | [], ds, e, _ => by rw [gPs]; exact e
  | p :: ps, ds, e, c => by
    unfold pdatL at e
    cases e1 : f p with
    | none => rw [e1] at e; cases e
    | some d =>
      rw [e1] at e
      cases e2 : pdatL f ps with
      | none => rw [e2] at e; cases e
      | some ds' =>
        rw [e2] at e
        cases e
        rw [PyData.canLayAll0, Bool.and_eq_true] at c
        rw [gPs]
        unfold pdatL
        rw [h p d e1 c.1, pdatL_g h e2 c.2]
theorem pdat_g {μ : Sto} : ∀ (k : Nat) (p : PV) (d : PyData), pdat μ k p = some d → d.canLay0 = true → pdat (gM ν μ) k (gP ν p) = some d
  | 0, p, d, e, c => by
    cases p with
    | str x =>
      cases e
      rw [gP, gTx_pure (by rw [okS_eq]; exact c)]
      rfl
    | non => rw [gP]; exact e
    | bl b => rw [gP]; exact e
    | int i => rw [gP]; exact e
    | _ => cases e
  | k + 1, p, d, e, c => by
    cases p with
    | str x =>
      cases e
      rw [gP, gTx_pure (by rw [okS_eq]; exact c)]
      rfl
    | non => rw [gP]; exact e
    | bl b => rw [gP]; exact e
    | int i => rw [gP]; exact e
    | tup ps =>
      obtain ⟨ds, e1, rfl⟩ := Option.map_eq_some_iff.mp (show (pdatL (pdat μ k) ps).map PyData.tuple = some d from e)
      rw [gP]
      show (pdatL (pdat (gM ν μ) k) (gPs ν ps)).map PyData.tuple = _
      rw [pdatL_g (fun p d => pdat_g k p d) e1 (by rw [PyData.canLay0] at c; exact c)]
      rfl
    | ref i =>
      have e : (match seqAt μ i with | some ps => (pdatL (pdat μ k) ps).map PyData.list | none => none) = some d := e
      rw [gP]
      show (match seqAt (gM ν μ) i with | some ps => (pdatL (pdat (gM ν μ) k) ps).map PyData.list | none => none) = some d
      rw [gSeq]
      cases q : seqAt μ i with
      | none => rw [q] at e; cases e
      | some ps =>
        rw [q] at e
        obtain ⟨ds, e1, rfl⟩ := Option.map_eq_some_iff.mp e
        show (pdatL (pdat (gM ν μ) k) (gPs ν ps)).map PyData.list = _
        rw [pdatL_g (fun p d => pdat_g k p d) e1 (by rw [PyData.canLay0] at c; exact c)]
        rfl
    | _ => cases e
theorem gK_emp (l : List (PV × PV)) : (gK ν l).isEmpty = l.isEmpty := by cases l <;> rfl
theorem dEmp_g (μ : Sto) (p q : PV) : dEmp (gM ν μ) (gP ν p) (gP ν q) = dEmp μ p q := by
  cases p <;> cases q <;> simp only [gP] <;> try rfl
  rename_i i j
  show (match dctAt (gM ν μ) i, dctAt (gM ν μ) j with | some kvs, some [] => some kvs.isEmpty | _, _ => none) = (match dctAt μ i, dctAt μ j with | some kvs, some [] => some kvs.isEmpty | _, _ => none)
  rw [gDct, gDct]
  cases dctAt μ i with
  | none => rfl
  | some a =>
    cases dctAt μ j with
    | none => rfl
    | some b =>
      cases b with
      | nil => simp only [Option.map_some, gK, gK_emp]
      | cons _ _ => rfl
theorem shaped_lay {d e : PyData} (h : (SeqAt.shaped d && SeqAt.shaped e) = true) : d.canLay0 = true ∧ e.canLay0 = true := by
  rw [Bool.and_eq_true] at h
  exact ⟨SeqAt.canLay_of_shaped h.1, SeqAt.canLay_of_shaped h.2⟩
theorem q_vEqA : QF ν vEqA vEqA := fun ps μ a μ' e => by
  match ps, e with
  | [p, q], e =>
    have e : (match dEmp μ p q with | some b => Rz.ok (PV.bl b) μ | none => vEq [p, q] μ) = .ok a μ' := e
    simp only [gPs]
    show (match dEmp (gM ν μ) (gP ν p) (gP ν q) with | some b => Rz.ok (PV.bl b) (gM ν μ) | none => vEq [gP ν p, gP ν q] (gM ν μ)) = _
    rw [dEmp_g]
    cases h : dEmp μ p q with
    | some b => rw [h] at e; cases e; simp only [gP]
    | none =>
      rw [h] at e
      have e : (match pdat μ 12 p, pdat μ 12 q with | some d, some e => if (SeqAt.shaped d && SeqAt.shaped e) = true then Rz.ok (PV.bl (PyData.eqv d e)) μ else .bad | _, _ => .bad) = .ok a μ' := e
      cases h1 : pdat μ 12 p with
      | none => rw [h1] at e; cases e
      | some d1 =>
        cases h2 : pdat μ 12 q with
        | none => rw [h1, h2] at e; cases e
        | some d2 =>
          rw [h1, h2] at e
          have e : (if (SeqAt.shaped d1 && SeqAt.shaped d2) = true then Rz.ok (PV.bl (PyData.eqv d1 d2)) μ else .bad) = .ok a μ' := e
          by_cases c : (SeqAt.shaped d1 && SeqAt.shaped d2) = true
          · rw [if_pos c] at e
            cases e
            show (match pdat (gM ν μ) 12 (gP ν p), pdat (gM ν μ) 12 (gP ν q) with | some d, some e => if (SeqAt.shaped d && SeqAt.shaped e) = true then Rz.ok (PV.bl (PyData.eqv d e)) (gM ν μ) else .bad | _, _ => .bad) = _
            rw [pdat_g 12 p d1 h1 (shaped_lay c).1, pdat_g 12 q d2 h2 (shaped_lay c).2]
            simp only [gP]
            exact if_pos c
          · rw [if_neg c] at e
            cases e
theorem q_vNeA : QF ν vNeA vNeA := fun ps μ a μ' e => by
  match ps, e with
  | [p, q], e =>
    have e : (match dEmp μ p q with | some b => Rz.ok (PV.bl (!b)) μ | none => vNe [p, q] μ) = .ok a μ' := e
    simp only [gPs]
    show (match dEmp (gM ν μ) (gP ν p) (gP ν q) with | some b => Rz.ok (PV.bl (!b)) (gM ν μ) | none => vNe [gP ν p, gP ν q] (gM ν μ)) = _
    rw [dEmp_g]
    cases h : dEmp μ p q with
    | some b => rw [h] at e; cases e; simp only [gP]
    | none =>
      rw [h] at e
      have e : (match pdat μ 12 p, pdat μ 12 q with | some d, some e => if (SeqAt.shaped d && SeqAt.shaped e) = true then Rz.ok (PV.bl (!PyData.eqv d e)) μ else .bad | _, _ => .bad) = .ok a μ' := e
      cases h1 : pdat μ 12 p with
      | none => rw [h1] at e; cases e
      | some d1 =>
        cases h2 : pdat μ 12 q with
        | none => rw [h1, h2] at e; cases e
        | some d2 =>
          rw [h1, h2] at e
          have e : (if (SeqAt.shaped d1 && SeqAt.shaped d2) = true then Rz.ok (PV.bl (!PyData.eqv d1 d2)) μ else .bad) = .ok a μ' := e
          by_cases c : (SeqAt.shaped d1 && SeqAt.shaped d2) = true
          · rw [if_pos c] at e
            cases e
            show (match pdat (gM ν μ) 12 (gP ν p), pdat (gM ν μ) 12 (gP ν q) with | some d, some e => if (SeqAt.shaped d && SeqAt.shaped e) = true then Rz.ok (PV.bl (!PyData.eqv d e)) (gM ν μ) else .bad | _, _ => .bad) = _
            rw [pdat_g 12 p d1 h1 (shaped_lay c).1, pdat_g 12 q d2 h2 (shaped_lay c).2]
            simp only [gP]
            exact if_pos c
          · rw [if_neg c] at e
            cases e
noncomputable def vEqG (n : Nat) : VF := fun xs μ => match xs with
  | [.str a, .str b] => match eqX n a b with
    | some r => .ok (.bl r) μ
    | none => .bad
  | xs => vEqF xs μ
noncomputable def vNeG (n : Nat) : VF := fun xs μ => match xs with
  | [.str a, .str b] => match eqX n a b with
    | some r => .ok (.bl (!r)) μ
    | none => .bad
  | xs => vNeF xs μ
theorem q_vEq (N : Nam ν n) : QF ν (vEqG n) vEqA := fun ps μ a μ' e => by
  unfold vEqG at e
  split at e
  · rename_i x y
    split at e
    · rename_i r h
      cases e
      simp only [gPs, gP]
      rw [← vEqF_eq]
      show (if (okS (gTx ν x) && okS (gTx ν y)) = true then Rz.ok (PV.bl (eqS (gTx ν x) (gTx ν y))) (gM ν μ) else .bad) = _
      rw [okS_g N, okS_g N, eqX_ok N h]
      rfl
    · cases e
  · rw [vEqF_eq] at e
    exact q_vEqA _ _ _ _ e
theorem q_vNe (N : Nam ν n) : QF ν (vNeG n) vNeA := fun ps μ a μ' e => by
  unfold vNeG at e
  split at e
  · rename_i x y
    split at e
    · rename_i r h
      cases e
      simp only [gPs, gP]
      rw [← vNeF_eq]
      show (if (okS (gTx ν x) && okS (gTx ν y)) = true then Rz.ok (PV.bl (!eqS (gTx ν x) (gTx ν y))) (gM ν μ) else .bad) = _
      rw [okS_g N, okS_g N, eqX_ok N h]
      rfl
    · cases e
  · rw [vNeF_eq] at e
    exact q_vNeA _ _ _ _ e
end
end DL
/-! D38: with letters: data that holds none, dicts, in, len, items, cuts, split -/
namespace DL
open PySem PySem.Spec PyProof.Rows L2
section
variable {ν : Nat → List Nat} {n : Nat}
/-! ### without letters and numbers of things, so deep -/
noncomputable def okL (f : PV → Bool) (l : List PV) : Bool := List.rec (motive := fun _ => Bool) true (fun p _ ih => Bool.rec (motive := fun _ => Bool) false ih (f p)) l
noncomputable def okPn : Nat → PV → Bool
  | 0, p => match p with
    | .str x => okS x
    | .non => true
    | .bl _ => true
    | .int _ => true
    | _ => false
  | k + 1, p => match p with
    | .str x => okS x
    | .tup ps => okL (okPn k) ps
    | .non => true
    | .bl _ => true
    | .int _ => true
    | _ => false
theorem okL_iff {f : PV → Bool} : ∀ {l : List PV}, okL f l = true ↔ ∀ p ∈ l, f p = true
  | [] => ⟨fun _ _ h => (by cases h), fun _ => rfl⟩
  | p :: ps => by
    show (Bool.rec (motive := fun _ => Bool) false (okL f ps) (f p) : Bool) = true ↔ _
    cases e : f p with
    | false => simp [e]
    | true =>
      show okL f ps = true ↔ _
      rw [okL_iff]
      simp [e]
theorem gPs_id : ∀ {ps : List PV}, (∀ p ∈ ps, gP ν p = p) → gPs ν ps = ps
  | [], _ => by rw [gPs]
  | p :: ps, h => by rw [gPs, h p (by simp), gPs_id fun q hq => h q (by simp [hq])]
theorem okPn_id : ∀ {k : Nat} {p : PV}, okPn k p = true → gP ν p = p
  | 0, p, h => by
    cases p with
    | str x => rw [gP, gTx_pure h]
    | non => rw [gP]
    | bl b => rw [gP]
    | int i => rw [gP]
    | _ => cases h
  | k + 1, p, h => by
    cases p with
    | str x => rw [gP, gTx_pure h]
    | non => rw [gP]
    | bl b => rw [gP]
    | int i => rw [gP]
    | tup ps =>
      rw [gP, gPs_id fun q hq => okPn_id (okL_iff.mp h q hq)]
    | _ => cases h
theorem okPs_id {k : Nat} {ps : List PV} (h : okL (okPn k) ps = true) : gPs ν ps = ps := gPs_id fun q hq => okPn_id (okL_iff.mp h q hq)
theorem bareL_iff : ∀ {l : List PV}, bareL l = true ↔ ∀ p ∈ l, bareP p = true
  | [] => ⟨fun _ _ h => (by cases h), fun _ => by rw [bareL]⟩
  | p :: ps => by rw [bareL, Bool.and_eq_true, bareL_iff]; simp
theorem okPn_bare : ∀ {k : Nat} {p : PV}, okPn k p = true → bareP p = true
  | 0, p, h => by cases p <;> first | (cases h; done) | simp [bareP]
  | k + 1, p, h => by
    cases p with
    | tup ps => rw [bareP]; exact bareL_iff.mpr fun q hq => okPn_bare (okL_iff.mp h q hq)
    | ref i => cases h
    | ty n => cases h
    | glb a => cases h
    | _ => simp [bareP]
/-! ### keys -/
noncomputable def eqKX (n : Nat) (a b : PV) : Option Bool := match a with
  | .str x => match b with
    | .str y => eqX n x y
    | _ => none
  | .int i => match b with
    | .int j => some (decide (i = j))
    | _ => none
  | .tup xs => match b with
    | .tup ys => match okPn 6 (.tup xs) && okPn 6 (.tup ys) with
      | true => some (eqPn 6 (.tup xs) (.tup ys))
      | false => none
    | _ => none
  | _ => none
theorem eqKX_ok (N : Nam ν n) {a b : PV} {r : Bool} (h : eqKX n a b = some r) : decide (gP ν a = gP ν b) = r := by
  unfold eqKX at h
  split at h
  · split at h
    · have := eqX_ok N h
      rw [gP, gP, ← this, Bool.eq_iff_iff, decide_eq_true_eq, eqS_iff]
      simp
    · cases h
  · split at h
    · cases h
      rw [gP, gP, Bool.eq_iff_iff]
      simp
    · cases h
  · split at h
    · split at h
      · rename_i c
        cases h
        rw [Bool.and_eq_true] at c
        rw [okPn_id c.1, okPn_id c.2, eqPn_eq]
      · cases h
    · cases h
  · cases h
noncomputable def dgetX (n : Nat) (kvs : List (PV × PV)) (k : PV) : Option (Option PV) := List.rec (motive := fun _ => Option (Option PV)) (some none) (fun q _ ih => match eqKX n q.1 k with
  | some true => some (some q.2)
  | some false => ih
  | none => none) kvs
theorem dgetX_ok (N : Nam ν n) {k : PV} : ∀ {kvs : List (PV × PV)} {o : Option PV}, dgetX n kvs k = some o → dget (gK ν kvs) (gP ν k) = o.map (gP ν)
  | [], o, h => by
    have h : (some none : Option (Option PV)) = some o := h
    cases h
    rfl
  | q :: r, o, h => by
    have h : (match eqKX n q.1 k with | some true => some (some q.2) | some false => dgetX n r k | none => none) = some o := h
    rw [gK]
    unfold dget
    rw [List.find?_cons]
    cases e : eqKX n q.1 k with
    | none => rw [e] at h; cases h
    | some b =>
      rw [e] at h
      simp only [eqKX_ok N e]
      cases b with
      | true => cases h; rfl
      | false => exact dgetX_ok N h
noncomputable def noneX (n : Nat) (kvs : List (PV × PV)) (k : PV) : Bool := List.rec (motive := fun _ => Bool) true (fun q _ ih => match eqKX n q.1 k with
  | some false => ih
  | _ => false) kvs
theorem noneX_ok (N : Nam ν n) {k : PV} : ∀ {kvs : List (PV × PV)}, noneX n kvs k = true → ∀ q ∈ gK ν kvs, decide (q.1 = gP ν k) = false
  | [], _, q, hq => by rw [gK] at hq; cases hq
  | p :: r, h, q, hq => by
    have h : (match eqKX n p.1 k with | some false => noneX n r k | _ => false) = true := h
    rw [gK] at hq
    split at h
    · rename_i e
      rcases List.mem_cons.mp hq with z | z
      · rw [z]
        exact eqKX_ok N e
      · exact noneX_ok N h q z
    · cases h
noncomputable def dputX (n : Nat) (kvs : List (PV × PV)) (k v : PV) : Option (List (PV × PV)) := List.rec (motive := fun _ => Option (List (PV × PV))) (some [(k, v)]) (fun q r ih => match eqKX n q.1 k with
  | some true => match noneX n r k with
    | true => some ((q.1, v) :: r)
    | false => none
  | some false => match ih with
    | some l => some (q :: l)
    | none => none
  | none => none) kvs
theorem dput_none {k v : PV} : ∀ {l : List (PV × PV)}, (∀ q ∈ l, decide (q.1 = k) = false) → l.map (fun kv => if kv.1 = k then (kv.1, v) else kv) = l
  | [], _ => rfl
  | q :: r, h => by
    rw [List.map_cons, dput_none fun z hz => h z (by simp [hz]), if_neg (of_decide_eq_false (h q (by simp)))]
theorem dput_cons {k v : PV} {q : PV × PV} {r : List (PV × PV)} : dput (q :: r) k v = if q.1 = k then (q.1, v) :: r.map (fun kv => if kv.1 = k then (kv.1, v) else kv) else q :: dput r k v := by
  unfold dput
  rw [List.any_cons]
  by_cases c : q.1 = k
  · rw [if_pos c, if_pos (by rw [decide_eq_true c]; rfl), List.map_cons, if_pos c]
  · rw [if_neg c, decide_eq_false c, Bool.false_or]
    split
    · rw [List.map_cons, if_neg c]
    · rfl
theorem dputX_ok (N : Nam ν n) {k v : PV} : ∀ {kvs l : List (PV × PV)}, dputX n kvs k v = some l → dput (gK ν kvs) (gP ν k) (gP ν v) = gK ν l
  | [], l, h => by
    have h : some [(k, v)] = some l := h
    cases h
    rfl
  | q :: r, l, h => by
    have h : (match eqKX n q.1 k with
      | some true => match noneX n r k with
        | true => some ((q.1, v) :: r)
        | false => none
      | some false => match dputX n r k v with
        | some l => some (q :: l)
        | none => none
      | none => none) = some l := h
    rw [gK, dput_cons]
    cases e : eqKX n q.1 k with
    | none => rw [e] at h; cases h
    | some b =>
      have e2 := eqKX_ok N e
      rw [e] at h
      cases b with
      | true =>
        rw [if_pos (of_decide_eq_true e2)]
        cases e3 : noneX n r k with
        | false => rw [e3] at h; cases h
        | true =>
          rw [e3] at h
          cases h
          rw [dput_none (noneX_ok N e3), gK]
      | false =>
        rw [if_neg (of_decide_eq_false e2)]
        cases e3 : dputX n r k v with
        | none => rw [e3] at h; cases h
        | some l' =>
          rw [e3] at h
          cases h
          rw [dputX_ok N e3, gK]
theorem isTup_g (p : PV) : isTup (gP ν p) = isTup p := by cases p <;> rw [gP] <;> rfl
noncomputable def keyG (kvs : List (PV × PV)) (k : PV) : Bool := match k with
  | .tup xs => match okPn 6 (.tup xs) with
    | true => keyIn kvs (.tup xs)
    | false => false
  | k => keyIn kvs k
theorem keyG_ok {kvs : List (PV × PV)} {k : PV} (h : keyG kvs k = true) : keyIn (gK ν kvs) (gP ν k) = true := by
  cases k with
  | str x =>
    have h : keyIn kvs (.str x) = true := h
    rw [gP]
    cases kvs with
    | nil => rfl
    | cons q r =>
      rw [gK]
      show (true && (isTup (gP ν q.1) == false)) = true
      rw [isTup_g]
      exact h
  | int x =>
    have h : keyIn kvs (.int x) = true := h
    rw [gP]
    cases kvs with
    | nil => rfl
    | cons q r =>
      rw [gK]
      show (true && (isTup (gP ν q.1) == false)) = true
      rw [isTup_g]
      exact h
  | tup xs =>
    have h : (match okPn 6 (.tup xs) with | true => keyIn kvs (.tup xs) | false => false) = true := h
    cases c : okPn 6 (.tup xs) with
    | false => rw [c] at h; cases h
    | true =>
      rw [c] at h
      have h : keyIn kvs (.tup xs) = true := h
      rw [okPn_id c]
      cases kvs with
      | nil => exact h
      | cons q r =>
        rw [gK]
        have h : ((match nkOf (.tup xs) with | some n => decide (n.depth ≤ 8) | none => false) && (isTup q.1 == isTup (.tup xs))) = true := h
        show ((match nkOf (.tup xs) with | some n => decide (n.depth ≤ 8) | none => false) && (isTup (gP ν q.1) == isTup (.tup xs))) = true
        rw [isTup_g]
        exact h
  | _ => cases h
theorem gK_len (l : List (PV × PV)) : (gK ν l).length = l.length := by rw [gK_map, List.length_map]
noncomputable def vDGetG (n : Nat) : VF := fun xs μ => match xs with
  | [.ref i, k, x] => match dctAt μ i with
    | some kvs => if keyG kvs k = true then match dgetX n kvs k with
        | some o => .ok (o.getD x) μ
        | none => .bad
      else .bad
    | none => .bad
  | [.ref i, k] => match dctAt μ i with
    | some kvs => if keyG kvs k = true then match dgetX n kvs k with
        | some o => .ok (o.getD .non) μ
        | none => .bad
      else .bad
    | none => .bad
  | _ => .bad
theorem q_vDGet (N : Nam ν n) : QF ν (vDGetG n) vDGet := fun ps μ a μ' e => by
  unfold vDGetG at e
  split at e
  · rename_i i k x
    split at e
    · rename_i kvs hk
      split at e
      · rename_i c
        split at e
        · rename_i o ho
          cases e
          simp only [gPs, gP, vDGet, gDct, hk, Option.map_some, keyG_ok c, if_true, dgetX_ok N ho]
          cases o <;> rfl
        · cases e
      · cases e
    · cases e
  · rename_i i k
    split at e
    · rename_i kvs hk
      split at e
      · rename_i c
        split at e
        · rename_i o ho
          cases e
          simp only [gPs, gP, vDGet, gDct, hk, Option.map_some, keyG_ok c, if_true, dgetX_ok N ho]
          cases o <;> simp only [Option.map, Option.getD, gP]
        · cases e
      · cases e
    · cases e
  · cases e
/-! ### items -/
theorem atI_g (ps : List PV) (z : Int) : L2.atI (gPs ν ps) z = (L2.atI ps z).map (gP ν) := by
  unfold L2.atI
  rw [gPs_len]
  cases L2.ixN ps.length z with
  | none => rfl
  | some k => exact gPs_get ps k
noncomputable def vIxG (n : Nat) : VF := fun xs μ => match xs with
  | [.ref i, k] => match dctAt μ i with
    | some kvs => if keyG kvs k = true then match dgetX n kvs k with
        | some (some v) => .ok v μ
        | _ => .bad
      else .bad
    | none => match k with
      | .int z => vItem [.ref i, .int z] μ
      | _ => .bad
  | [.tup ps, .int z] => vItem [.tup ps, .int z] μ
  | [.str x, .int z] => if okS x = true then match vItem [.str x, .int z] μ with
      | .ok (.str y) _ => if okS y = true then .ok (.str y) μ else .bad
      | _ => .bad
    else .bad
  | _ => .bad
theorem item_str {x : Str} {z : Int} {μ μ' : Sto} {r : PV} (e : vItem [.str x, .int z] μ = .ok r μ') : ∀ μ2, vItem [.str x, .int z] μ2 = .ok r μ2 := fun μ2 => by
  have e : (if x.length ≤ sizeLine then match L2.atI x.cps.toList z with | some c => Rz.ok (PV.str ⟨#[c]⟩) μ | none => .bad else .bad) = .ok r μ' := e
  show (if x.length ≤ sizeLine then match L2.atI x.cps.toList z with | some c => Rz.ok (PV.str ⟨#[c]⟩) μ2 | none => .bad else .bad) = .ok r μ2
  by_cases c : x.length ≤ sizeLine
  · rw [if_pos c] at e ⊢
    cases h : L2.atI x.cps.toList z with
    | none => rw [h] at e; cases e
    | some d => rw [h] at e; cases e; rfl
  · rw [if_neg c] at e
    cases e
theorem q_vIx (N : Nam ν n) : QF ν (vIxG n) vIx := fun ps μ a μ' e => by
  unfold vIxG at e
  split at e
  · rename_i i k
    split at e
    · rename_i kvs hk
      split at e
      · rename_i c
        split at e
        · rename_i v ho
          cases e
          simp only [gPs, gP, vIx, gDct, hk, Option.map_some, keyG_ok c, if_true, dgetX_ok N ho]
        · cases e
      · cases e
    · rename_i hk
      split at e
      · rename_i z
        simp only [gPs, gP, vIx, gDct, hk, Option.map_none]
        have e : (match (seqAt μ i).bind fun ps => L2.atI ps z with | some p => Rz.ok p μ | none => .bad) = .ok a μ' := e
        show (match (seqAt (gM ν μ) i).bind fun ps => L2.atI ps z with | some p => Rz.ok p (gM ν μ) | none => .bad) = _
        rw [gSeq]
        cases h : seqAt μ i with
        | none => rw [h] at e; cases e
        | some qs =>
          rw [h] at e
          simp only [Option.map_some, Option.bind_some, atI_g] at e ⊢
          cases h2 : L2.atI qs z with
          | none => rw [h2] at e; cases e
          | some p => rw [h2] at e; cases e; rfl
      · cases e
  · rename_i qs z
    simp only [gPs, gP]
    have e : (match L2.atI qs z with | some p => Rz.ok p μ | none => .bad) = .ok a μ' := e
    show (match L2.atI (gPs ν qs) z with | some p => Rz.ok p (gM ν μ) | none => .bad) = _
    rw [atI_g]
    cases h2 : L2.atI qs z with
    | none => rw [h2] at e; cases e
    | some p => rw [h2] at e; cases e; rfl
  · rename_i x z
    split at e
    · rename_i c
      split at e
      · rename_i y μ1 h
        split at e
        · rename_i c2
          cases e
          simp only [gPs, gP, gTx_pure c, gTx_pure c2]
          exact item_str h _
        · cases e
      · cases e
    · cases e
  · cases e
/-! ### len -/
noncomputable def vLenG : VF := fun xs μ => match xs with
  | [.str z] => if okS z = true then vLen [.str z] μ else .bad
  | xs => vLen xs μ
theorem q_vLen : QF ν vLenG vLen := fun ps μ a μ' e => by
  unfold vLenG at e
  split at e
  · rename_i z
    split at e
    · rename_i c
      simp only [gPs, gP, gTx_pure c]
      have e : (match (if z.length ≤ sizeLine then some z.length else none) with | some n => Rz.ok (PV.int n) μ | none => .bad) = .ok a μ' := e
      show (match (if z.length ≤ sizeLine then some z.length else none) with | some n => Rz.ok (PV.int n) (gM ν μ) | none => .bad) = _
      by_cases c2 : z.length ≤ sizeLine
      · rw [if_pos c2] at e ⊢
        cases e
        simp only [gP]
      · rw [if_neg c2] at e
        cases e
    · cases e
  · rename_i hx
    match ps, e with
    | [p], e =>
      simp only [gPs]
      have e : (match lenOf μ p with | some n => Rz.ok (PV.int n) μ | none => .bad) = .ok a μ' := e
      show (match lenOf (gM ν μ) (gP ν p) with | some n => Rz.ok (PV.int n) (gM ν μ) | none => .bad) = _
      have h : lenOf (gM ν μ) (gP ν p) = lenOf μ p := by
        cases p with
        | str z => exact absurd rfl (hx z)
        | tup qs => rw [gP]; show some (gPs ν qs).length = some qs.length; rw [gPs_len]
        | ref i =>
          rw [gP]
          show (match dctAt (gM ν μ) i with | some kvs => some kvs.length | none => (seqAt (gM ν μ) i).map (fun l : List PV => l.length)) = (match dctAt μ i with | some kvs => some kvs.length | none => (seqAt μ i).map (fun l : List PV => l.length))
          rw [gDct, gSeq]
          cases dctAt μ i with
          | some kvs => simp only [Option.map_some, gK_len]
          | none =>
            cases seqAt μ i with
            | none => rfl
            | some qs => simp only [Option.map_none, Option.map_some, gPs_len]
        | _ => rw [gP]; rfl
      rw [h]
      cases h2 : lenOf μ p with
      | none => rw [h2] at e; cases e
      | some m => rw [h2] at e; cases e; simp only [gP]
end
end DL
/-! D39: with letters: in, cuts, lists and tuples of things, texts apart, what is walked, calls -/
namespace DL
open PySem PySem.Spec PyProof.Rows L2
section
variable {ν : Nat → List Nat} {n : Nat}
/-! ### in -/
noncomputable def memX (n : Nat) (x : Str) (l : List Str) : Option Bool := List.rec (motive := fun _ => Option Bool) (some false) (fun y _ ih => match eqX n y x with
  | some true => some true
  | some false => ih
  | none => none) l
theorem memX_ok (N : Nam ν n) {x : Str} : ∀ {l : List Str} {r : Bool}, memX n x l = some r → memS (gTx ν x) (l.map (gTx ν)) = r
  | [], r, h => by
    have h : some false = some r := h
    cases h
    rfl
  | y :: l, r, h => by
    have h : (match eqX n y x with | some true => some true | some false => memX n x l | none => none) = some r := h
    show (Bool.rec (motive := fun _ => Bool) (memS (gTx ν x) (l.map (gTx ν))) true (eqS (gTx ν y) (gTx ν x)) : Bool) = r
    cases e : eqX n y x with
    | none => rw [e] at h; cases h
    | some b =>
      rw [e] at h
      rw [eqX_ok N e]
      cases b with
      | true => cases h; rfl
      | false => exact memX_ok N h
theorem strs_g : ∀ {ps : List PV} {l : List Str}, strsL ps = some l → strsL (gPs ν ps) = some (l.map (gTx ν))
  | [], l, h => by cases h; rfl
  | p :: ps, l, h => by
    cases p with
    | str x =>
      obtain ⟨m, e, rfl⟩ := Option.map_eq_some_iff.mp (show (strsL ps).map (x :: ·) = some l from h)
      rw [gPs, gP]
      show (strsL (gPs ν ps)).map (gTx ν x :: ·) = _
      rw [strs_g e]
      rfl
    | _ => cases h
theorem okSs_g (N : Nam ν n) : ∀ l : List Str, okSs (l.map (gTx ν)) = true
  | [] => rfl
  | y :: l => by
    show (Bool.rec (motive := fun _ => Bool) false (okSs (l.map (gTx ν))) (okS (gTx ν y)) : Bool) = true
    rw [okS_g N]
    exact okSs_g N l
theorem in_list {μ : Sto} {i : Nat} {ps : List PV} {ys : List Str} {x : Str} (hd : dctAt μ i = none) (h : seqAt μ i = some ps) (e : strsL ps = some ys) (h1 : okS x = true) (h2 : okSs ys = true) : isIn μ (.str x) (.ref i) = some (memS x ys) := by
  show (match dctAt μ i with | some kvs => if keyIn kvs (.str x) = true then some (dget kvs (.str x)).isSome else none | none => inSeq μ (.str x) (.ref i)) = _
  rw [hd]
  show (match pdat μ 12 (.str x), pdat μ 12 (.ref i) with
          | some d, some (.list ds) => if (SeqAt.shaped d && SeqAt.shaped (.list ds)) = true then some (ds.any fun z => PyData.eqv z d) else none
          | some d, some (.tuple ds) => if (SeqAt.shaped d && SeqAt.shaped (.tuple ds)) = true then some (ds.any fun z => PyData.eqv z d) else none
          | _, _ => none) = _
  have e1 : pdat μ 12 (.ref i) = some (.list (ys.map PyData.str)) := by
    show (match seqAt μ i with | some ps => (pdatL (pdat μ 11) ps).map PyData.list | none => none) = _
    rw [h]
    show (pdatL (pdat μ 11) ps).map PyData.list = _
    rw [strsL_pdat (n := 10) e]
    rfl
  have e2 : pdat μ 12 (.str x) = some (.str x) := rfl
  rw [e1, e2]
  have e3 : SeqAt.shaped (.list (ys.map PyData.str)) = okSs ys := by
    simp [SeqAt.shaped, PyData.canLay0, PyData.depth, canLay_strs, depth_strs]
  show (if (SeqAt.shaped (.str x) && SeqAt.shaped (.list (ys.map PyData.str))) = true then some ((ys.map PyData.str).any fun z => PyData.eqv z (.str x)) else none) = _
  rw [e3, shaped_str, memS_eq, h1, h2]
  rfl
noncomputable def inG (n : Nat) (μ : Sto) (p c : PV) : Option Bool := match c with
  | .str z => match p with
    | .str x => match okS x && okS z with
      | true => isIn μ (.str x) (.str z)
      | false => none
    | _ => none
  | .tup ps => match p with
    | .str x => match strsL ps with
      | some ys => memX n x ys
      | none => isIn μ (.str x) (.tup ps)
    | p => isIn μ p (.tup ps)
  | .ref i => match dctAt μ i with
    | some kvs => if keyG kvs p = true then match dgetX n kvs p with
        | some o => some o.isSome
        | none => none
      else none
    | none => match p with
      | .str x => match (seqAt μ i).bind strsL with
        | some ys => memX n x ys
        | none => inSeq μ (.str x) (.ref i)
      | p => inSeq μ p (.ref i)
  | _ => none
theorem inSeq_g {μ : Sto} {p c : PV} {b : Bool} (hp : ∀ z, c ≠ .str z) (h : inSeq μ p c = some b) : inSeq (gM ν μ) (gP ν p) (gP ν c) = some b := by
  have gen : ∀ (μ : Sto) (p c : PV), (∀ z, c ≠ .str z) → inSeq μ p c = (match pdat μ 12 p, pdat μ 12 c with
          | some d, some (.list ds) => if (SeqAt.shaped d && SeqAt.shaped (.list ds)) = true then some (ds.any fun z => PyData.eqv z d) else none
          | some d, some (.tuple ds) => if (SeqAt.shaped d && SeqAt.shaped (.tuple ds)) = true then some (ds.any fun z => PyData.eqv z d) else none
          | _, _ => none) := fun μ p c hc => by
    cases c with
    | str z => exact absurd rfl (hc z)
    | _ => rfl
  have hp' : ∀ z, gP ν c ≠ .str z := fun z => by cases c <;> simp [gP] ; exact fun _ => absurd rfl (hp _)
  rw [gen _ _ _ hp] at h
  rw [gen _ _ _ hp']
  cases e1 : pdat μ 12 p with
  | none => rw [e1] at h; cases h
  | some d =>
    cases e2 : pdat μ 12 c with
    | none => rw [e1, e2] at h; cases h
    | some f =>
      rw [e1, e2] at h
      cases f with
      | list ds =>
        have h : (if (SeqAt.shaped d && SeqAt.shaped (.list ds)) = true then some (ds.any fun z => PyData.eqv z d) else none) = some b := h
        by_cases c1 : (SeqAt.shaped d && SeqAt.shaped (.list ds)) = true
        · rw [pdat_g 12 p d e1 (shaped_lay c1).1, pdat_g 12 c _ e2 (shaped_lay c1).2]
          exact h
        · rw [if_neg c1] at h
          cases h
      | tuple ds =>
        have h : (if (SeqAt.shaped d && SeqAt.shaped (.tuple ds)) = true then some (ds.any fun z => PyData.eqv z d) else none) = some b := h
        by_cases c1 : (SeqAt.shaped d && SeqAt.shaped (.tuple ds)) = true
        · rw [pdat_g 12 p d e1 (shaped_lay c1).1, pdat_g 12 c _ e2 (shaped_lay c1).2]
          exact h
        · rw [if_neg c1] at h
          cases h
      | _ => cases h
theorem inG_ok (N : Nam ν n) {μ : Sto} {p c : PV} {b : Bool} (h : inG n μ p c = some b) : isIn (gM ν μ) (gP ν p) (gP ν c) = some b := by
  unfold inG at h
  split at h
  · rename_i z
    split at h
    · rename_i x
      split at h
      · rename_i hc
        rw [Bool.and_eq_true] at hc
        rw [gP, gP, gTx_pure hc.1, gTx_pure hc.2]
        exact h
      · cases h
    · cases h
  · rename_i ps
    have tupc : ∀ p : PV, isIn μ p (.tup ps) = some b → isIn (gM ν μ) (gP ν p) (gP ν (.tup ps)) = some b := fun p h => by
      have h : inSeq μ p (.tup ps) = some b := h
      have z := inSeq_g (ν := ν) (fun z e => by cases e) h
      rw [gP] at z ⊢
      exact z
    split at h
    · rename_i x
      split at h
      · rename_i ys e
        rw [gP, gP, ← inF_eq]
        show (match strsL (gPs ν ps) with | some ys => if (okS (gTx ν x) && okSs ys) = true then some (memS (gTx ν x) ys) else none | none => isIn (gM ν μ) (.str (gTx ν x)) (.tup (gPs ν ps))) = some b
        rw [strs_g e]
        show (if (okS (gTx ν x) && okSs (ys.map (gTx ν))) = true then some (memS (gTx ν x) (ys.map (gTx ν))) else none) = some b
        rw [okS_g N, okSs_g N, memX_ok N h]
        rfl
      · exact tupc _ h
    · exact tupc _ h
  · rename_i i
    split at h
    · rename_i kvs hk
      split at h
      · rename_i c
        split at h
        · rename_i o ho
          cases h
          rw [show gP ν (.ref i) = .ref i from by rw [gP]]
          show (match dctAt (gM ν μ) i with | some kvs => if keyIn kvs (gP ν p) = true then some (dget kvs (gP ν p)).isSome else none | none => inSeq (gM ν μ) (gP ν p) (.ref i)) = _
          rw [gDct, hk]
          show (if keyIn (gK ν kvs) (gP ν p) = true then some (dget (gK ν kvs) (gP ν p)).isSome else none) = _
          rw [if_pos (keyG_ok c), dgetX_ok N ho]
          cases o <;> rfl
        · cases h
      · cases h
    · rename_i hk
      have hk' : dctAt (gM ν μ) i = none := by rw [gDct, hk]; rfl
      have plain : ∀ p : PV, inSeq μ p (.ref i) = some b → isIn (gM ν μ) (gP ν p) (gP ν (.ref i)) = some b := fun p h => by
        have z := inSeq_g (ν := ν) (fun z e => by cases e) h
        rw [show gP ν (.ref i) = .ref i from by rw [gP]] at z ⊢
        show (match dctAt (gM ν μ) i with | some kvs => if keyIn kvs (gP ν p) = true then some (dget kvs (gP ν p)).isSome else none | none => inSeq (gM ν μ) (gP ν p) (.ref i)) = _
        rw [hk']
        exact z
      split at h
      · rename_i x
        split at h
        · rename_i ys hy
          obtain ⟨ps, h1, h2⟩ := Option.bind_eq_some_iff.mp hy
          rw [gP, gP]
          rw [in_list hk' (by rw [gSeq, h1]; rfl) (strs_g h2) (okS_g N x) (okSs_g N ys), memX_ok N h]
        · exact plain _ h
      · exact plain _ h
  · cases h
noncomputable def vInG (n : Nat) : VF := fun xs μ => match xs with
  | [p, c] => match inG n μ p c with
    | some b => .ok (.bl b) μ
    | none => .bad
  | _ => .bad
noncomputable def vNotInG (n : Nat) : VF := fun xs μ => match xs with
  | [p, c] => match inG n μ p c with
    | some b => .ok (.bl (!b)) μ
    | none => .bad
  | _ => .bad
theorem q_vIn (N : Nam ν n) : QF ν (vInG n) vIn := fun ps μ a μ' e => by
  unfold vInG at e
  split at e
  · rename_i p c
    split at e
    · rename_i b h
      cases e
      simp only [gPs, gP, vIn, inG_ok N h]
    · cases e
  · cases e
theorem q_vNotIn (N : Nam ν n) : QF ν (vNotInG n) vNotIn := fun ps μ a μ' e => by
  unfold vNotInG at e
  split at e
  · rename_i p c
    split at e
    · rename_i b h
      cases e
      simp only [gPs, gP, vNotIn, inG_ok N h]
    · cases e
  · cases e
/-! ### cuts -/
theorem cut_g (ps : List PV) (lo hi : Option Int) : cut (gPs ν ps) lo hi = gPs ν (cut ps lo hi) := by
  unfold cut
  rw [gPs_len, gPs_map, gPs_map, ← List.map_drop, ← List.map_take]
noncomputable def vCutG (p : PV) (lo hi : Option Int) (μ : Sto) : Rz PV := match p with
  | .str z => match okS z && okS (cutS z lo hi) with
    | true => vCut (.str z) lo hi μ
    | false => .bad
  | p => vCut p lo hi μ
theorem q_vCut (p : PV) (lo hi : Option Int) (μ : Sto) : SG ν (gP ν) (vCutG p lo hi μ) (vCut (gP ν p) lo hi (gM ν μ)) := fun a μ' e => by
  cases p with
  | str z =>
    have e : (match okS z && okS (cutS z lo hi) with | true => vCut (.str z) lo hi μ | false => .bad) = .ok a μ' := e
    cases c : okS z && okS (cutS z lo hi) with
    | false => rw [c] at e; cases e
    | true =>
      rw [c] at e
      rw [Bool.and_eq_true] at c
      rw [gP, gTx_pure c.1]
      have e : (if z.length ≤ sizeLine then Rz.ok (PV.str (cutS z lo hi)) μ else .bad) = .ok a μ' := e
      show (if z.length ≤ sizeLine then Rz.ok (PV.str (cutS z lo hi)) (gM ν μ) else .bad) = _
      by_cases c2 : z.length ≤ sizeLine
      · rw [if_pos c2] at e ⊢
        cases e
        rw [gP, gTx_pure c.2]
      · rw [if_neg c2] at e
        cases e
  | tup ps =>
    have e : Rz.ok (PV.tup (cut ps lo hi)) μ = .ok a μ' := e
    cases e
    rw [gP, gP]
    show Rz.ok (PV.tup (cut (gPs ν ps) lo hi)) (gM ν μ) = _
    rw [cut_g]
  | ref i =>
    have e : (match seqAt μ i with | some ps => Rz.ok (PV.ref μ.length) (μ ++ [MObj.lst (cut ps lo hi)]) | none => .bad) = .ok a μ' := e
    rw [gP]
    show (match seqAt (gM ν μ) i with | some ps => Rz.ok (PV.ref (gM ν μ).length) (gM ν μ ++ [MObj.lst (cut ps lo hi)]) | none => .bad) = _
    rw [gSeq]
    cases h : seqAt μ i with
    | none => rw [h] at e; cases e
    | some ps =>
      rw [h] at e
      cases e
      simp only [Option.map_some, gM_len, gM_app, gO, cut_g, gP]
  | _ => cases e
theorem qNoPart : QO ν dNoPart dNoPart := fun η μ => SG.ok rfl
theorem qPart {d d' : DE} (h : QE ν d d') : QO ν (dPart d) (dPart d') := fun η μ => SG.bind (h η μ) fun p μ1 => by
  cases p with
  | int i => rw [gP]; exact SG.ok rfl
  | _ => exact SG.bad
noncomputable def dCutG (a : DE) (lo hi : DO) : DE := fun η μ => (a η μ).bind fun p μ1 => (lo η μ1).bind fun l μ2 => (hi η μ2).bind fun h μ3 => vCutG p l h μ3
theorem qCut {a a' : DE} {l l' h h' : DO} (h1 : QE ν a a') (h2 : QO ν l l') (h3 : QO ν h h') : QE ν (dCutG a l h) (dCut a' l' h') := fun η μ => SG.bind (h1 η μ) fun p μ1 => SG.bind (h2 η μ1) fun x μ2 => SG.bind (h3 η μ2) fun y μ3 => q_vCut p x y μ3
end
end DL
/-! D40: with letters: lists of things, split, what is walked, calls, fields -/
namespace DL
open PySem PySem.Spec PyProof.Rows L2
section
variable {ν : Nat → List Nat} {n : Nat}
theorem gK_fst (l : List (PV × PV)) : (gK ν l).map (·.1) = gPs ν (l.map (·.1)) := by
  rw [gK_map, gPs_map, List.map_map, List.map_map]
  rfl
theorem gK_snd (l : List (PV × PV)) : (gK ν l).map (·.2) = gPs ν (l.map (·.2)) := by
  rw [gK_map, gPs_map, List.map_map, List.map_map]
  rfl
theorem signs_g {z : Str} (h : okS z = true) : gPs ν (signs z) = signs z := by
  refine gPs_id fun p hp => ?_
  unfold signs at hp
  obtain ⟨c, hc, rfl⟩ := List.mem_map.mp hp
  rw [gP, gTx_pure]
  unfold okS at h
  rw [okN_eq, List.all_eq_true] at h
  show okN [c] = true
  rw [okN_eq]
  simp [of_decide_eq_true (h c hc)]
noncomputable def vListG : VF := fun xs μ => match xs with
  | [.str z] => if okS z = true then vListB [.str z] μ else .bad
  | [.ref i] => vListA [.ref i] μ
  | [.tup ps] => vListA [.tup ps] μ
  | _ => .bad
theorem q_vList : QF ν vListG vListB := fun ps μ a μ' e => by
  unfold vListG at e
  split at e
  · rename_i z
    split at e
    · rename_i c
      simp only [gPs, gP, gTx_pure c]
      have e : (if z.length ≤ sizeLine then Rz.ok (PV.ref μ.length) (μ ++ [MObj.lst (signs z)]) else .bad) = .ok a μ' := e
      show (if z.length ≤ sizeLine then Rz.ok (PV.ref (gM ν μ).length) (gM ν μ ++ [MObj.lst (signs z)]) else .bad) = _
      by_cases c2 : z.length ≤ sizeLine
      · rw [if_pos c2] at e ⊢
        cases e
        simp only [gM_len, gM_app, gO, gP, signs_g c]
      · rw [if_neg c2] at e
        cases e
    · cases e
  · rename_i i
    simp only [gPs, gP]
    have e : (match dctAt μ i with | some kvs => Rz.ok (PV.ref μ.length) (μ ++ [MObj.lst (kvs.map fun q : PV × PV => q.1)]) | none => (match seqAt μ i with | some ps => Rz.ok (PV.ref μ.length) (μ ++ [MObj.lst ps]) | none => .bad)) = .ok a μ' := e
    show (match dctAt (gM ν μ) i with | some kvs => Rz.ok (PV.ref (gM ν μ).length) (gM ν μ ++ [MObj.lst (kvs.map fun q : PV × PV => q.1)]) | none => (match seqAt (gM ν μ) i with | some ps => Rz.ok (PV.ref (gM ν μ).length) (gM ν μ ++ [MObj.lst ps]) | none => .bad)) = _
    rw [gDct, gSeq]
    cases h : dctAt μ i with
    | some kvs =>
      rw [h] at e
      cases e
      simp only [Option.map_some, gM_len, gM_app, gO, gP, gK_fst]
    | none =>
      rw [h] at e
      cases h2 : seqAt μ i with
      | none => rw [h2] at e; cases e
      | some qs =>
        rw [h2] at e
        cases e
        simp only [Option.map_some, Option.map_none, gM_len, gM_app, gO, gP]
  · rename_i qs
    have e : Rz.ok (PV.ref μ.length) (μ ++ [MObj.lst qs]) = .ok a μ' := e
    cases e
    simp only [gPs, gP]
    show Rz.ok (PV.ref (gM ν μ).length) (gM ν μ ++ [MObj.lst (gPs ν qs)]) = _
    simp only [gM_len, gM_app, gO]
  · cases e
noncomputable def vTupleG : VF := fun xs μ => match xs with
  | [.str z] => if okS z = true then vTupleA [.str z] μ else .bad
  | [.ref i] => vTuple [.ref i] μ
  | [.tup ps] => .ok (.tup ps) μ
  | _ => .bad
theorem q_vTuple : QF ν vTupleG vTupleA := fun ps μ a μ' e => by
  unfold vTupleG at e
  split at e
  · rename_i z
    split at e
    · rename_i c
      simp only [gPs, gP, gTx_pure c]
      have e : (if z.length ≤ sizeLine then Rz.ok (PV.tup (signs z)) μ else .bad) = .ok a μ' := e
      show (if z.length ≤ sizeLine then Rz.ok (PV.tup (signs z)) (gM ν μ) else .bad) = _
      by_cases c2 : z.length ≤ sizeLine
      · rw [if_pos c2] at e ⊢
        cases e
        simp only [gP, signs_g c]
      · rw [if_neg c2] at e
        cases e
    · cases e
  · rename_i i
    simp only [gPs, gP]
    have e : (match seqAt μ i with | some ps => Rz.ok (PV.tup ps) μ | none => .bad) = .ok a μ' := e
    show (match seqAt (gM ν μ) i with | some ps => Rz.ok (PV.tup ps) (gM ν μ) | none => .bad) = _
    rw [gSeq]
    cases h2 : seqAt μ i with
    | none => rw [h2] at e; cases e
    | some qs =>
      rw [h2] at e
      cases e
      simp only [Option.map_some, gP]
  · rename_i qs
    cases e
    simp only [gPs, gP]
    rfl
  · cases e
/-! ### split by a sign that no name has -/
theorem splitG_app {c : Nat} {xs : List Nat} (h : ∀ d ∈ xs, d ≠ c) : ∀ (acc rest : List Nat), splitG c acc (xs ++ rest) = splitG c (xs.reverse ++ acc) rest := by
  induction xs with
  | nil => intro acc rest; rfl
  | cons x xs ih =>
    intro acc rest
    rw [List.cons_append, splitG, if_neg (h x (by simp)), ih (fun d hd => h d (by simp [hd]))]
    rw [List.reverse_cons, List.append_assoc]
    rfl
theorem split_g (N : Nam ν n) {c : Nat} (hc : c < 97) : ∀ (l acc : List Nat), splitG c (gN ν acc.reverse).reverse (gN ν l) = (splitG c acc l).map (gN ν)
  | [], acc => by
    show splitG c (gN ν acc.reverse).reverse [] = _
    rw [splitG, splitG, List.reverse_reverse]
    rfl
  | d :: r, acc => by
    rw [gN, splitG]
    by_cases e : d = c
    · subst e
      rw [if_pos rfl, gC, if_pos (show d < lim from by unfold lim; omega)]
      rw [List.cons_append, List.nil_append, splitG, if_pos rfl, List.reverse_reverse, List.map_cons]
      have ih := split_g N hc r []
      rw [List.reverse_nil, gN, List.reverse_nil] at ih
      rw [ih]
    · rw [if_neg e]
      have no : ∀ x ∈ gC ν d, x ≠ c := fun x hx => by
        unfold gC at hx
        split at hx
        · rw [List.mem_singleton.mp hx]; exact e
        · have := (N.ok _ x hx).1
          omega
      rw [splitG_app no, ← split_g N hc r (d :: acc), List.reverse_cons, gN_app, List.reverse_append]
      congr 2
      show (gC ν d).reverse = (gC ν d ++ gN ν []).reverse
      rw [gN, List.append_nil]
noncomputable def vSplitG : VF := fun xs μ => match xs with
  | [.str a, .str ⟨⟨[c]⟩⟩] => if c < 97 then (if 8 * a.length + 2 ≤ sizeLine then .ok (.ref μ.length) (μ ++ [.lst (splitK c a.cps.toList [])]) else .bad) else .bad
  | _ => .bad
theorem q_vSplit (N : Nam ν n) : QF ν vSplitG vSplit := fun ps μ a μ' e => by
  unfold vSplitG at e
  split at e
  · rename_i x c
    split at e
    · rename_i hc
      split at e
      · rename_i hl
        cases e
        have hp : gTx ν ⟨⟨[c]⟩⟩ = ⟨⟨[c]⟩⟩ := gTx_pure (show okN [c] = true from by rw [okN_eq]; simp; omega)
        have h2 := gTx_len N x
        simp only [gPs, gP, hp]
        rw [← vSplitF_eq]
        show (if c < 256 then (if (gTx ν x).length + 2 ≤ sizeLine then Rz.ok (PV.ref (gM ν μ).length) (gM ν μ ++ [MObj.lst (splitK c (gTx ν x).cps.toList [])]) else .bad) else vSplit [.str (gTx ν x), .str ⟨⟨[c]⟩⟩] (gM ν μ)) = _
        rw [if_pos (by omega), if_pos (by omega), gM_len, gM_app, gO]
        have e3 : splitK c (gTx ν x).cps.toList [] = gPs ν (splitK c x.cps.toList []) := by
          rw [splitK_eq, splitK_eq, gPs_map, List.map_map]
          have := split_g N hc x.cps.toList []
          rw [List.reverse_nil, gN, List.reverse_nil] at this
          show (splitG c [] (gN ν x.cps.toList)).map _ = _
          rw [this, List.map_map]
          refine List.map_congr_left fun p _ => ?_
          show PV.str ⟨⟨gN ν p⟩⟩ = gP ν (PV.str ⟨⟨p⟩⟩)
          rw [gP]
          rfl
        rw [e3]
      · cases e
    · cases e
  · cases e
/-! ### texts without letters -/
noncomputable def vJoinG : VF := fun xs μ => match xs with
  | [.str a, p] => match (items p μ).bind strsL with
    | some ys => if (okS a && okSs ys && okS (Txt.join a ys)) = true then vJoin [.str a, p] μ else .bad
    | none => .bad
  | _ => .bad
theorem map_pure : ∀ {ys : List Str}, okSs ys = true → ys.map (gTx ν) = ys
  | [], _ => rfl
  | y :: ys, h => by
    have h : (Bool.rec (motive := fun _ => Bool) false (okSs ys) (okS y) : Bool) = true := h
    cases e : okS y with
    | false => rw [e] at h; cases h
    | true =>
      rw [e] at h
      rw [List.map_cons, gTx_pure e, map_pure h]
theorem q_vJoin : QF ν vJoinG vJoin := fun ps μ a μ' e => by
  unfold vJoinG at e
  split at e
  · rename_i x p
    split at e
    · rename_i ys hy
      split at e
      · rename_i c
        rw [Bool.and_eq_true, Bool.and_eq_true] at c
        obtain ⟨qs, h1, h2⟩ := Option.bind_eq_some_iff.mp hy
        have e : (match (items p μ).bind strsL with | some ys => if (ys.map fun y : Str => y.length).sum + ys.length * x.length ≤ 16777216 then Rz.ok (PV.str (Txt.join x ys)) μ else .bad | none => .bad) = .ok a μ' := e
        simp only [gPs, gP, gTx_pure c.1.1]
        show (match (items (gP ν p) (gM ν μ)).bind strsL with | some ys => if (ys.map fun y : Str => y.length).sum + ys.length * x.length ≤ 16777216 then Rz.ok (PV.str (Txt.join x ys)) (gM ν μ) else .bad | none => .bad) = _
        rw [gItems, h1]
        rw [hy] at e
        have e9 : (Option.map (gPs ν) (some qs)).bind strsL = some ys := by
          show strsL (gPs ν qs) = some ys
          rw [strs_g h2, map_pure c.1.2]
        rw [e9]
        have e : (if (ys.map fun y : Str => y.length).sum + ys.length * x.length ≤ 16777216 then Rz.ok (PV.str (Txt.join x ys)) μ else .bad) = .ok a μ' := e
        show (if (ys.map fun y : Str => y.length).sum + ys.length * x.length ≤ 16777216 then Rz.ok (PV.str (Txt.join x ys)) (gM ν μ) else .bad) = _
        by_cases c2 : (ys.map fun y : Str => y.length).sum + ys.length * x.length ≤ 16777216
        · rw [if_pos c2] at e ⊢
          cases e
          rw [gP, gTx_pure c.2]
        · rw [if_neg c2] at e
          cases e
      · cases e
    · cases e
  · cases e
noncomputable def vCountG : VF := fun xs μ => match xs with
  | [.str a, .str b] => if (okS a && okS b) = true then vCount [.str a, .str b] μ else .bad
  | _ => .bad
theorem q_vCount : QF ν vCountG vCount := fun ps μ a μ' e => by
  unfold vCountG at e
  split at e
  · split at e
    · rename_i c
      rw [Bool.and_eq_true] at c
      simp only [vCount] at e
      cases e
      simp only [gPs, gP, gTx_pure c.1, gTx_pure c.2, vCount]
    · cases e
  · cases e
noncomputable def vEndswithG : VF := fun xs μ => match xs with
  | [.str a, .str b] => if (okS a && okS b) = true then vEndswith [.str a, .str b] μ else .bad
  | _ => .bad
theorem q_vEndswith : QF ν vEndswithG vEndswith := fun ps μ a μ' e => by
  unfold vEndswithG at e
  split at e
  · split at e
    · rename_i c
      rw [Bool.and_eq_true] at c
      simp only [vEndswith] at e
      cases e
      simp only [gPs, gP, gTx_pure c.1, gTx_pure c.2, vEndswith]
    · cases e
  · cases e
noncomputable def vReprG : VF := fun xs μ => match xs with
  | [.tup ps] => match okPn 6 (.tup ps) with
    | true => match reprD [] (.tup ps) with
      | some z => match okS z with
        | true => .ok (.str z) μ
        | false => .bad
      | none => .bad
    | false => .bad
  | [.bl b] => .ok (.str (if b = true then Str.ofString "True" else Str.ofString "False")) μ
  | [.non] => .ok (.str (Str.ofString "None")) μ
  | _ => .bad
theorem q_vRepr : QF ν vReprG vRepr := fun ps μ a μ' e => by
  unfold vReprG at e
  split at e
  · rename_i qs
    split at e
    · rename_i c
      split at e
      · rename_i z hz
        split at e
        · rename_i cz
          cases e
          simp only [gPs, okPn_id c]
          show (match reprD (gM ν μ) (.tup qs) with | some z => Rz.ok (PV.str z) (gM ν μ) | none => .bad) = _
          have : reprD (gM ν μ) (.tup qs) = some z := by
            rw [← hz]
            unfold reprD
            rw [pdat_bare (μ := gM ν μ) 12 (.tup qs) (okPn_bare c)]
          rw [this, gP, gTx_pure cz]
        · cases e
      · cases e
    · cases e
  · rename_i b
    cases e
    simp only [gPs, gP]
    have : ∀ x : Str, okS x = true → gTx ν x = x := fun x h => gTx_pure h
    cases b with
    | true => rw [show (if true = true then Str.ofString "True" else Str.ofString "False") = Str.ofString "True" from rfl, this _ (by kernel_rfl)]; rfl
    | false => rw [show (if false = true then Str.ofString "True" else Str.ofString "False") = Str.ofString "False" from rfl, this _ (by kernel_rfl)]; rfl
  · cases e
    simp only [gPs, gP]
    rw [gTx_pure (show okS (Str.ofString "None") = true from by kernel_rfl)]
    rfl
  · cases e
noncomputable def vSortSetG : VF := fun xs μ => match xs with
  | [.ref i] => match seqAt μ i with
    | some ps => match okL (okPn 6) ps with
      | true => match okL (okPn 6) (sortP ps) with
        | true => vSortSet [.ref i] μ
        | false => .bad
      | false => .bad
    | none => .bad
  | _ => .bad
theorem q_vSortSet : QF ν vSortSetG vSortSet := fun ps μ a μ' e => by
  unfold vSortSetG at e
  split at e
  · rename_i i
    split at e
    · rename_i qs hq
      split at e
      · rename_i c
        split at e
        · rename_i c2
          have e : (match seqAt μ i with | some ps => if sortOk ps (sortP ps) = true then Rz.ok (PV.ref μ.length) (μ ++ [MObj.lst (sortP ps)]) else .bad | none => .bad) = .ok a μ' := e
          rw [hq] at e
          simp only [gPs, gP]
          show (match seqAt (gM ν μ) i with | some ps => if sortOk ps (sortP ps) = true then Rz.ok (PV.ref (gM ν μ).length) (gM ν μ ++ [MObj.lst (sortP ps)]) else .bad | none => .bad) = _
          rw [gSeq, hq]
          show (if sortOk (gPs ν qs) (sortP (gPs ν qs)) = true then Rz.ok (PV.ref (gM ν μ).length) (gM ν μ ++ [MObj.lst (sortP (gPs ν qs))]) else .bad) = _
          rw [okPs_id c]
          have e : (if sortOk qs (sortP qs) = true then Rz.ok (PV.ref μ.length) (μ ++ [MObj.lst (sortP qs)]) else .bad) = .ok a μ' := e
          by_cases c3 : sortOk qs (sortP qs) = true
          · rw [if_pos c3] at e ⊢
            cases e
            simp only [gM_len, gM_app, gO, gP, okPs_id c2]
          · rw [if_neg c3] at e
            cases e
        · cases e
      · cases e
    · cases e
  · cases e
end
end DL
/-! D41: with letters: what is walked, calls, fields, stores -/
namespace DL
open PySem PySem.Spec PyProof.Rows L2
section
variable {ν : Nat → List Nat} {n : Nat}
theorem tgOf_g (p : PV) (μ : Sto) : tgOf (gP ν p) (gM ν μ) = tgOf p μ := by
  cases p with
  | ref i =>
    rw [gP]
    unfold tgOf
    simp only [gM_get]
    cases μ[i]? with
    | none => rfl
    | some o => cases o <;> rfl
  | _ => rw [gP]; rfl
theorem q_vIsi {f : Tg → Option Bool} : QF ν (vIsi f) (vIsi f) := fun ps μ a μ' e => by
  unfold vIsi at e
  split at e
  · rename_i p
    split at e
    · rename_i b h
      cases e
      simp only [gPs, vIsi, tgOf_g, h, gP]
    · cases e
  · cases e
noncomputable def vLenSetG : VF := fun xs μ => match xs with
  | [.ref i] => match (seqAt μ i).bind strsL with
    | some ys => match okSs ys with
      | true => vLenSet [.ref i] μ
      | false => .bad
    | none => .bad
  | _ => .bad
theorem strsOf_strsL : ∀ {ps : List PV} {ys : List Str}, strsL ps = some ys → strsOf ps = some ys
  | [], _, h => by cases h; rfl
  | p :: ps, ys, h => by
    cases p with
    | str x =>
      obtain ⟨m, e, rfl⟩ := Option.map_eq_some_iff.mp (show (strsL ps).map (x :: ·) = some ys from h)
      have ih := strsOf_strsL e
      simp only [strsOf, ih, Option.map_some]
    | _ => cases h
theorem q_vLenSet : QF ν vLenSetG vLenSet := fun ps μ a μ' e => by
  unfold vLenSetG at e
  split at e
  · rename_i i
    split at e
    · rename_i ys hy
      split at e
      · rename_i c
        obtain ⟨qs, h1, h2⟩ := Option.bind_eq_some_iff.mp hy
        have e : (match (seqAt μ i).bind strsOf with | some ss => if ss.length < 1000 then Rz.ok (PV.int (difS ss []).length) μ else .bad | none => .bad) = .ok a μ' := e
        rw [h1, Option.bind_some, strsOf_strsL h2] at e
        simp only [gPs, gP]
        show (match (seqAt (gM ν μ) i).bind strsOf with | some ss => if ss.length < 1000 then Rz.ok (PV.int (difS ss []).length) (gM ν μ) else .bad | none => .bad) = _
        rw [gSeq, h1]
        have e9 : (Option.map (gPs ν) (some qs)).bind strsOf = some ys := by
          show strsOf (gPs ν qs) = some ys
          rw [strsOf_strsL (strs_g h2), map_pure c]
        rw [e9]
        have e : (if ys.length < 1000 then Rz.ok (PV.int (difS ys []).length) μ else .bad) = .ok a μ' := e
        by_cases c2 : ys.length < 1000
        · rw [if_pos c2] at e
          cases e
          rw [gP]
          exact if_pos c2
        · rw [if_neg c2] at e
          cases e
      · cases e
    · cases e
  · cases e
/-! ### what is walked -/
noncomputable def srcG (p : PV) (μ : Sto) : Option (List PV × (Sto → Bool)) := match p with
  | .str z => match okS z with
    | true => some (signs z, fun _ => true)
    | false => none
  | .tup ps => some (ps, fun _ => true)
  | .ref i => match seqAt μ i with
    | some ps => some (ps, fun μ' => sameSeqF μ' i ps)
    | none => none
  | _ => none
theorem same_g {μ : Sto} {i : Nat} {ps : List PV} (h : sameSeqF μ i ps = true) : sameSeq (gM ν μ) i (gPs ν ps) = true := by
  rw [sameSeqF_eq] at h
  have z := sameSeq_of h
  unfold sameSeq
  rw [gSeq, z]
  exact PV.beqs_self _
theorem sameKvs_self : ∀ l : List (PV × PV), sameKvs l l = true
  | [] => rfl
  | q :: r => by
    show (PV.beq q.1 q.1 && PV.beq q.2 q.2 && sameKvs r r) = true
    rw [PV.beq_self, PV.beq_self, sameKvs_self r]
    rfl
theorem sameD_g {μ : Sto} {i : Nat} {ps : List (PV × PV)} (h : sameDctF μ i ps = true) : sameDct (gM ν μ) i (gK ν ps) = true := by
  rw [sameDctF_eq] at h
  unfold sameDct at h ⊢
  rw [gDct]
  cases e : dctAt μ i with
  | none => rw [e] at h; cases h
  | some qs =>
    rw [e] at h
    rw [sameKvs_of h]
    exact sameKvs_self _
theorem srcG_ok {p : PV} {μ : Sto} {its : List PV} {gd : Sto → Bool} (h : srcG p μ = some (its, gd)) : ∃ gd', srcOf (gP ν p) (gM ν μ) = some (gPs ν its, gd') ∧ ∀ μ, gd μ = true → gd' (gM ν μ) = true := by
  unfold srcG at h
  split at h
  · rename_i z
    split at h
    · rename_i c
      cases h
      refine ⟨fun _ => true, ?_, fun _ _ => rfl⟩
      rw [gP, gTx_pure c, signs_g c]
      rfl
    · cases h
  · cases h
    refine ⟨fun _ => true, ?_, fun _ _ => rfl⟩
    rw [gP]
    rfl
  · rename_i i
    split at h
    · rename_i ps hs
      cases h
      refine ⟨fun μ' => sameSeq μ' i (gPs ν its), ?_, fun μ h => same_g h⟩
      rw [gP]
      simp only [srcOf, gSeq, hs, Option.map_some]
    · cases h
  · cases h
noncomputable def srcKG (p : PV) (μ : Sto) : Option (List PV × (Sto → Bool)) := match p with
  | .ref i => match dctAt μ i with
    | some kvs => some (kvs.map (·.1), fun μ' => sameDctF μ' i kvs)
    | none => srcG p μ
  | _ => srcG p μ
theorem srcKG_ok {p : PV} {μ : Sto} {its : List PV} {gd : Sto → Bool} (h : srcKG p μ = some (its, gd)) : ∃ gd', srcK (gP ν p) (gM ν μ) = some (gPs ν its, gd') ∧ ∀ μ, gd μ = true → gd' (gM ν μ) = true := by
  cases p with
  | ref i =>
    have h : (match dctAt μ i with | some kvs => some (kvs.map (fun q : PV × PV => q.1), fun μ' => sameDctF μ' i kvs) | none => srcG (.ref i) μ) = some (its, gd) := h
    cases e : dctAt μ i with
    | some kvs =>
      rw [e] at h
      cases h
      refine ⟨fun μ' => sameDct μ' i (gK ν kvs), ?_, fun μ h => sameD_g h⟩
      rw [gP]
      simp only [srcK, gDct, e, Option.map_some]
      rw [gK_fst]
    | none =>
      rw [e] at h
      obtain ⟨gd', h1, h2⟩ := srcG_ok (ν := ν) h
      refine ⟨gd', ?_, h2⟩
      rw [gP] at h1 ⊢
      simp only [srcK, gDct, e, Option.map_none]
      exact h1
  | tup ps =>
    obtain ⟨gd', h1, h2⟩ := srcG_ok (ν := ν) (show srcG (.tup ps) μ = some (its, gd) from h)
    refine ⟨gd', ?_, h2⟩
    rw [gP] at h1 ⊢
    exact h1
  | str z =>
    obtain ⟨gd', h1, h2⟩ := srcG_ok (ν := ν) (show srcG (.str z) μ = some (its, gd) from h)
    refine ⟨gd', ?_, h2⟩
    rw [gP] at h1 ⊢
    exact h1
  | _ => cases h
noncomputable def dItAG (d : DE) : DI := fun η μ => (d η μ).bind fun p μ1 => match srcKG p μ1 with
  | some x => .ok x μ1
  | none => .bad
theorem bind_of {α β : Type} {r : Rz α} {f : α → Sto → Rz β} {b : β} {μ : Sto} (h : r.bind f = .ok b μ) : ∃ a μ1, r = .ok a μ1 ∧ f a μ1 = .ok b μ := by
  cases r with
  | ok a μ1 => exact ⟨a, μ1, rfl, h⟩
  | _ => cases h
theorem qItA {d d' : DE} (h : QE ν d d') : QI ν (dItAG d) (dItA d') := fun η μ its gd μ' e => by
  obtain ⟨p, μ1, e1, e2⟩ := bind_of e
  split at e2
  · rename_i x hx
    cases e2
    obtain ⟨gd', h1, h2⟩ := srcKG_ok (ν := ν) hx
    refine ⟨gd', ?_, h2⟩
    unfold dItA
    rw [h η μ _ _ e1]
    simp only [bindOk, h1]
  · cases e2
theorem enum_g : ∀ (l : List PV) (k : Nat), gPs ν ((enum2 l k).map PV.tup) = (enum2 (gPs ν l) k).map PV.tup
  | [], k => rfl
  | p :: r, k => by
    rw [enum2, List.map_cons, gPs, gP, gPs, gPs, gPs, gP, enum_g r (k + 1), gPs, enum2, List.map_cons]
noncomputable def dEnumG (d : DE) : DI := fun η μ => (d η μ).bind fun p μ1 => match srcG p μ1 with
  | some x => .ok ((enum2 x.1 0).map PV.tup, x.2) μ1
  | none => .bad
theorem qEnum {d d' : DE} (h : QE ν d d') : QI ν (dEnumG d) (dEnum d') := fun η μ its gd μ' e => by
  obtain ⟨p, μ1, e1, e2⟩ := bind_of e
  split at e2
  · rename_i x hx
    cases e2
    obtain ⟨gd', h1, h2⟩ := srcG_ok (ν := ν) (its := x.1) (gd := x.2) hx
    refine ⟨gd', ?_, h2⟩
    unfold dEnum
    rw [h η μ _ _ e1]
    simp only [bindOk, h1, enum_g]
  · cases e2
theorem zip_g : ∀ (l m : List PV), gPs ν ((zip2 l m).map PV.tup) = (zip2 (gPs ν l) (gPs ν m)).map PV.tup
  | [], m => by rw [gPs]; simp only [zip2, List.map_nil, gPs]
  | p :: r, [] => by simp only [zip2, List.map_nil, gPs]
  | p :: r, q :: s => by
    simp only [zip2, List.map_cons, gPs, gP]
    rw [zip_g r s]
noncomputable def dZipG (da db : DE) : DI := fun η μ => (da η μ).bind fun p μ1 => (db η μ1).bind fun q μ2 => match srcG p μ2, srcG q μ2 with
  | some x, some y => .ok ((zip2 x.1 y.1).map PV.tup, fun μ' => x.2 μ' && y.2 μ') μ2
  | _, _ => .bad
theorem qZip {d d' f f' : DE} (h : QE ν d d') (k : QE ν f f') : QI ν (dZipG d f) (dZip d' f') := fun η μ its gd μ' e => by
  obtain ⟨p, μ1, e1, e2⟩ := bind_of e
  obtain ⟨q, μ2, e3, e4⟩ := bind_of e2
  split at e4
  · rename_i x y hx hy
    cases e4
    obtain ⟨gd1, h1, h2⟩ := srcG_ok (ν := ν) (its := x.1) (gd := x.2) hx
    obtain ⟨gd2, k1, k2⟩ := srcG_ok (ν := ν) (its := y.1) (gd := y.2) hy
    refine ⟨fun μ' => gd1 μ' && gd2 μ', ?_, fun μ hg => ?_⟩
    · unfold dZip
      rw [h η μ _ _ e1]
      simp only [bindOk]
      rw [k η μ1 _ _ e3]
      simp only [bindOk, h1, k1, zip_g]
    · rw [Bool.and_eq_true] at hg ⊢
      exact ⟨h2 μ hg.1, k2 μ hg.2⟩
  · cases e4
theorem qVals {d d' : DE} (h : QE ν d d') : QI ν (dValsF d) (dVals d') := fun η μ its gd μ' e => by
  obtain ⟨p, μ1, e1, e2⟩ := bind_of e
  split at e2
  · rename_i i
    split at e2
    · rename_i kvs hk
      cases e2
      refine ⟨fun μ' => sameDct μ' i (gK ν kvs), ?_, fun μ h => sameD_g h⟩
      unfold dVals
      rw [h η μ _ _ e1]
      simp only [bindOk, gP, gDct, hk, Option.map_some]
      rw [gK_snd]
    · cases e2
  · cases e2
theorem items_g (l : List (PV × PV)) : gPs ν ((l.map fun kv => [kv.1, kv.2]).map PV.tup) = ((gK ν l).map fun kv => [kv.1, kv.2]).map PV.tup := by
  induction l with
  | nil => rfl
  | cons q r ih => simp only [List.map_cons, gPs, gP, gK] at ih ⊢; rw [ih]
theorem qItems {d d' : DE} (h : QE ν d d') : QI ν (dItemsF d) (dItems d') := fun η μ its gd μ' e => by
  obtain ⟨p, μ1, e1, e2⟩ := bind_of e
  split at e2
  · rename_i i
    split at e2
    · rename_i kvs hk
      cases e2
      refine ⟨fun μ' => sameDct μ' i (gK ν kvs), ?_, fun μ h => sameD_g h⟩
      unfold dItems
      rw [h η μ _ _ e1]
      simp only [bindOk, gP, gDct, hk, Option.map_some]
      rw [items_g]
    · cases e2
  · cases e2
theorem rgP_g (a b : Int) : gPs ν (rgP a b) = rgP a b := gPs_id fun p hp => by
  unfold rgP at hp
  obtain ⟨i, _, rfl⟩ := List.mem_map.mp hp
  rw [gP]
theorem qRg1 {d d' : DE} (h : QE ν d d') : QI ν (dRg1 d) (dRg1 d') := fun η μ its gd μ' e => by
  obtain ⟨p, μ1, e1, e2⟩ := bind_of e
  unfold rg1 at e2
  split at e2
  · split at e2
    · rename_i c
      cases e2
      refine ⟨fun _ => true, ?_, fun _ _ => rfl⟩
      unfold dRg1
      rw [h η μ _ _ e1]
      simp only [bindOk, gP, rg1, if_pos c, rgP_g]
    · cases e2
  · cases e2
theorem qRg2 {d d' f f' : DE} (h : QE ν d d') (k : QE ν f f') : QI ν (dRg2 d f) (dRg2 d' f') := fun η μ its gd μ' e => by
  obtain ⟨p, μ1, e1, e2⟩ := bind_of e
  obtain ⟨q, μ2, e3, e4⟩ := bind_of e2
  unfold rg2 at e4
  split at e4
  · split at e4
    · rename_i c
      cases e4
      refine ⟨fun _ => true, ?_, fun _ _ => rfl⟩
      unfold dRg2
      rw [h η μ _ _ e1]
      simp only [bindOk]
      rw [k η μ1 _ _ e3]
      simp only [bindOk, gP, rg2, if_pos c, rgP_g]
    · cases e4
  · cases e4
theorem qLstRg1 {d d' : DE} (h : QE ν d d') : QE ν (dLstRg1 d) (dLstRg1 d') := fun η μ => SG.bind (h η μ) fun p μ1 => by
  cases p with
  | int i =>
    rw [gP]
    show SG ν (gP ν) (if rgFit 0 i = true then Rz.ok (PV.ref μ1.length) (μ1 ++ [MObj.lst (rgP 0 i)]) else .bad) (if rgFit 0 i = true then Rz.ok (PV.ref (gM ν μ1).length) (gM ν μ1 ++ [MObj.lst (rgP 0 i)]) else .bad)
    exact SG.guard fun c => by rw [if_pos c]; exact SG.ok (by rw [gM_app, gM_len, gP, gO, rgP_g])
  | _ => exact SG.bad
/-! ### methods of built-in things -/
theorem qM {tp : PV → Sto → Bool} (ht : ∀ p μ, tp p μ = true → tp (gP ν p) (gM ν μ) = true) {f f' : VF} {d d' : DE} {ds ds' : DA} (hf : QF ν f f') (h : QE ν d d') (hs : QA ν ds ds') : QE ν (dM tp f d ds) (dM tp f' d' ds') := fun η μ => SG.bind (h η μ) fun p μ1 => by
  refine SG.guard fun c => ?_
  rw [if_pos (ht p μ1 c)]
  refine SG.bind (hs η μ1) fun ps μ2 => ?_
  have := hf (p :: ps) μ2
  rw [gPs] at this
  exact this
theorem t_str (p : PV) (μ : Sto) (h : isStrP p μ = true) : isStrP (gP ν p) (gM ν μ) = true := by
  cases p <;> first | (cases h; done) | (rw [gP]; rfl)
theorem t_lst (p : PV) (μ : Sto) (h : isLstP p μ = true) : isLstP (gP ν p) (gM ν μ) = true := by
  cases p with
  | ref i =>
    rw [gP]
    show (seqAt (gM ν μ) i).isSome = true
    rw [gSeq]
    have h : (seqAt μ i).isSome = true := h
    cases e : seqAt μ i with
    | none => rw [e] at h; cases h
    | some _ => rfl
  | _ => cases h
theorem t_dct (p : PV) (μ : Sto) (h : isDctP p μ = true) : isDctP (gP ν p) (gM ν μ) = true := by
  cases p with
  | ref i =>
    rw [gP]
    show (dctAt (gM ν μ) i).isSome = true
    rw [gDct]
    have h : (dctAt μ i).isSome = true := h
    cases e : dctAt μ i with
    | none => rw [e] at h; cases h
    | some _ => rfl
  | _ => cases h
/-! ### own things -/
theorem isIns_g (C : Addr) (m : Str) (p : PV) (μ : Sto) : isIns C m (gP ν p) (gM ν μ) = isIns C m p μ := by
  cases p with
  | ref i =>
    rw [gP]
    unfold isIns
    simp only [gM_get]
    cases μ[i]? with
    | none => rfl
    | some o =>
      cases o with
      | ins D fs =>
        show (decide (D = C) && ((gF ν fs).lookup m).isNone) = (decide (D = C) && (fs.lookup m).isNone)
        rw [gF_lookup]
        cases fs.lookup m <;> rfl
      | _ => rfl
  | _ => rw [gP]; rfl
theorem qMeth {C : Addr} {m : Str} {f f' : VF} {o o' : DE} {ds ds' : DA} (hf : QF ν f f') (h : QE ν o o') (hs : QA ν ds ds') : QE ν (dMeth C m f o ds) (dMeth C m f' o' ds') := fun η μ => SG.bind (h η μ) fun p μ1 => by
  rw [isIns_g]
  refine SG.ite Iff.rfl (fun _ => SG.bind (hs η μ1) fun ps μ2 => ?_) fun _ => SG.bad
  have := hf (p :: ps) μ2
  rw [gPs] at this
  exact this
theorem qMake {C : Addr} {f f' : VF} (hf : QF ν f f') : QF ν (vMake C f) (vMake C f') := fun ps μ => by
  unfold vMake
  refine SG.bind (ga := gP ν) ?_ fun r μ1 => ?_
  · have := hf (.ref μ.length :: ps) (μ ++ [.ins C []])
    rw [gPs, gP, gM_app, gO, gF] at this
    rw [gM_len]
    exact this
  · cases r with
    | non => rw [gP, gM_len]; exact SG.ok (by rw [gP])
    | _ => exact SG.bad
theorem qProp {C : Addr} {f f' : VF} (hf : QF ν f f') : QF ν (vProp C f) (vProp C f') := fun ps μ a μ' e => by
  unfold vProp at e
  split at e
  · rename_i i
    split at e
    · rename_i D fs hi
      split at e
      · rename_i c
        have := hf [.ref i] μ a μ' e
        simp only [gPs, gP] at this ⊢
        unfold vProp
        simp only [gM_get, hi, Option.map_some, gO, if_pos c]
        exact this
      · cases e
    · cases e
  · cases e
theorem qFld {C : Addr} {f : Str} : QF ν (vFld C f) (vFld C f) := fun ps μ a μ' e => by
  unfold vFld at e
  split at e
  · rename_i i
    split at e
    · rename_i D fs hi
      split at e
      · rename_i c
        split at e
        · rename_i p hp
          cases e
          simp only [gPs, gP, vFld, gM_get, hi, Option.map_some, gO, if_pos c, gF_lookup, hp]
        · cases e
      · cases e
    · cases e
  · cases e
theorem gF_put (f : Str) (v : PV) : ∀ l : List (Str × PV), gF ν (putD f v l) = putD f (gP ν v) (gF ν l)
  | [] => rfl
  | (g, x) :: r => by
    show gF ν (if g = f then (g, v) :: r else (g, x) :: putD f v r) = if g = f then (g, gP ν v) :: gF ν r else (g, gP ν x) :: putD f (gP ν v) (gF ν r)
    by_cases c : g = f
    · rw [if_pos c, if_pos c, gF]
    · rw [if_neg c, if_neg c, gF, gF_put f v r]
theorem gF_len (l : List (Str × PV)) : (gF ν l).length = l.length := by rw [gF_map, List.length_map]
theorem qsFld {C : Addr} {f : Str} {o o' v v' : DE} (h1 : QE ν o o') (h2 : QE ν v v') : QS ν (sFldSet C f o v) (sFldSet C f o' v') := fun η μ => SG.bind (h2 η μ) fun p μ1 => SG.bind (h1 η μ1) fun q μ2 => by
  cases q with
  | ref i =>
    rw [gP]
    simp only [gM_get]
    cases hi : μ2[i]? with
    | none => exact SG.bad
    | some ob =>
      cases ob with
      | ins D fs =>
        simp only [Option.map_some, gO]
        refine SG.ite (by rw [gF_len]) (fun _ => SG.ok ?_) fun _ => SG.bad
        rw [gM_set, gO, gF_put]
        rfl
      | _ => exact SG.bad
  | _ => exact SG.bad
theorem insAt_g (C : Addr) (p : PV) (μ : Sto) : insAt C (gP ν p) (gM ν μ) = insAt C p μ := by
  cases p with
  | ref i =>
    rw [gP]
    unfold insAt
    simp only [gM_get]
    cases μ[i]? with
    | none => rfl
    | some o => cases o <;> rfl
  | _ => rw [gP]; rfl
theorem qInO {C : Addr} {f f' : VF} (hf : QF ν f f') : QF ν (vInO C f) (vInO C f') := fun ps μ => by
  match ps with
  | [x, o] =>
    simp only [gPs]
    show SG ν (gP ν) (if insAt C o μ = true then (f [o, x] μ).bind fun r μ1 => match r with | .bl b => .ok (.bl b) μ1 | _ => .bad else .bad) (if insAt C (gP ν o) (gM ν μ) = true then (f' [gP ν o, gP ν x] (gM ν μ)).bind fun r μ1 => match r with | .bl b => .ok (.bl b) μ1 | _ => .bad else .bad)
    rw [insAt_g]
    refine SG.ite Iff.rfl (fun _ => SG.bind (ga := gP ν) ?_ fun r μ1 => ?_) fun _ => SG.bad
    · have := hf [o, x] μ
      simp only [gPs] at this
      exact this
    · cases r with
      | bl b => rw [gP]; exact SG.ok (by rw [gP])
      | _ => exact SG.bad
  | [] => exact SG.bad
  | [_] => exact SG.bad
  | _ :: _ :: _ :: _ => exact SG.bad
theorem qItemO {C : Addr} {f f' : VF} (hf : QF ν f f') : QF ν (vItemO C f) (vItemO C f') := fun ps μ => by
  match ps with
  | [o, i] =>
    simp only [gPs]
    show SG ν (gP ν) (if insAt C o μ = true then f [o, i] μ else .bad) (if insAt C (gP ν o) (gM ν μ) = true then f' [gP ν o, gP ν i] (gM ν μ) else .bad)
    rw [insAt_g]
    refine SG.ite Iff.rfl (fun _ => ?_) fun _ => SG.bad
    have := hf [o, i] μ
    simp only [gPs] at this
    exact this
  | [] => exact SG.bad
  | [_] => exact SG.bad
  | _ :: _ :: _ :: _ => exact SG.bad
/-! ### stores -/
noncomputable def vStoreG (n : Nat) (o i v : PV) (μ : Sto) : Option Sto := match o with
  | .ref j => match dctAt μ j with
    | some kvs => if keyG kvs i = true ∧ kvs.length < sizeLine then match dputX n kvs i v with
        | some l => some (μ.set j (.dct l))
        | none => none
      else none
    | none => match i with
      | .int k => match (isLst μ j).bind (storeL (.int k) v) with
        | some ps => some (μ.set j (.lst ps))
        | none => none
      | _ => none
  | _ => none
theorem gPs_set (ps : List PV) (k : Nat) (v : PV) : gPs ν (ps.set k v) = (gPs ν ps).set k (gP ν v) := by rw [gPs_map, gPs_map, List.map_set]
theorem vStoreG_ok (N : Nam ν n) {o i v : PV} {μ μ' : Sto} (h : vStoreG n o i v μ = some μ') : vStore (gP ν o) (gP ν i) (gP ν v) (gM ν μ) = some (gM ν μ') := by
  unfold vStoreG at h
  split at h
  · rename_i j
    split at h
    · rename_i kvs hk
      split at h
      · rename_i c
        split at h
        · rename_i l hl
          cases h
          rw [show gP ν (.ref j) = .ref j from by rw [gP]]
          simp only [vStore, gDct, hk, Option.map_some, gK_len, dputX_ok N hl, gM_set, gO]
          exact if_pos ⟨keyG_ok c.1, c.2⟩
        · cases h
      · cases h
    · rename_i hk
      split at h
      · rename_i k
        split at h
        · rename_i ps hps
          cases h
          rw [show gP ν (.ref j) = .ref j from by rw [gP], show gP ν (.int k) = .int k from by rw [gP]]
          obtain ⟨qs, h1, h2⟩ := Option.bind_eq_some_iff.mp hps
          have h2 : (L2.ixN qs.length k).map (fun n => qs.set n v) = some ps := h2
          obtain ⟨m, h3, h4⟩ := Option.map_eq_some_iff.mp h2
          subst h4
          simp only [vStore, gDct, hk, Option.map_none, gLst, h1, Option.map_some, Option.bind_some, storeL, gPs_len, h3, gM_set, gO, gPs_set]
        · cases h
      · cases h
  · cases h
noncomputable def gItemG (n : Nat) (d1 d2 : DE) : DG := fun p η μ => (d1 η μ).bind fun o μ1 => (d2 η μ1).bind fun i μ2 => match vStoreG n o i p μ2 with
  | some μ3 => match o with
    | .ref j => frAt j μ3 fun μ3 => .ok η μ3
    | _ => .ok η μ3
  | none => .bad
theorem qgItem (N : Nam ν n) {d1 d1' d2 d2' : DE} (h1 : QE ν d1 d1') (h2 : QE ν d2 d2') : QG ν (gItemG n d1 d2) (gItem d1' d2') := fun p η μ => SG.bind (h1 η μ) fun o μ1 => SG.bind (h2 η μ1) fun i μ2 => by
  cases e : vStoreG n o i p μ2 with
  | none => exact SG.bad
  | some μ3 =>
    have z := vStoreG_ok N e
    simp only [z]
    cases o <;> simp only [frAt_eq] <;> exact SG.ok rfl
/-! ### calls apart -/
theorem bare_g : ∀ p : PV, bareP p = true → bareP (gP ν p) = true
  | .tup ps, h => by
    rw [gP, bareP, gPs_map]
    rw [bareP] at h
    refine bareL_iff.mpr fun q hq => ?_
    obtain ⟨r, hr, rfl⟩ := List.mem_map.mp hq
    exact bare_g r (bareL_iff.mp h r hr)
  | .str x, _ => by rw [gP]; simp [bareP]
  | .non, _ => by rw [gP]; simp [bareP]
  | .bl _, _ => by rw [gP]; simp [bareP]
  | .int _, _ => by rw [gP]; simp [bareP]
  | .ty _, _ => by rw [gP]; simp [bareP]
  | .glb _, _ => by rw [gP]; simp [bareP]
  | .ref _, h => by simp [bareP] at h
theorem bareL_g {ps : List PV} (h : bareL ps = true) : bareL (gPs ν ps) = true := by
  rw [gPs_map]
  refine bareL_iff.mpr fun q hq => ?_
  obtain ⟨r, hr, rfl⟩ := List.mem_map.mp hq
  exact bare_g r (bareL_iff.mp h r hr)
theorem qApart {f f' : VF} (hf : QF ν f f') : QF ν (vApart f) (vApart f') := fun ps μ a μ' e => by
  unfold vApart at e
  split at e
  · rename_i c
    split at e
    · rename_i p μ1 h
      split at e
      · rename_i c2
        cases e
        unfold vApart
        have := hf ps [] _ _ h
        rw [if_pos (bareL_g c), show (gM ν [] : Sto) = [] from rfl] at *
        rw [this]
        exact if_pos (bare_g _ c2)
      · cases e
    · cases e
  · cases e
/-- a def that is asked of a name: what it tells of each name is known -/
noncomputable def vNameOk (f : VF) : VF := fun xs μ => match xs with
  | [.str ⟨⟨[c]⟩⟩] => if lim ≤ c then .ok (.bl true) μ else vApart f [.str ⟨⟨[c]⟩⟩] μ
  | xs => vApart f xs μ
theorem qNameOk {f f' : VF} (hn : ∀ i μ, vApart f' [.str ⟨⟨ν i⟩⟩] μ = .ok (.bl true) μ) (hf : QF ν f f') : QF ν (vNameOk f) (vApart f') := fun ps μ a μ' e => by
  unfold vNameOk at e
  split at e
  · rename_i c
    split at e
    · rename_i hc
      cases e
      have e2 : gTx ν ⟨⟨[c]⟩⟩ = ⟨⟨ν (c - lim)⟩⟩ := by
        show (⟨⟨gN ν [c]⟩⟩ : Str) = _
        simp only [gN, List.append_nil, gC, if_neg (Nat.not_lt.mpr hc)]
      simp only [gPs, gP, e2, hn]
    · exact qApart hf _ _ _ _ e
  · exact qApart hf _ _ _ _ e
end
end DL
/-! D42: with letters: constants, what is new, the end of a reckoning with letters -/
namespace DL
open PySem PySem.Spec PyProof.Rows L2
section
variable {ν : Nat → List Nat} {n : Nat}
theorem qCs {x y : Str} (h : okS x = true) (e : x = y) : QE ν (dC (.str x)) (dC (.str y)) := qC (by rw [gP, gTx_pure h, e])
theorem qCi {i : Int} : QE ν (dC (.int i)) (dC (.int i)) := qC (by rw [gP])
theorem qCb {b : Bool} : QE ν (dC (.bl b)) (dC (.bl b)) := qC (by rw [gP])
theorem qCn : QE ν (dC .non) (dC .non) := qC (by rw [gP])
theorem qCp {p p' : PV} (h : okPn 6 p = true) (e : p = p') : QE ν (dC p) (dC p') := qC (by rw [okPn_id h, e])
theorem qNewD : QE ν dNewD dNewD := fun η μ => SG.ok (by unfold dNewD; rw [gM_app, gM_len, gP, gO, gK])
theorem q_vRev : QF ν vRev vRev := fun ps μ a μ' e => by
  unfold vRev at e
  split at e
  · rename_i i
    split at e
    · rename_i qs hq
      cases e
      simp only [gPs, gP, vRev, gSeq, hq, Option.map_some, gM_len, gM_app, gO]
      rw [gPs_map, gPs_map, List.map_reverse]
    · cases e
  · cases e
noncomputable def vSetdG (n : Nat) : VF := fun xs μ => match xs with
  | [.ref i, k, x] => match dctAt μ i with
    | some kvs => if keyG kvs k = true ∧ kvs.length < sizeLine then match dgetX n kvs k with
        | some (some v) => .ok v μ
        | some none => match dputX n kvs k x with
          | some l => .ok x (μ.set i (.dct l))
          | none => .bad
        | none => .bad
      else .bad
    | none => .bad
  | _ => .bad
theorem q_vSetd (N : Nam ν n) : QF ν (vSetdG n) vSetd := fun ps μ a μ' e => by
  unfold vSetdG at e
  split at e
  · rename_i i k x
    split at e
    · rename_i kvs hk
      split at e
      · rename_i c
        have c' : keyIn (gK ν kvs) (gP ν k) = true ∧ (gK ν kvs).length < sizeLine := ⟨keyG_ok c.1, by rw [gK_len]; exact c.2⟩
        split at e
        · rename_i v ho
          cases e
          simp only [gPs, gP, vSetd, gDct, hk, Option.map_some, if_pos c', dgetX_ok N ho]
        · rename_i ho
          split at e
          · rename_i l hl
            cases e
            simp only [gPs, gP, vSetd, gDct, hk, Option.map_some, if_pos c', dgetX_ok N ho, Option.map_none, dputX_ok N hl, gM_set, gO]
          · cases e
        · cases e
      · cases e
    · cases e
  · cases e
noncomputable def vNameOkF (f : VF) : VF := fun xs μ => match xs with
  | [.str ⟨⟨[c]⟩⟩] => if lim ≤ c then .ok (.bl true) μ else vApartF f [.str ⟨⟨[c]⟩⟩] μ
  | xs => vApartF f xs μ
theorem vNameOkF_eq : vNameOkF = vNameOk := by
  funext f xs μ
  unfold vNameOkF vNameOk
  simp only [vApartF_eq]
  try rfl
end
/-! ### two names -/
def nu (x y : Str) : Nat → List Nat
  | 0 => x.cps.toList
  | _ + 1 => y.cps.toList
noncomputable def nameS (x : Str) : Bool := match x.cps.toList with
  | [] => false
  | c :: r => Nat.ble (c :: r).length 8 && (c :: r).all fun d => Nat.ble 97 d && Nat.ble d 122
theorem nameS_ok {x : Str} (h : nameS x = true) : x.cps.toList ≠ [] ∧ x.cps.toList.length ≤ 8 ∧ ∀ c ∈ x.cps.toList, 97 ≤ c ∧ c ≤ 122 := by
  unfold nameS at h
  split at h
  · cases h
  · rename_i c r e
    rw [Bool.and_eq_true, List.all_eq_true] at h
    rw [e]
    refine ⟨by simp, Nat.le_of_ble_eq_true h.1, fun d hd => ?_⟩
    have := h.2 d hd
    rw [Bool.and_eq_true] at this
    exact ⟨Nat.le_of_ble_eq_true this.1, Nat.le_of_ble_eq_true this.2⟩
theorem nam_two {x y : Str} (hx : nameS x = true) (hy : nameS y = true) (hne : eqS x y = false) : Nam (nu x y) 2 := by
  obtain ⟨x1, x2, x3⟩ := nameS_ok hx
  obtain ⟨y1, y2, y3⟩ := nameS_ok hy
  have ne : x.cps.toList ≠ y.cps.toList := fun h => by
    have : eqS x y = true := eqN_iff.mpr h
    rw [this] at hne
    cases hne
  refine ⟨fun i => ?_, fun i => ?_, fun i => ?_, fun i j hi hj e => ?_⟩
  · cases i with
    | zero => exact x3
    | succ i => exact y3
  · cases i with
    | zero => exact x1
    | succ i => exact y1
  · cases i with
    | zero => exact x2
    | succ i => exact y2
  · match i, j, hi, hj, e with
    | 0, 0, _, _, _ => rfl
    | 0, 1, _, _, e => exact absurd e ne
    | 1, 0, _, _, e => exact absurd e.symm ne
    | 1, 1, _, _, _ => rfl
noncomputable def allS (f : Str → Bool) (l : List Str) : Bool := List.rec (motive := fun _ => Bool) true (fun x _ ih => Bool.rec (motive := fun _ => Bool) false ih (f x)) l
theorem allS_iff {f : Str → Bool} : ∀ {l : List Str}, allS f l = true ↔ ∀ x ∈ l, f x = true
  | [] => ⟨fun _ _ h => (by cases h), fun _ => rfl⟩
  | x :: xs => by
    show (Bool.rec (motive := fun _ => Bool) false (allS f xs) (f x) : Bool) = true ↔ _
    cases e : f x with
    | false => simp [e]
    | true =>
      show allS f xs = true ↔ _
      rw [allS_iff]
      simp [e]
/-- unlike one another -/
noncomputable def difS2 (l : List Str) : Bool := List.rec (motive := fun _ => Bool) true (fun x r ih => Bool.rec (motive := fun _ => Bool) false ih (allS (fun y => !eqS x y) r)) l
theorem difS2_ok : ∀ {l : List Str}, difS2 l = true → ∀ (a b : Nat) (ha : a < l.length) (hb : b < (l.eraseIdx a).length), eqS l[a] (l.eraseIdx a)[b] = false
  | [], _, a, b, ha, _ => by simp at ha
  | x :: r, h, a, b, ha, hb => by
    have h : (Bool.rec (motive := fun _ => Bool) false (difS2 r) (allS (fun y => !eqS x y) r) : Bool) = true := h
    cases e : allS (fun y => !eqS x y) r with
    | false => rw [e] at h; cases h
    | true =>
      rw [e] at h
      have e := allS_iff.mp e
      have sym : ∀ y ∈ r, eqS y x = false := fun y hy => by
        have := e y hy
        cases q : eqS y x with
        | false => rfl
        | true =>
          rw [eqS_iff.mp q] at this
          rw [show eqS x x = true from eqS_iff.mpr rfl] at this
          cases this
      match a, b, ha, hb with
      | 0, b, ha, hb =>
        have hb' : b < r.length := hb
        have := e r[b] (List.getElem_mem hb')
        show eqS x r[b] = false
        cases q : eqS x r[b] with
        | false => rfl
        | true => rw [q] at this; cases this
      | a + 1, 0, ha, hb => exact sym _ (List.getElem_mem (by simpa using ha))
      | a + 1, b + 1, ha, hb => exact difS2_ok h a b (by simpa using ha) (by simpa using hb)
def isT : Rz PV → Bool
  | .ok (.bl true) _ => true
  | _ => false
theorem isT_of {r : Rz PV} (h : isT r = true) : ∃ μ, r = .ok (.bl true) μ := by
  unfold isT at h
  split at h
  · exact ⟨_, rfl⟩
  · cases h
/-- what is true by letters is so of the names -/
theorem apart_names {ν : Nat → List Nat} {f f' : VF} (hf : QF ν f f') {ps : List PV} {μ' : Sto} (hb : bareL ps = true) (h : f ps [] = .ok (.bl true) μ') (μ : Sto) : vApart f' (gPs ν ps) μ = .ok (.bl true) μ := by
  have e := hf ps [] _ _ h
  rw [show (gM ν [] : Sto) = [] from rfl] at e
  unfold vApart
  rw [if_pos (bareL_g hb), e]
  simp only [gP]
  exact if_pos (by simp [bareP])
/-- a pool of names, two drawn -/
theorem two_names {f g h : VF} {pool : List Str} (hp : allS nameS pool = true) (hd : difS2 pool = true) (hn : ∀ x ∈ pool, ∀ μ, vApart h [.str x] μ = .ok (.bl true) μ)
    (hq : ∀ ν : Nat → List Nat, Nam ν 2 → (∀ i μ, vApart h [.str ⟨⟨ν i⟩⟩] μ = .ok (.bl true) μ) → QF ν f g) (hl : isT (f [.str ⟨⟨[1114112]⟩⟩, .str ⟨⟨[1114113]⟩⟩] []) = true)
    (a b : Nat) (ha : a < pool.length) (hb : b < (pool.eraseIdx a).length) (μ : Sto) : vApart g [.str pool[a], .str (pool.eraseIdx a)[b]] μ = .ok (.bl true) μ := by
  have mx : pool[a] ∈ pool := List.getElem_mem ha
  have my : (pool.eraseIdx a)[b] ∈ pool := List.mem_of_mem_eraseIdx (List.getElem_mem hb)
  have N := nam_two (allS_iff.mp hp _ mx) (allS_iff.mp hp _ my) (difS2_ok hd a b ha hb)
  have hi : ∀ i μ, vApart h [.str ⟨⟨nu pool[a] (pool.eraseIdx a)[b] i⟩⟩] μ = .ok (.bl true) μ := fun i μ => by
    cases i with
    | zero => exact hn _ mx μ
    | succ i => exact hn _ my μ
  obtain ⟨μ1, e⟩ := isT_of hl
  have z := apart_names (hq _ N hi) (ps := [.str ⟨⟨[1114112]⟩⟩, .str ⟨⟨[1114113]⟩⟩]) (by simp [bareL, bareP]) e μ
  have e1 : gPs (nu pool[a] (pool.eraseIdx a)[b]) [.str ⟨⟨[1114112]⟩⟩, .str ⟨⟨[1114113]⟩⟩] = [.str pool[a], .str (pool.eraseIdx a)[b]] := by
    simp only [gPs, gP]
    have r : ∀ (i : Nat), i < 2 → gTx (nu pool[a] (pool.eraseIdx a)[b]) ⟨⟨[1114112 + i]⟩⟩ = ⟨⟨nu pool[a] (pool.eraseIdx a)[b] i⟩⟩ := fun i hi => by
      show (⟨⟨gN _ [1114112 + i]⟩⟩ : Str) = _
      have hc : ¬ 1114112 + i < lim := by unfold lim; omega
      have hs : 1114112 + i - lim = i := by unfold lim; omega
      simp only [gN, List.append_nil, gC, if_neg hc, hs]
    rw [r 0 (by omega), r 1 (by omega)]
    rfl
  rw [e1] at z
  exact z
end DL
namespace G
open PySem PySem.Spec PyProof.Rows L2 DL
def top (i : Nat) : Stmt := PySem.Challenge.pw_lostmetres_k14_standings_by_hand.main.body.getD i (.Pass ⟨0, 0, 0, 0⟩)
abbrev aC_Reading : Addr := 184
abbrev aC_Tongue : Addr := 298
abbrev aC_Voice : Addr := 391
abbrev s__law_places : Stmt := top 68
abbrev s__law_take : Stmt := top 66
abbrev s__law_some : Stmt := top 67
abbrev s__law_names : Stmt := top 69
abbrev s__law_pot : Stmt := top 65
abbrev s_ReadingD_initD : Stmt := inClass (top 46) 0
abbrev s_is_made_of : Stmt := top 19
abbrev s_is_name : Stmt := top 20
abbrev s_Reading_take_word : Stmt := inClass (top 46) 1
abbrev s_Reading_take_joint : Stmt := inClass (top 46) 2
abbrev s_forms_in : Stmt := top 43
abbrev s_parts_in : Stmt := top 44
abbrev s_metre_parts : Stmt := top 45
abbrev s_Reading_take_metre : Stmt := inClass (top 46) 3
abbrev s_Reading_take : Stmt := inClass (top 46) 4
abbrev s_read_lines : Stmt := top 47
abbrev s_TongueD_initD : Stmt := inClass (top 48) 0
abbrev s_Tongue_unknown : Stmt := inClass (top 48) 4
abbrev s_is_measure : Stmt := top 58
abbrev s_check_measure : Stmt := top 59
abbrev s_is_word : Stmt := top 18
abbrev s_Tongue_parts : Stmt := inClass (top 48) 12
abbrev s_TongueD_containsD : Stmt := inClass (top 48) 8
abbrev s_is_row : Stmt := top 60
abbrev s_check_row : Stmt := top 62
abbrev s_Tongue_words : Stmt := inClass (top 48) 2
abbrev s_Tongue_check_word : Stmt := inClass (top 48) 5
abbrev s_TongueD_getitemD : Stmt := inClass (top 48) 6
abbrev s_spoken : Stmt := top 54
abbrev s_VoiceD_initD : Stmt := inClass (top 55) 0
abbrev s_behind : Stmt := top 51
abbrev s_feet_begun : Stmt := top 52
abbrev s_stepped : Stmt := top 53
abbrev s_Voice_led_in : Stmt := inClass (top 55) 1
abbrev s_Voice_first : Stmt := inClass (top 55) 2
abbrev s_Tongue_joint : Stmt := inClass (top 48) 11
abbrev s_Voice_last_step : Stmt := inClass (top 55) 3
abbrev s_Voice_led : Stmt := inClass (top 55) 4
abbrev s_Voice_standing : Stmt := inClass (top 55) 6
abbrev s_standing : Stmt := top 63
abbrev s__law_right : Stmt := top 70
abbrev s_law : Stmt := top 71
structure Fx (K : PySem.W.Frag) (mg : Str → Option Value) : Prop where
  n_len : mg "len" = none
  n_min : mg "min" = none
  n_max : mg "max" = none
  n_list : mg "list" = none
  n_range : mg "range" = none
  g__law_places : mg "_law_places" = some (.ref (He.ga K "_law_places"))
  n_int : mg "int" = none
  g__law_take : mg "_law_take" = some (.ref (He.ga K "_law_take"))
  g__law_some : mg "_law_some" = some (.ref (He.ga K "_law_some"))
  g__law_names : mg "_law_names" = some (.ref (He.ga K "_law_names"))
  n_abs : mg "abs" = none
  g__law_pot : mg "_law_pot" = some (.ref (He.ga K "_law_pot"))
  n_isinstance : mg "isinstance" = none
  n_str : mg "str" = none
  s_FEED : ∃ u, mg "FEED" = some u ∧ RelV (.str "\n") u
  c_Reading : Cls K aC_Reading
  na_Reading_named_words : NoAttr K aC_Reading "named_words"
  na_Reading_named_joints : NoAttr K aC_Reading "named_joints"
  na_Reading_named_metres : NoAttr K aC_Reading "named_metres"
  mk_Reading : Mk K aC_Reading (He.ma K aC_Reading "__init__")
  g_Reading : mg "Reading" = some (.ref aC_Reading)
  n_enumerate : mg "enumerate" = none
  s_BLANK : ∃ u, mg "BLANK" = some u ∧ RelV (.str " ") u
  s_WORD : ∃ u, mg "WORD" = some u ∧ RelV (.str "word") u
  i_WORD_SIZE : ∃ u, mg "WORD_SIZE" = some u ∧ RelV (.int 5) u
  i_MOST_WORDS : ∃ u, mg "MOST_WORDS" = some u ∧ RelV (.int 6) u
  i_MOST_SIGNS : ∃ u, mg "MOST_SIGNS" = some u ∧ RelV (.int 8) u
  n_all : mg "all" = none
  g_is_made_of : mg "is_made_of" = some (.ref (He.ga K "is_made_of"))
  s_LETTERS : ∃ u, mg "LETTERS" = some u ∧ RelV (.str "abcdefghijklmnopqrstuvwxyz") u
  g_is_name : mg "is_name" = some (.ref (He.ga K "is_name"))
  n_tuple : mg "tuple" = none
  s_LONG : ∃ u, mg "LONG" = some u ∧ RelV (.str "-") u
  s_SHORT : ∃ u, mg "SHORT" = some u ∧ RelV (.str "u") u
  s_UNKNOWN : ∃ u, mg "UNKNOWN" = some u ∧ RelV (.str "?") u
  i_MOST_SYLLABLES : ∃ u, mg "MOST_SYLLABLES" = some u ∧ RelV (.int 4) u
  n_sum : mg "sum" = none
  i_MOST_UNKNOWN : ∃ u, mg "MOST_UNKNOWN" = some u ∧ RelV (.int 6) u
  m_Reading_take_word : Meth K aC_Reading "take_word" (He.ma K aC_Reading "take_word")
  s_JOINT : ∃ u, mg "JOINT" = some u ∧ RelV (.str "joint") u
  i_JOINT_SIZE : ∃ u, mg "JOINT_SIZE" = some u ∧ RelV (.int 4) u
  i_MOST_JOINTS : ∃ u, mg "MOST_JOINTS" = some u ∧ RelV (.int 9) u
  s_DROP : ∃ u, mg "DROP" = some u ∧ RelV (.str "drop") u
  s_MAY : ∃ u, mg "MAY" = some u ∧ RelV (.str "may") u
  s_STRETCH : ∃ u, mg "STRETCH" = some u ∧ RelV (.str "long") u
  m_Reading_take_joint : Meth K aC_Reading "take_joint" (He.ma K aC_Reading "take_joint")
  s_METRE : ∃ u, mg "METRE" = some u ∧ RelV (.str "metre") u
  i_METRE_SIZE : ∃ u, mg "METRE_SIZE" = some u ∧ RelV (.int 3) u
  i_MOST_METRES : ∃ u, mg "MOST_METRES" = some u ∧ RelV (.int 3) u
  i_MOST_PARTS : ∃ u, mg "MOST_PARTS" = some u ∧ RelV (.int 8) u
  s_ENDS : ∃ u, mg "ENDS" = some u ∧ RelV (.str "|") u
  s_AMID : ∃ u, mg "AMID" = some u ∧ RelV (.str "!") u
  s_STAR : ∃ u, mg "STAR" = some u ∧ RelV (.str "*") u
  s_FIGURES : ∃ u, mg "FIGURES" = some u ∧ RelV (.str "0123456789") u
  s_SLASH : ∃ u, mg "SLASH" = some u ∧ RelV (.str "/") u
  i_MOST_FORMS : ∃ u, mg "MOST_FORMS" = some u ∧ RelV (.int 3) u
  n_set : mg "set" = none
  s_EITHER : ∃ u, mg "EITHER" = some u ∧ RelV (.str "x") u
  g_forms_in : mg "forms_in" = some (.ref (He.ga K "forms_in"))
  g_parts_in : mg "parts_in" = some (.ref (He.ga K "parts_in"))
  i_MOST_DRAWN_OUT : ∃ u, mg "MOST_DRAWN_OUT" = some u ∧ RelV (.int 24) u
  g_metre_parts : mg "metre_parts" = some (.ref (He.ga K "metre_parts"))
  m_Reading_take_metre : Meth K aC_Reading "take_metre" (He.ma K aC_Reading "take_metre")
  m_Reading_take : Meth K aC_Reading "take" (He.ma K aC_Reading "take")
  g_read_lines : mg "read_lines" = some (.ref (He.ga K "read_lines"))
  c_Tongue : Cls K aC_Tongue
  na_Tongue_own_text : NoAttr K aC_Tongue "own_text"
  na_Tongue_own_words : NoAttr K aC_Tongue "own_words"
  na_Tongue_own_names : NoAttr K aC_Tongue "own_names"
  na_Tongue_own_joints : NoAttr K aC_Tongue "own_joints"
  na_Tongue_own_metres : NoAttr K aC_Tongue "own_metres"
  na_Tongue_own_unknown : NoAttr K aC_Tongue "own_unknown"
  mk_Tongue : Mk K aC_Tongue (He.ma K aC_Tongue "__init__")
  g_Tongue : mg "Tongue" = some (.ref aC_Tongue)
  p_Tongue_unknown : PropOf K aC_Tongue "unknown" (He.ma K aC_Tongue "unknown") (getterOf K aC_Tongue "unknown")
  g_is_measure : mg "is_measure" = some (.ref (He.ga K "is_measure"))
  g_check_measure : mg "check_measure" = some (.ref (He.ga K "check_measure"))
  g_is_word : mg "is_word" = some (.ref (He.ga K "is_word"))
  m_Tongue_parts : Meth K aC_Tongue "parts" (He.ma K aC_Tongue "parts")
  i_MOST_IN_ROW : ∃ u, mg "MOST_IN_ROW" = some u ∧ RelV (.int 2000) u
  m_Tongue_DcontainsD : Meth K aC_Tongue "__contains__" (He.ma K aC_Tongue "__contains__")
  g_is_row : mg "is_row" = some (.ref (He.ga K "is_row"))
  g_check_row : mg "check_row" = some (.ref (He.ga K "check_row"))
  c_Voice : Cls K aC_Voice
  na_Voice_own_tongue : NoAttr K aC_Voice "own_tongue"
  na_Voice_own_parts : NoAttr K aC_Voice "own_parts"
  p_Tongue_words : PropOf K aC_Tongue "words" (He.ma K aC_Tongue "words") (getterOf K aC_Tongue "words")
  m_Tongue_check_word : Meth K aC_Tongue "check_word" (He.ma K aC_Tongue "check_word")
  m_Tongue_DgetitemD : Meth K aC_Tongue "__getitem__" (He.ma K aC_Tongue "__getitem__")
  f_Tongue_DgetitemD : PySem.W.fnIn K (He.ma K aC_Tongue "__getitem__") = true
  g_spoken : mg "spoken" = some (.ref (He.ga K "spoken"))
  na_Voice_own_said : NoAttr K aC_Voice "own_said"
  mk_Voice : Mk K aC_Voice (He.ma K aC_Voice "__init__")
  g_Voice : mg "Voice" = some (.ref aC_Voice)
  g_behind : mg "behind" = some (.ref (He.ga K "behind"))
  g_feet_begun : mg "feet_begun" = some (.ref (He.ga K "feet_begun"))
  n_sorted : mg "sorted" = none
  g_stepped : mg "stepped" = some (.ref (He.ga K "stepped"))
  g_BEGIN : mg "BEGIN" = some (.ref (He.ga K "BEGIN"))
  t_BEGIN : ∀ H, SqT K H (He.ga K "BEGIN") [.int 0, .str ""]
  m_Voice_led_in : Meth K aC_Voice "led_in" (He.ma K aC_Voice "led_in")
  m_Voice_first : Meth K aC_Voice "first" (He.ma K aC_Voice "first")
  n_zip : mg "zip" = none
  m_Tongue_joint : Meth K aC_Tongue "joint" (He.ma K aC_Tongue "joint")
  m_Voice_last_step : Meth K aC_Voice "last_step" (He.ma K aC_Voice "last_step")
  m_Voice_led : Meth K aC_Voice "led" (He.ma K aC_Voice "led")
  m_Voice_standing : Meth K aC_Voice "standing" (He.ma K aC_Voice "standing")
  g_standing : mg "standing" = some (.ref (He.ga K "standing"))
  n_repr : mg "repr" = none
  g__law_right : mg "_law_right" = some (.ref (He.ga K "_law_right"))
  d__law_places : ∃ fd, FunD K "_law_places" "_law_places" (defArgs s__law_places) (defBody s__law_places) (defScope s__law_places) [] [] (He.ga K "_law_places") fd
  d__law_take : ∃ fd, FunD K "_law_take" "_law_take" (defArgs s__law_take) (defBody s__law_take) (defScope s__law_take) [] [] (He.ga K "_law_take") fd
  d__law_some : ∃ fd, FunD K "_law_some" "_law_some" (defArgs s__law_some) (defBody s__law_some) (defScope s__law_some) [] [] (He.ga K "_law_some") fd
  d__law_names : ∃ fd, FunD K "_law_names" "_law_names" (defArgs s__law_names) (defBody s__law_names) (defScope s__law_names) [] [] (He.ga K "_law_names") fd
  d__law_pot : ∃ fd, FunD K "_law_pot" "_law_pot" (defArgs s__law_pot) (defBody s__law_pot) (defScope s__law_pot) [] [] (He.ga K "_law_pot") fd
  d_ReadingD_initD : ∃ fd, FunD K "__init__" "Reading.__init__" (defArgs s_ReadingD_initD) (defBody s_ReadingD_initD) (defScope s_ReadingD_initD) [] [] (He.ma K aC_Reading "__init__") fd
  d_is_made_of : ∃ fd, FunD K "is_made_of" "is_made_of" (defArgs s_is_made_of) (defBody s_is_made_of) (defScope s_is_made_of) [] [] (He.ga K "is_made_of") fd
  d_is_name : ∃ fd, FunD K "is_name" "is_name" (defArgs s_is_name) (defBody s_is_name) (defScope s_is_name) [] [] (He.ga K "is_name") fd
  d_Reading_take_word : ∃ fd, FunD K "take_word" "Reading.take_word" (defArgs s_Reading_take_word) (defBody s_Reading_take_word) (defScope s_Reading_take_word) [] [] (He.ma K aC_Reading "take_word") fd
  d_Reading_take_joint : ∃ fd, FunD K "take_joint" "Reading.take_joint" (defArgs s_Reading_take_joint) (defBody s_Reading_take_joint) (defScope s_Reading_take_joint) [] [] (He.ma K aC_Reading "take_joint") fd
  d_forms_in : ∃ fd, FunD K "forms_in" "forms_in" (defArgs s_forms_in) (defBody s_forms_in) (defScope s_forms_in) [] [] (He.ga K "forms_in") fd
  d_parts_in : ∃ fd, FunD K "parts_in" "parts_in" (defArgs s_parts_in) (defBody s_parts_in) (defScope s_parts_in) [] [] (He.ga K "parts_in") fd
  d_metre_parts : ∃ fd, FunD K "metre_parts" "metre_parts" (defArgs s_metre_parts) (defBody s_metre_parts) (defScope s_metre_parts) [] [] (He.ga K "metre_parts") fd
  d_Reading_take_metre : ∃ fd, FunD K "take_metre" "Reading.take_metre" (defArgs s_Reading_take_metre) (defBody s_Reading_take_metre) (defScope s_Reading_take_metre) [] [] (He.ma K aC_Reading "take_metre") fd
  d_Reading_take : ∃ fd, FunD K "take" "Reading.take" (defArgs s_Reading_take) (defBody s_Reading_take) (defScope s_Reading_take) [] [] (He.ma K aC_Reading "take") fd
  d_read_lines : ∃ fd, FunD K "read_lines" "read_lines" (defArgs s_read_lines) (defBody s_read_lines) (defScope s_read_lines) [] [] (He.ga K "read_lines") fd
  d_TongueD_initD : ∃ fd, FunD K "__init__" "Tongue.__init__" (defArgs s_TongueD_initD) (defBody s_TongueD_initD) (defScope s_TongueD_initD) [] [] (He.ma K aC_Tongue "__init__") fd
  d_Tongue_unknown : ∃ fd, FunD K "unknown" "Tongue.unknown" (defArgs s_Tongue_unknown) (defBody s_Tongue_unknown) (defScope s_Tongue_unknown) [] [] (getterOf K aC_Tongue "unknown") fd
  d_is_measure : ∃ fd, FunD K "is_measure" "is_measure" (defArgs s_is_measure) (defBody s_is_measure) (defScope s_is_measure) [] [] (He.ga K "is_measure") fd
  d_check_measure : ∃ fd, FunD K "check_measure" "check_measure" (defArgs s_check_measure) (defBody s_check_measure) (defScope s_check_measure) [] [] (He.ga K "check_measure") fd
  d_is_word : ∃ fd, FunD K "is_word" "is_word" (defArgs s_is_word) (defBody s_is_word) (defScope s_is_word) [] [] (He.ga K "is_word") fd
  d_Tongue_parts : ∃ fd, FunD K "parts" "Tongue.parts" (defArgs s_Tongue_parts) (defBody s_Tongue_parts) (defScope s_Tongue_parts) [] [] (He.ma K aC_Tongue "parts") fd
  d_TongueD_containsD : ∃ fd, FunD K "__contains__" "Tongue.__contains__" (defArgs s_TongueD_containsD) (defBody s_TongueD_containsD) (defScope s_TongueD_containsD) [] [] (He.ma K aC_Tongue "__contains__") fd
  d_is_row : ∃ fd, FunD K "is_row" "is_row" (defArgs s_is_row) (defBody s_is_row) (defScope s_is_row) [] [] (He.ga K "is_row") fd
  d_check_row : ∃ fd, FunD K "check_row" "check_row" (defArgs s_check_row) (defBody s_check_row) (defScope s_check_row) [] [] (He.ga K "check_row") fd
  d_Tongue_words : ∃ fd, FunD K "words" "Tongue.words" (defArgs s_Tongue_words) (defBody s_Tongue_words) (defScope s_Tongue_words) [] [] (getterOf K aC_Tongue "words") fd
  d_Tongue_check_word : ∃ fd, FunD K "check_word" "Tongue.check_word" (defArgs s_Tongue_check_word) (defBody s_Tongue_check_word) (defScope s_Tongue_check_word) [] [] (He.ma K aC_Tongue "check_word") fd
  d_TongueD_getitemD : ∃ fd, FunD K "__getitem__" "Tongue.__getitem__" (defArgs s_TongueD_getitemD) (defBody s_TongueD_getitemD) (defScope s_TongueD_getitemD) [] [] (He.ma K aC_Tongue "__getitem__") fd
  d_spoken : ∃ fd, FunD K "spoken" "spoken" (defArgs s_spoken) (defBody s_spoken) (defScope s_spoken) [] [] (He.ga K "spoken") fd
  d_VoiceD_initD : ∃ fd, FunD K "__init__" "Voice.__init__" (defArgs s_VoiceD_initD) (defBody s_VoiceD_initD) (defScope s_VoiceD_initD) [] [] (He.ma K aC_Voice "__init__") fd
  d_behind : ∃ fd, FunD K "behind" "behind" (defArgs s_behind) (defBody s_behind) (defScope s_behind) [] [] (He.ga K "behind") fd
  d_feet_begun : ∃ fd, FunD K "feet_begun" "feet_begun" (defArgs s_feet_begun) (defBody s_feet_begun) (defScope s_feet_begun) [] [] (He.ga K "feet_begun") fd
  d_stepped : ∃ fd, FunD K "stepped" "stepped" (defArgs s_stepped) (defBody s_stepped) (defScope s_stepped) [] [] (He.ga K "stepped") fd
  d_Voice_led_in : ∃ fd, FunD K "led_in" "Voice.led_in" (defArgs s_Voice_led_in) (defBody s_Voice_led_in) (defScope s_Voice_led_in) [] [] (He.ma K aC_Voice "led_in") fd
  d_Voice_first : ∃ fd, FunD K "first" "Voice.first" (defArgs s_Voice_first) (defBody s_Voice_first) (defScope s_Voice_first) [] [] (He.ma K aC_Voice "first") fd
  d_Tongue_joint : ∃ fd, FunD K "joint" "Tongue.joint" (defArgs s_Tongue_joint) (defBody s_Tongue_joint) (defScope s_Tongue_joint) [] [] (He.ma K aC_Tongue "joint") fd
  d_Voice_last_step : ∃ fd, FunD K "last_step" "Voice.last_step" (defArgs s_Voice_last_step) (defBody s_Voice_last_step) (defScope s_Voice_last_step) [] [] (He.ma K aC_Voice "last_step") fd
  d_Voice_led : ∃ fd, FunD K "led" "Voice.led" (defArgs s_Voice_led) (defBody s_Voice_led) (defScope s_Voice_led) [] [] (He.ma K aC_Voice "led") fd
  d_Voice_standing : ∃ fd, FunD K "standing" "Voice.standing" (defArgs s_Voice_standing) (defBody s_Voice_standing) (defScope s_Voice_standing) [] [] (He.ma K aC_Voice "standing") fd
  d_standing : ∃ fd, FunD K "standing" "standing" (defArgs s_standing) (defBody s_standing) (defScope s_standing) [] [] (He.ga K "standing") fd
  d__law_right : ∃ fd, FunD K "_law_right" "_law_right" (defArgs s__law_right) (defBody s__law_right) (defScope s__law_right) [] [] (He.ga K "_law_right") fd
  d_law : ∃ fd, FunD K "law" "law" (defArgs s_law) (defBody s_law) (defScope s_law) [] [] (He.ga K "law") fd
def b__law_places : DS := (sRet (dLstRg1 (dApp vMax2 (dCons (dC (.int 1)) (dCons (dApp vMin2 (dCons (dVar 1) (dCons (dApp vLen (dCons (dVar 0) dNil)) dNil))) dNil)))))
def m__law_places : VF := fnBody 2 2 b__law_places
def b__law_take : DS := (sSeq (sIf (dTest (dApp vGt (dCons (dApp vIx (dCons (dVar 0) (dCons (dC (.int 0)) dNil))) (dCons (dC (.int 0)) dNil)))) (sSeq (sAsg (dApp vMod (dCons (dApp vInt (dCons (dApp vIx (dCons (dVar 0) (dCons (dC (.int 0)) dNil))) dNil)) (dCons (dVar 1) dNil))) (gSet 2)) (sSeq (sAsg (dApp vDiv (dCons (dApp vIx (dCons (dVar 0) (dCons (dC (.int 0)) dNil))) (dCons (dVar 1) dNil))) (gItem (dVar 0) (dC (.int 0)))) (sRet (dVar 2)))) sNil) (sSeq (sAsg (dApp vAdd (dCons (dApp vIx (dCons (dVar 0) (dCons (dC (.int 2)) dNil))) (dCons (dC (.int 1)) dNil))) (gItem (dVar 0) (dC (.int 2)))) (sSeq (sAsg (dApp vIx (dCons (dApp vLst (dCons (dC (.int 2147483647)) (dCons (dC (.int 2147483629)) (dCons (dC (.int 2147483587)) (dCons (dC (.int 2147483579)) (dCons (dC (.int 2147483563)) dNil)))))) (dCons (dApp vMod (dCons (dApp vInt (dCons (dApp vIx (dCons (dVar 0) (dCons (dC (.int 2)) dNil))) dNil)) (dCons (dC (.int 5)) dNil))) dNil))) (gSet 3)) (sSeq (sAsg (dApp vMod (dCons (dApp vInt (dCons (dApp vPow (dCons (dApp vInt (dCons (dApp vAdd (dCons (dApp vAdd (dCons (dApp vIx (dCons (dVar 0) (dCons (dC (.int 1)) dNil))) (dCons (dApp vMulA (dCons (dApp vMulA (dCons (dC (.int 95195)) (dCons (dApp vIx (dCons (dVar 0) (dCons (dC (.int 2)) dNil))) dNil))) (dCons (dApp vIx (dCons (dVar 0) (dCons (dC (.int 2)) dNil))) dNil))) dNil))) (dCons (dC (.int 111)) dNil))) dNil)) (dCons (dC (.int 3)) dNil))) dNil)) (dCons (dVar 3) dNil))) (gSet 4)) (sRet (dApp vMod (dCons (dApp vInt (dCons (dApp vDiv (dCons (dApp vMulA (dCons (dVar 4) (dCons (dApp vAdd (dCons (dApp vMod (dCons (dApp vInt (dCons (dVar 4) dNil)) (dCons (dC (.int 10039)) dNil))) (dCons (dApp vMulA (dCons (dC (.int 91)) (dCons (dApp vIx (dCons (dVar 0) (dCons (dC (.int 2)) dNil))) dNil))) dNil))) dNil))) (dCons (dC (.int 131)) dNil))) dNil)) (dCons (dVar 1) dNil))))))))
def m__law_take : VF := fnBody 2 5 b__law_take
def b__law_some : DS := (sSeq (sPar 3 4 (dCons (dApp vListB (dCons (dVar 1) dNil)) (dCons (dApp vLst dNil) dNil))) (sSeq (sFor (dRg1 (dVar 2)) (gSet 5) (sExpr (dM isLstP vAppend (dVar 4) (dCons (dM isLstP vPop (dVar 3) (dCons (dApp m__law_take (dCons (dVar 0) (dCons (dApp vLen (dCons (dVar 3) dNil)) dNil))) dNil)) dNil)))) (sRet (dVar 4))))
def m__law_some : VF := fnBody 3 6 b__law_some
def b__law_names : DS := (sSeq (sAsg (dApp vLst (dCons (dC (.str "am")) (dCons (dC (.str "ko")) (dCons (dC (.str "ta")) (dCons (dC (.str "word")) (dCons (dC (.str "joint")) (dCons (dC (.str "metre")) (dCons (dC (.str "notes")) (dCons (dC (.str "goes")) (dCons (dC (.str "find")) (dCons (dC (.str "drop")) (dCons (dC (.str "long")) (dCons (dC (.str "zzzzzzzz")) (dCons (dC (.str "x")) (dCons (dC (.str "u")) dNil))))))))))))))) (gSet 2)) (sRet (dApp m__law_some (dCons (dVar 0) (dCons (dVar 2) (dCons (dVar 1) dNil))))))
def m__law_names : VF := fnBody 2 3 b__law_names
def b__law_pot : DS := (sSeq (sAsg (dIf (dTest (dApp vLt (dCons (dVar 1) (dCons (dApp vLen (dCons (dVar 0) dNil)) dNil)))) (dApp vIx (dCons (dVar 0) (dCons (dVar 1) dNil))) (dApp vAdd (dCons (dApp vMulA (dCons (dC (.int 125)) (dCons (dVar 1) dNil))) (dCons (dC (.int 85)) dNil)))) (gSet 2)) (sSeq (sAsg (dApp vMulA (dCons (dApp vMod (dCons (dApp vInt (dCons (dApp vAbs (dCons (dVar 2) dNil)) dNil)) (dCons (dApp vPow (dCons (dApp vPow (dCons (dC (.int 10)) (dCons (dC (.int 60)) dNil))) (dCons (dC (.int 5)) dNil))) dNil))) (dCons (dApp vInt (dCons (dApp vGe (dCons (dApp vAbs (dCons (dVar 2) dNil)) (dCons (dApp vPow (dCons (dC (.int 10)) (dCons (dC (.int 18)) dNil))) dNil))) dNil)) dNil))) (gSet 3)) (sSeq (sAsg (dApp vMod (dCons (dApp vInt (dCons (dVar 2) dNil)) (dCons (dC (.int 2305843009213693951)) dNil))) (gSet 4)) (sRet (dApp vLst (dCons (dVar 3) (dCons (dApp vMod (dCons (dApp vInt (dCons (dApp vAdd (dCons (dApp vAdd (dCons (dApp vMulA (dCons (dVar 4) (dCons (dC (.int 80313)) dNil))) (dCons (dApp vMulA (dCons (dApp vMulA (dCons (dC (.int 8329)) (dCons (dVar 1) dNil))) (dCons (dVar 1) dNil))) dNil))) (dCons (dC (.int 113)) dNil))) dNil)) (dCons (dC (.int 2305843009213693921)) dNil))) (dCons (dC (.int 0)) dNil))))))))
def m__law_pot : VF := fnBody 2 5 b__law_pot
def b_ReadingD_initD : DS := (sSeq (sFldSet aC_Reading "named_words" (dVar 0) dNewD) (sSeq (sFldSet aC_Reading "named_joints" (dVar 0) dNewD) (sFldSet aC_Reading "named_metres" (dVar 0) dNewD)))
def m_ReadingD_initD : VF := fnBody 1 1 b_ReadingD_initD
def b_is_made_of : DS := (sRet (dAndV (dApp vNeA (dCons (dVar 0) (dCons (dC (.str "")) dNil))) (dApp vAll (dCons (dLc (dItA (dVar 0)) (gSet 2) tYes' (dApp vIn (dCons (dVar 2) (dCons (dVar 1) dNil))) [2]) dNil))))
def m_is_made_of : VF := fnBody 2 3 b_is_made_of
def b_is_name : DS := (sRet (dAndV (dApp vLe (dCons (dApp vLen (dCons (dVar 0) dNil)) (dCons (dC (.int 8)) dNil))) (dApp (vApart m_is_made_of) (dCons (dVar 0) (dCons (dC (.str "abcdefghijklmnopqrstuvwxyz")) dNil)))))
def m_is_name : VF := fnBody 1 1 b_is_name
def b_Reading_take_word : DS := (sSeq (sAsg (dOrV (dApp vNeA (dCons (dApp (vFld aC_Reading "named_joints") (dCons (dVar 0) dNil)) (dCons dNewD dNil))) (dApp vNeA (dCons (dApp (vFld aC_Reading "named_metres") (dCons (dVar 0) dNil)) (dCons dNewD dNil)))) (gSet 2)) (sSeq (sIf (dOr (dTest (dApp vNeA (dCons (dApp vLen (dCons (dVar 1) dNil)) (dCons (dC (.int 5)) dNil)))) (dOr (dTest (dApp vEqA (dCons (dApp vLen (dCons (dApp (vFld aC_Reading "named_words") (dCons (dVar 0) dNil)) dNil)) (dCons (dC (.int 6)) dNil)))) (dTru (dVar 2)))) (sRet (dC (.bl false))) sNil) (sSeq (sAsg (dCut (dVar 1) (dPart (dC (.int 1))) dNoPart) (gTupA 4 (gCons' (gSet 3) (gCons' (gSet 4) (gCons' (gSet 5) (gCons' (gSet 6) gNil')))))) (sSeq (sIf (dOr (dNot (dTru (dApp (vApart m_is_name) (dCons (dVar 3) dNil)))) (dOr (dTest (dApp vIn (dCons (dVar 3) (dCons (dApp (vFld aC_Reading "named_words") (dCons (dVar 0) dNil)) dNil)))) (dOr (dTest (dApp vNotIn (dCons (dVar 4) (dCons (dApp vTupleA (dCons (dC (.str "abcdefghijklmnopqrstuvwxyz")) dNil)) dNil)))) (dTest (dApp vNotIn (dCons (dVar 6) (dCons (dApp vTupleA (dCons (dC (.str "abcdefghijklmnopqrstuvwxyz")) dNil)) dNil))))))) (sRet (dC (.bl false))) sNil) (sSeq (sIf (dOr (dNot (dTru (dApp (vApart m_is_made_of) (dCons (dVar 5) (dCons (dApp vTup (dCons (dC (.str "-")) (dCons (dC (.str "u")) (dCons (dC (.str "?")) dNil)))) dNil))))) (dTest (dApp vGt (dCons (dApp vLen (dCons (dVar 5) dNil)) (dCons (dC (.int 4)) dNil))))) (sRet (dC (.bl false))) sNil) (sSeq (sAsg (dApp vSum (dCons (dLc (dVals (dApp (vFld aC_Reading "named_words") (dCons (dVar 0) dNil))) (gSet 8) tYes' (dM isStrP vCount (dApp vIx (dCons (dVar 8) (dCons (dC (.int 1)) dNil))) (dCons (dC (.str "?")) dNil)) [8]) dNil)) (gSet 7)) (sSeq (sIf (dTest (dApp vGt (dCons (dApp vAdd (dCons (dVar 7) (dCons (dM isStrP vCount (dVar 5) (dCons (dC (.str "?")) dNil)) dNil))) (dCons (dC (.int 6)) dNil)))) (sRet (dC (.bl false))) sNil) (sSeq (sAsg (dApp vTup (dCons (dVar 4) (dCons (dVar 5) (dCons (dVar 6) dNil)))) (gItem (dApp (vFld aC_Reading "named_words") (dCons (dVar 0) dNil)) (dVar 3))) (sRet (dC (.bl true)))))))))))
def m_Reading_take_word : VF := fnBody 2 9 b_Reading_take_word
def b_Reading_take_joint : DS := (sSeq (sAsg (dOrV (dApp vEqA (dCons (dApp (vFld aC_Reading "named_words") (dCons (dVar 0) dNil)) (dCons dNewD dNil))) (dApp vNeA (dCons (dApp (vFld aC_Reading "named_metres") (dCons (dVar 0) dNil)) (dCons dNewD dNil)))) (gSet 2)) (sSeq (sIf (dOr (dTest (dApp vNeA (dCons (dApp vLen (dCons (dVar 1) dNil)) (dCons (dC (.int 4)) dNil)))) (dOr (dTest (dApp vEqA (dCons (dApp vLen (dCons (dApp (vFld aC_Reading "named_joints") (dCons (dVar 0) dNil)) dNil)) (dCons (dC (.int 9)) dNil)))) (dTru (dVar 2)))) (sRet (dC (.bl false))) sNil) (sSeq (sAsg (dCut (dVar 1) (dPart (dC (.int 1))) dNoPart) (gTupA 3 (gCons' (gSet 3) (gCons' (gSet 4) (gCons' (gSet 5) gNil'))))) (sSeq (sIf (dOr (dTest (dApp vNotIn (dCons (dVar 3) (dCons (dApp vTupleA (dCons (dC (.str "abcdefghijklmnopqrstuvwxyz")) dNil)) dNil)))) (dOr (dTest (dApp vNotIn (dCons (dVar 4) (dCons (dApp vTupleA (dCons (dC (.str "abcdefghijklmnopqrstuvwxyz")) dNil)) dNil)))) (dTest (dApp vNotIn (dCons (dVar 5) (dCons (dApp vTup (dCons (dC (.str "drop")) (dCons (dC (.str "may")) (dCons (dC (.str "long")) dNil)))) dNil)))))) (sRet (dC (.bl false))) sNil) (sSeq (sIf (dTest (dApp vIn (dCons (dApp vTup (dCons (dVar 3) (dCons (dVar 4) dNil))) (dCons (dApp (vFld aC_Reading "named_joints") (dCons (dVar 0) dNil)) dNil)))) (sRet (dC (.bl false))) sNil) (sSeq (sAsg (dVar 5) (gItem (dApp (vFld aC_Reading "named_joints") (dCons (dVar 0) dNil)) (dApp vTup (dCons (dVar 3) (dCons (dVar 4) dNil))))) (sRet (dC (.bl true)))))))))
def m_Reading_take_joint : VF := fnBody 2 6 b_Reading_take_joint
def b_forms_in : DS := (sSeq (sAsg (dM isStrP vSplit (dVar 0) (dCons (dC (.str "/")) dNil)) (gSet 1)) (sSeq (sIf (dOr (dTest (dApp vGt (dCons (dApp vLen (dCons (dVar 1) dNil)) (dCons (dC (.int 3)) dNil)))) (dTest (dApp vLt (dCons (dApp vLenSet (dCons (dVar 1) dNil)) (dCons (dApp vLen (dCons (dVar 1) dNil)) dNil))))) (sRet (dC .non)) sNil) (sSeq (sFor (dItA (dVar 1)) (gSet 2) (sIf (dOr (dTest (dApp vGt (dCons (dApp vLen (dCons (dVar 2) dNil)) (dCons (dC (.int 4)) dNil)))) (dNot (dTru (dApp (vApart m_is_made_of) (dCons (dVar 2) (dCons (dApp vTup (dCons (dC (.str "-")) (dCons (dC (.str "u")) (dCons (dC (.str "x")) dNil)))) dNil)))))) (sRet (dC .non)) sNil)) (sRet (dApp vTupleA (dCons (dVar 1) dNil))))))
def m_forms_in : VF := fnBody 1 3 b_forms_in
def b_parts_in : DS := (sSeq (sIf (dTest (dApp vIn (dCons (dVar 0) (dCons (dApp vTup (dCons (dC (.str "|")) (dCons (dC (.str "!")) dNil))) dNil)))) (sRet (dApp vTup (dCons (dVar 0) dNil))) sNil) (sSeq (sPar 1 2 (dCons (dC (.int 1)) (dCons (dApp vEqA (dCons (dApp vIx (dCons (dVar 0) (dCons (dC (.int 0)) dNil))) (dCons (dC (.str "*")) dNil))) dNil))) (sSeq (sIf (dTru (dVar 2)) (sAsg (dCut (dVar 0) (dPart (dC (.int 1))) dNoPart) (gSet 0)) (sIf (dAnd (dTest (dApp vGt (dCons (dApp vLen (dCons (dVar 0) dNil)) (dCons (dC (.int 1)) dNil)))) (dAnd (dTest (dApp vEqA (dCons (dApp vIx (dCons (dVar 0) (dCons (dC (.int 1)) dNil))) (dCons (dC (.str "*")) dNil)))) (dTest (dApp vIn (dCons (dApp vIx (dCons (dVar 0) (dCons (dC (.int 0)) dNil))) (dCons (dCut (dC (.str "0123456789")) (dPart (dC (.int 2))) dNoPart) dNil)))))) (sPar 1 0 (dCons (dApp vInt (dCons (dApp vIx (dCons (dVar 0) (dCons (dC (.int 0)) dNil))) dNil)) (dCons (dCut (dVar 0) (dPart (dC (.int 2))) dNoPart) dNil))) sNil)) (sSeq (sAsg (dApp (vApart m_forms_in) (dCons (dVar 0) dNil)) (gSet 3)) (sRet (dIf (dTest (dApp vIs (dCons (dVar 3) (dCons (dC .non) dNil)))) (dC .non) (dApp vMulA (dCons (dApp vTup (dCons (dApp vTup (dCons (dVar 2) (dCons (dVar 3) dNil))) dNil)) (dCons (dVar 1) dNil)))))))))
def m_parts_in : VF := fnBody 1 4 b_parts_in
def b_metre_parts : DS := (sSeq (sIf (dNot (dTest (dChain vLe vLe (dC (.int 1)) (dApp vLen (dCons (dVar 0) dNil)) (dC (.int 8))))) (sRet (dC .non)) sNil) (sSeq (sAsg (dLc (dItA (dVar 0)) (gSet 3) tYes' (dApp (vApart m_parts_in) (dCons (dVar 3) dNil)) [3]) (gSet 1)) (sSeq (sIf (dTest (dApp vIn (dCons (dC .non) (dCons (dVar 1) dNil)))) (sRet (dC .non)) sNil) (sSeq (sAsg (dApp vTupleA (dCons (dLc2 (dItA (dVar 1)) (gSet 4) tYes' (dItA (dVar 4)) (gSet 5) tYes' (dVar 5) [4, 5] [5]) dNil)) (gSet 2)) (sRet (dIf (dTest (dApp vLe (dCons (dApp vLen (dCons (dVar 2) dNil)) (dCons (dC (.int 24)) dNil)))) (dVar 2) (dC .non)))))))
def m_metre_parts : VF := fnBody 1 6 b_metre_parts
def b_Reading_take_metre : DS := (sSeq (sIf (dOr (dTest (dApp vLt (dCons (dApp vLen (dCons (dVar 1) dNil)) (dCons (dC (.int 3)) dNil)))) (dOr (dTest (dApp vEqA (dCons (dApp vLen (dCons (dApp (vFld aC_Reading "named_metres") (dCons (dVar 0) dNil)) dNil)) (dCons (dC (.int 3)) dNil)))) (dTest (dApp vEqA (dCons (dApp (vFld aC_Reading "named_words") (dCons (dVar 0) dNil)) (dCons dNewD dNil)))))) (sRet (dC (.bl false))) sNil) (sSeq (sAsg (dApp m_metre_parts (dCons (dCut (dVar 1) (dPart (dC (.int 2))) dNoPart) dNil)) (gSet 2)) (sSeq (sIf (dOr (dNot (dTru (dApp (vApart m_is_name) (dCons (dApp vIx (dCons (dVar 1) (dCons (dC (.int 1)) dNil))) dNil)))) (dOr (dTest (dApp vIn (dCons (dApp vIx (dCons (dVar 1) (dCons (dC (.int 1)) dNil))) (dCons (dApp (vFld aC_Reading "named_metres") (dCons (dVar 0) dNil)) dNil)))) (dTest (dApp vIs (dCons (dVar 2) (dCons (dC .non) dNil)))))) (sRet (dC (.bl false))) sNil) (sSeq (sAsg (dVar 2) (gItem (dApp (vFld aC_Reading "named_metres") (dCons (dVar 0) dNil)) (dApp vIx (dCons (dVar 1) (dCons (dC (.int 1)) dNil))))) (sRet (dC (.bl true)))))))
def m_Reading_take_metre : VF := fnBody 2 3 b_Reading_take_metre
def b_Reading_take : DS := (sSeq (sAsg (dM isStrP vSplit (dVar 1) (dCons (dC (.str " ")) dNil)) (gSet 2)) (sSeq (sIf (dTest (dApp vIn (dCons (dC (.str "")) (dCons (dVar 2) dNil)))) (sRet (dC (.bl false))) sNil) (sSeq (sIf (dTest (dApp vEqA (dCons (dApp vIx (dCons (dVar 2) (dCons (dC (.int 0)) dNil))) (dCons (dC (.str "word")) dNil)))) (sRet (dMeth aC_Reading "take_word" m_Reading_take_word (dVar 0) (dCons (dVar 2) dNil))) sNil) (sSeq (sIf (dTest (dApp vEqA (dCons (dApp vIx (dCons (dVar 2) (dCons (dC (.int 0)) dNil))) (dCons (dC (.str "joint")) dNil)))) (sRet (dMeth aC_Reading "take_joint" m_Reading_take_joint (dVar 0) (dCons (dVar 2) dNil))) sNil) (sRet (dAndV (dApp vEqA (dCons (dApp vIx (dCons (dVar 2) (dCons (dC (.int 0)) dNil))) (dCons (dC (.str "metre")) dNil))) (dMeth aC_Reading "take_metre" m_Reading_take_metre (dVar 0) (dCons (dVar 2) dNil))))))))
def m_Reading_take : VF := fnBody 2 3 b_Reading_take
def b_read_lines : DS := (sSeq (sIf (dNot (dTru (dApp (vIsi (isiB .str [])) (dCons (dVar 0) dNil)))) sBad sNil) (sSeq (sPar 1 2 (dCons (dM isStrP vSplit (dVar 0) (dCons (dC (.str "\n")) dNil)) (dCons (dApp (vMake aC_Reading m_ReadingD_initD) dNil) dNil))) (sSeq (sFor (dEnum (dVar 1)) (gTupA 2 (gCons' (gSet 3) (gCons' (gSet 4) gNil'))) (sIf (dNot (dTru (dMeth aC_Reading "take" m_Reading_take (dVar 2) (dCons (dVar 4) dNil)))) sBad sNil)) (sSeq (sIf (dTest (dApp vEqA (dCons (dApp (vFld aC_Reading "named_metres") (dCons (dVar 2) dNil)) (dCons dNewD dNil)))) sBad sNil) (sRet (dVar 2))))))
def m_read_lines : VF := fnBody 1 5 b_read_lines
def b_TongueD_initD : DS := (sSeq (sAsg (dApp m_read_lines (dCons (dVar 1) dNil)) (gSet 2)) (sSeq (sFldSet aC_Tongue "own_text" (dVar 0) (dVar 1)) (sSeq (sFldSet aC_Tongue "own_words" (dVar 0) (dApp (vFld aC_Reading "named_words") (dCons (dVar 2) dNil))) (sSeq (sFldSet aC_Tongue "own_names" (dVar 0) (dApp vTupleA (dCons (dApp vListB (dCons (dApp (vFld aC_Reading "named_words") (dCons (dVar 2) dNil)) dNil)) dNil))) (sSeq (sFldSet aC_Tongue "own_joints" (dVar 0) (dApp (vFld aC_Reading "named_joints") (dCons (dVar 2) dNil))) (sSeq (sFldSet aC_Tongue "own_metres" (dVar 0) (dApp (vFld aC_Reading "named_metres") (dCons (dVar 2) dNil))) (sSeq (sAsg (dApp vLst dNil) (gSet 3)) (sSeq (sFor (dItems (dApp (vFld aC_Reading "named_words") (dCons (dVar 2) dNil))) (gTupA 2 (gCons' (gSet 4) (gCons' (gSet 5) gNil'))) (sExpr (dM isLstP vExtend (dVar 3) (dCons (dLc (dEnum (dApp vIx (dCons (dVar 5) (dCons (dC (.int 1)) dNil)))) (gTupA 2 (gCons' (gSet 6) (gCons' (gSet 7) gNil'))) (dTest (dApp vEqA (dCons (dVar 7) (dCons (dC (.str "?")) dNil)))) (dApp vTup (dCons (dVar 4) (dCons (dVar 6) dNil))) [6, 7]) dNil)))) (sFldSet aC_Tongue "own_unknown" (dVar 0) (dApp vTupleA (dCons (dVar 3) dNil)))))))))))
def m_TongueD_initD : VF := fnBody 2 8 b_TongueD_initD
def b_Tongue_unknown : DS := (sRet (dApp (vFld aC_Tongue "own_unknown") (dCons (dVar 0) dNil)))
def m_Tongue_unknown : VF := fnBody 1 1 b_Tongue_unknown
def b_is_measure : DS := (sSeq (sIf (dOr (dNot (dTru (dApp (vIsi (isiB .str [])) (dCons (dVar 1) dNil)))) (dTest (dApp vNeA (dCons (dApp vLen (dCons (dVar 1) dNil)) (dCons (dApp vLen (dCons (dApp (vProp aC_Tongue m_Tongue_unknown) (dCons (dVar 0) dNil)) dNil)) dNil))))) (sRet (dC (.bl false))) sNil) (sRet (dOrV (dApp vEqA (dCons (dVar 1) (dCons (dC (.str "")) dNil))) (dApp (vApart m_is_made_of) (dCons (dVar 1) (dCons (dApp vTup (dCons (dC (.str "-")) (dCons (dC (.str "u")) dNil))) dNil))))))
def m_is_measure : VF := fnBody 2 2 b_is_measure
def b_check_measure : DS := (sIf (dNot (dTru (dApp m_is_measure (dCons (dVar 0) (dCons (dVar 1) dNil))))) sBad sNil)
def m_check_measure : VF := fnBody 2 2 b_check_measure
def b_is_word : DS := (sRet (dAndV (dApp (vIsi (isiB .str [])) (dCons (dVar 0) dNil)) (dApp vIn (dCons (dVar 0) (dCons (dVar 1) dNil)))))
def m_is_word : VF := fnBody 2 2 b_is_word
def b_Tongue_parts : DS := (sSeq (sIf (dNot (dTru (dApp m_is_word (dCons (dVar 1) (dCons (dApp (vFld aC_Tongue "own_metres") (dCons (dVar 0) dNil)) dNil))))) sBad sNil) (sRet (dApp vIx (dCons (dApp (vFld aC_Tongue "own_metres") (dCons (dVar 0) dNil)) (dCons (dVar 1) dNil)))))
def m_Tongue_parts : VF := fnBody 2 2 b_Tongue_parts
def b_TongueD_containsD : DS := (sRet (dApp m_is_word (dCons (dVar 1) (dCons (dApp (vFld aC_Tongue "own_words") (dCons (dVar 0) dNil)) dNil))))
def m_TongueD_containsD : VF := fnBody 2 2 b_TongueD_containsD
def b_is_row : DS := (sRet (dAndV (dApp (vIsi (isiB .tup [])) (dCons (dVar 1) dNil)) (dAndV (dChain vLe vLe (dC (.int 1)) (dApp vLen (dCons (dVar 1) dNil)) (dC (.int 2000))) (dApp vAll (dCons (dLc (dItA (dVar 1)) (gSet 2) tYes' (dApp (vInO aC_Tongue m_TongueD_containsD) (dCons (dVar 2) (dCons (dVar 0) dNil))) [2]) dNil)))))
def m_is_row : VF := fnBody 2 3 b_is_row
def b_check_row : DS := (sIf (dNot (dTru (dApp m_is_row (dCons (dVar 0) (dCons (dVar 1) dNil))))) sBad sNil)
def m_check_row : VF := fnBody 2 2 b_check_row
def b_Tongue_words : DS := (sRet (dApp (vFld aC_Tongue "own_names") (dCons (dVar 0) dNil)))
def m_Tongue_words : VF := fnBody 1 1 b_Tongue_words
def b_Tongue_check_word : DS := (sIf (dNot (dTru (dApp m_is_word (dCons (dVar 1) (dCons (dApp (vFld aC_Tongue "own_words") (dCons (dVar 0) dNil)) dNil))))) sBad sNil)
def m_Tongue_check_word : VF := fnBody 2 2 b_Tongue_check_word
def b_TongueD_getitemD : DS := (sSeq (sExpr (dMeth aC_Tongue "check_word" m_Tongue_check_word (dVar 0) (dCons (dVar 1) dNil))) (sRet (dApp vIx (dCons (dApp (vFld aC_Tongue "own_words") (dCons (dVar 0) dNil)) (dCons (dVar 1) dNil)))))
def m_TongueD_getitemD : VF := fnBody 2 2 b_TongueD_getitemD
def b_spoken : DS := (sSeq (sAsg (dApp vTup (dCons (dApp vListB (dCons (dVar 1) dNil)) (dCons dNewD dNil))) (gTupA 2 (gCons' (gSet 2) (gCons' (gSet 3) gNil')))) (sSeq (sFor (dItA (dApp (vProp aC_Tongue m_Tongue_words) (dCons (dVar 0) dNil))) (gSet 4) (sSeq (sAsg (dLc (dItA (dApp vIx (dCons (dApp (vItemO aC_Tongue m_TongueD_getitemD) (dCons (dVar 0) (dCons (dVar 4) dNil))) (dCons (dC (.int 1)) dNil)))) (gSet 6) tYes' (dIf (dTest (dApp vEqA (dCons (dVar 6) (dCons (dC (.str "?")) dNil)))) (dM isLstP vPop (dVar 2) (dCons (dC (.int 0)) dNil)) (dVar 6)) [6]) (gSet 5)) (sAsg (dM isStrP vJoin (dC (.str "")) (dCons (dVar 5) dNil)) (gItem (dVar 3) (dVar 4))))) (sRet (dVar 3))))
def m_spoken : VF := fnBody 2 7 b_spoken
def b_VoiceD_initD : DS := (sSeq (sFldSet aC_Voice "own_tongue" (dVar 0) (dVar 1)) (sSeq (sFldSet aC_Voice "own_parts" (dVar 0) (dMeth aC_Tongue "parts" m_Tongue_parts (dVar 1) (dCons (dVar 3) dNil))) (sFldSet aC_Voice "own_said" (dVar 0) (dApp m_spoken (dCons (dVar 1) (dCons (dVar 2) dNil))))))
def m_VoiceD_initD : VF := fnBody 4 4 b_VoiceD_initD
def b_behind : DS := (sSeq (sIf (dTest (dApp vNeA (dCons (dVar 2) (dCons (dC (.str "")) dNil)))) (sRet (dApp vTup (dCons (dVar 1) (dCons (dVar 2) dNil)))) sNil) (sRet (dApp vTup (dCons (dIf (dTest (dApp vIs (dCons (dApp vIx (dCons (dApp vIx (dCons (dVar 0) (dCons (dVar 1) dNil))) (dCons (dC (.int 0)) dNil))) (dCons (dC (.bl true)) dNil)))) (dVar 1) (dApp vAdd (dCons (dVar 1) (dCons (dC (.int 1)) dNil)))) (dCons (dC (.str "")) dNil)))))
def m_behind : VF := fnBody 3 3 b_behind
def b_feet_begun : DS := (sSeq (sAsg (dVar 1) (gTupA 2 (gCons' (gSet 4) (gCons' (gSet 5) gNil')))) (sSeq (sIf (dTest (dApp vNeA (dCons (dVar 5) (dCons (dC (.str "")) dNil)))) (sRet (dIf (dTest (dApp vIn (dCons (dApp vIx (dCons (dVar 5) (dCons (dC (.int 0)) dNil))) (dCons (dApp vTup (dCons (dVar 2) (dCons (dC (.str "x")) dNil))) dNil)))) (dApp vLst (dCons (dApp vTup (dCons (dApp (vApart m_behind) (dCons (dVar 0) (dCons (dVar 4) (dCons (dCut (dVar 5) (dPart (dC (.int 1))) dNoPart) dNil)))) (dCons (dC .non) dNil))) dNil)) (dApp vLst dNil))) sNil) (sSeq (sAsg (dApp vLst dNil) (gSet 6)) (sSeq (sFor (dRg2 (dVar 4) (dApp vLen (dCons (dVar 0) dNil))) (gSet 7) (sSeq (sAsg (dApp vIx (dCons (dVar 0) (dCons (dVar 7) dNil))) (gSet 8)) (sIf (dTest (dApp vIn (dCons (dVar 8) (dCons (dApp vTup (dCons (dC (.str "|")) (dCons (dC (.str "!")) dNil))) dNil)))) (sIf (dTest (dApp vNeA (dCons (dApp vEqA (dCons (dVar 8) (dCons (dC (.str "|")) dNil))) (dCons (dVar 3) dNil)))) sBreak sNil) (sSeq (sAsg (dVar 8) (gTupA 2 (gCons' (gSet 9) (gCons' (gSet 10) gNil')))) (sSeq (sAsg (dLc (dItA (dVar 10)) (gSet 12) (dTest (dApp vIn (dCons (dApp vIx (dCons (dVar 12) (dCons (dC (.int 0)) dNil))) (dCons (dApp vTup (dCons (dVar 2) (dCons (dC (.str "x")) dNil))) dNil)))) (dVar 12) [12]) (gSet 11)) (sSeq (sExpr (dM isLstP vExtend (dVar 6) (dCons (dLc (dItA (dVar 11)) (gSet 12) tYes' (dApp vTup (dCons (dApp (vApart m_behind) (dCons (dVar 0) (dCons (dVar 7) (dCons (dCut (dVar 12) (dPart (dC (.int 1))) dNoPart) dNil)))) (dCons (dApp vTup (dCons (dVar 7) (dCons (dVar 12) dNil))) dNil))) [12]) dNil))) (sIf (dNot (dTru (dVar 9))) sBreak sNil))))))) (sRet (dVar 6))))))
def m_feet_begun : VF := fnBody 4 13 b_feet_begun
def b_stepped : DS := (sSeq (sAsg (dApp vLst dNil) (gSet 4)) (sSeq (sFor (dItA (dVar 1)) (gSet 5) (sExpr (dM isLstP vExtend (dVar 4) (dCons (dLc (dItA (dApp m_feet_begun (dCons (dVar 0) (dCons (dVar 5) (dCons (dVar 2) (dCons (dVar 3) dNil)))))) (gTupA 2 (gCons' (gSet 6) (gCons' (gSet 7) gNil'))) tYes' (dVar 6) [6, 7]) dNil)))) (sRet (dApp vTupleA (dCons (dApp vSortSet (dCons (dVar 4) dNil)) dNil)))))
def m_stepped : VF := fnBody 4 8 b_stepped
def b_Voice_led_in : DS := (sSeq (sFor (dEnum (dCut (dApp vIx (dCons (dApp (vFld aC_Voice "own_said") (dCons (dVar 0) dNil)) (dCons (dVar 2) dNil))) dNoPart (dPart (dApp vNeg (dCons (dC (.int 1)) dNil))))) (gTupA 2 (gCons' (gSet 3) (gCons' (gSet 4) gNil'))) (sAsg (dApp (vApart m_stepped) (dCons (dApp (vFld aC_Voice "own_parts") (dCons (dVar 0) dNil)) (dCons (dVar 1) (dCons (dVar 4) (dCons (dApp vEqA (dCons (dVar 3) (dCons (dC (.int 0)) dNil))) dNil))))) (gSet 1))) (sRet (dVar 1)))
def m_Voice_led_in : VF := fnBody 3 5 b_Voice_led_in
def b_Voice_first : DS := (sRet (dMeth aC_Voice "led_in" m_Voice_led_in (dVar 0) (dCons (dApp vTup (dCons (dC (.tup [.int 0, .str ""])) dNil)) (dCons (dVar 1) dNil))))
def m_Voice_first : VF := fnBody 2 2 b_Voice_first
def b_Tongue_joint : DS := (sSeq (sExpr (dMeth aC_Tongue "check_word" m_Tongue_check_word (dVar 0) (dCons (dVar 1) dNil))) (sSeq (sExpr (dMeth aC_Tongue "check_word" m_Tongue_check_word (dVar 0) (dCons (dVar 2) dNil))) (sRet (dM isDctP vDGet (dApp (vFld aC_Tongue "own_joints") (dCons (dVar 0) dNil)) (dCons (dApp vTup (dCons (dApp vIx (dCons (dApp vIx (dCons (dApp (vFld aC_Tongue "own_words") (dCons (dVar 0) dNil)) (dCons (dVar 1) dNil))) (dCons (dApp vNeg (dCons (dC (.int 1)) dNil)) dNil))) (dCons (dApp vIx (dCons (dApp vIx (dCons (dApp (vFld aC_Tongue "own_words") (dCons (dVar 0) dNil)) (dCons (dVar 2) dNil))) (dCons (dC (.int 0)) dNil))) dNil))) (dCons (dC (.str "")) dNil))))))
def m_Tongue_joint : VF := fnBody 3 3 b_Tongue_joint
def b_Voice_last_step : DS := (sRet (dApp (vApart m_stepped) (dCons (dApp (vFld aC_Voice "own_parts") (dCons (dVar 0) dNil)) (dCons (dVar 1) (dCons (dVar 3) (dCons (dApp vEqA (dCons (dApp vLen (dCons (dApp vIx (dCons (dApp (vFld aC_Voice "own_said") (dCons (dVar 0) dNil)) (dCons (dVar 2) dNil))) dNil)) (dCons (dC (.int 1)) dNil))) dNil))))))
def m_Voice_last_step : VF := fnBody 4 4 b_Voice_last_step
def b_Voice_led : DS := (sSeq (sAsg (dMeth aC_Tongue "joint" m_Tongue_joint (dApp (vFld aC_Voice "own_tongue") (dCons (dVar 0) dNil)) (dCons (dVar 2) (dCons (dVar 3) dNil))) (gSet 4)) (sSeq (sIf (dTest (dApp vEqA (dCons (dVar 4) (dCons (dC (.str "drop")) dNil)))) (sRet (dMeth aC_Voice "led_in" m_Voice_led_in (dVar 0) (dCons (dVar 1) (dCons (dVar 3) dNil)))) sNil) (sSeq (sAsg (dMeth aC_Voice "last_step" m_Voice_last_step (dVar 0) (dCons (dVar 1) (dCons (dVar 2) (dCons (dIf (dTest (dApp vEqA (dCons (dVar 4) (dCons (dC (.str "long")) dNil)))) (dC (.str "-")) (dApp vIx (dCons (dApp vIx (dCons (dApp (vFld aC_Voice "own_said") (dCons (dVar 0) dNil)) (dCons (dVar 2) dNil))) (dCons (dApp vNeg (dCons (dC (.int 1)) dNil)) dNil)))) dNil)))) (gSet 5)) (sSeq (sIf (dTest (dApp vEqA (dCons (dVar 4) (dCons (dC (.str "may")) dNil)))) (sAsg (dApp vTupleA (dCons (dApp vSortSet (dCons (dApp vLst (dStar (dVar 5) (dStar (dVar 1) dNil))) dNil)) dNil)) (gSet 5)) sNil) (sRet (dMeth aC_Voice "led_in" m_Voice_led_in (dVar 0) (dCons (dVar 5) (dCons (dVar 3) dNil))))))))
def m_Voice_led : VF := fnBody 4 6 b_Voice_led
def b_Voice_standing : DS := (sSeq (sAsg (dMeth aC_Voice "first" m_Voice_first (dVar 0) (dCons (dApp vIx (dCons (dVar 1) (dCons (dC (.int 0)) dNil))) dNil)) (gSet 2)) (sSeq (sFor (dZip (dVar 1) (dCut (dVar 1) (dPart (dC (.int 1))) dNoPart)) (gTupA 2 (gCons' (gSet 3) (gCons' (gSet 4) gNil'))) (sAsg (dMeth aC_Voice "led" m_Voice_led (dVar 0) (dCons (dVar 2) (dCons (dVar 3) (dCons (dVar 4) dNil)))) (gSet 2))) (sRet (dVar 2))))
def m_Voice_standing : VF := fnBody 2 5 b_Voice_standing
def b_standing : DS := (sSeq (sExpr (dApp m_check_measure (dCons (dVar 0) (dCons (dVar 1) dNil)))) (sSeq (sExpr (dMeth aC_Tongue "parts" m_Tongue_parts (dVar 0) (dCons (dVar 2) dNil))) (sSeq (sExpr (dApp m_check_row (dCons (dVar 0) (dCons (dVar 3) dNil)))) (sRet (dMeth aC_Voice "standing" m_Voice_standing (dApp (vMake aC_Voice m_VoiceD_initD) (dCons (dVar 0) (dCons (dVar 1) (dCons (dVar 2) dNil)))) (dCons (dVar 3) dNil))))))
def m_standing : VF := fnBody 4 4 b_standing
def b__law_right : DS := (sSeq (sAsg (dApp vAdd (dCons (dApp vAdd (dCons (dApp vAdd (dCons (dApp vAdd (dCons (dC (.str "word ")) (dCons (dVar 0) dNil))) (dCons (dC (.str " a u a\nword ")) dNil))) (dCons (dVar 1) dNil))) (dCons (dC (.str " b -u? b\njoint a b may")) dNil))) (gSet 2)) (sSeq (sAsg (dApp vAdd (dCons (dVar 2) (dCons (dC (.str "\nmetre m *-u/u - x\nmetre n -u | ! uu")) dNil))) (gSet 2)) (sSeq (sAsg (dApp (vMake aC_Tongue m_TongueD_initD) (dCons (dVar 2) dNil)) (gSet 3)) (sSeq (sAsg (dApp vLst (dCons (dApp vTup (dCons (dC (.str "-")) (dCons (dC (.str "m")) (dCons (dApp vTup (dCons (dVar 0) dNil)) (dCons (dApp vTup (dCons (dApp vTup (dCons (dC (.int 0)) (dCons (dC (.str "")) dNil))) dNil)) dNil))))) (dCons (dApp vTup (dCons (dC (.str "-")) (dCons (dC (.str "n")) (dCons (dApp vTup (dCons (dVar 1) dNil)) (dCons (dApp vTup (dCons (dApp vTup (dCons (dC (.int 1)) (dCons (dC (.str "")) dNil))) dNil)) dNil))))) (dCons (dApp vTup (dCons (dC (.str "-")) (dCons (dC (.str "n")) (dCons (dApp vTup (dCons (dVar 1) (dCons (dVar 1) dNil))) (dCons (dApp vTup dNil) dNil))))) dNil)))) (gSet 4)) (sSeq (sExpr (dM isLstP vAppend (dVar 4) (dCons (dApp vTup (dCons (dC (.str "-")) (dCons (dC (.str "m")) (dCons (dApp vTup (dCons (dVar 1) dNil)) (dCons (dApp vTup (dCons (dApp vTup (dCons (dC (.int 0)) (dCons (dC (.str "")) dNil))) (dCons (dApp vTup (dCons (dC (.int 3)) (dCons (dC (.str "")) dNil))) dNil))) dNil))))) dNil))) (sSeq (sExpr (dM isLstP vAppend (dVar 4) (dCons (dApp vTup (dCons (dC (.str "u")) (dCons (dC (.str "m")) (dCons (dApp vTup (dCons (dVar 0) (dCons (dVar 1) dNil))) (dCons (dApp vTup (dCons (dApp vTup (dCons (dC (.int 0)) (dCons (dC (.str "")) dNil))) (dCons (dApp vTup (dCons (dC (.int 3)) (dCons (dC (.str "")) dNil))) dNil))) dNil))))) dNil))) (sSeq (sExpr (dM isLstP vAppend (dVar 4) (dCons (dApp vTup (dCons (dC (.str "-")) (dCons (dC (.str "m")) (dCons (dApp vTup (dCons (dVar 1) (dCons (dVar 0) dNil))) (dCons (dApp vTup (dCons (dApp vTup (dCons (dC (.int 0)) (dCons (dC (.str "u")) dNil))) (dCons (dApp vTup (dCons (dC (.int 2)) (dCons (dC (.str "")) dNil))) dNil))) dNil))))) dNil))) (sSeq (sExpr (dM isLstP vAppend (dVar 4) (dCons (dApp vTup (dCons (dC (.str "u")) (dCons (dC (.str "m")) (dCons (dApp vTup (dCons (dVar 1) (dCons (dVar 0) dNil))) (dCons (dApp vTup (dCons (dApp vTup (dCons (dC (.int 0)) (dCons (dC (.str "")) dNil))) dNil)) dNil))))) dNil))) (sSeq (sExpr (dM isLstP vAppend (dVar 4) (dCons (dApp vTup (dCons (dC (.str "-")) (dCons (dC (.str "m")) (dCons (dApp vTup (dCons (dVar 0) (dCons (dVar 0) dNil))) (dCons (dApp vTup (dCons (dApp vTup (dCons (dC (.int 0)) (dCons (dC (.str "")) dNil))) dNil)) dNil))))) dNil))) (sSeq (sExpr (dM isLstP vAppend (dVar 4) (dCons (dApp vTup (dCons (dC (.str "u")) (dCons (dC (.str "n")) (dCons (dApp vTup (dCons (dVar 0) dNil)) (dCons (dApp vTup (dCons (dApp vTup (dCons (dC (.int 0)) (dCons (dC (.str "")) dNil))) dNil)) dNil))))) dNil))) (sSeq (sExpr (dM isLstP vAppend (dVar 4) (dCons (dApp vTup (dCons (dC (.str "u")) (dCons (dC (.str "n")) (dCons (dApp vTup (dCons (dVar 0) (dCons (dVar 0) dNil))) (dCons (dApp vTup dNil) dNil))))) dNil))) (sRet (dApp vAll (dCons (dLc (dItA (dVar 4)) (gTupA 4 (gCons' (gSet 5) (gCons' (gSet 6) (gCons' (gSet 7) (gCons' (gSet 8) gNil'))))) tYes' (dApp vEqA (dCons (dApp vRepr (dCons (dApp m_standing (dCons (dVar 3) (dCons (dVar 5) (dCons (dVar 6) (dCons (dVar 7) dNil))))) dNil)) (dCons (dApp vRepr (dCons (dVar 8) dNil)) dNil))) [5, 6, 7, 8]) dNil))))))))))))))
def m__law_right : VF := fnBody 2 9 b__law_right
def b_law : DS := (sSeq (sFor (dItA (dApp m__law_places (dCons (dVar 0) (dCons (dC (.int 3)) dNil)))) (gSet 1) (sSeq (sAsg (dApp m__law_names (dCons (dApp m__law_pot (dCons (dVar 0) (dCons (dVar 1) dNil))) (dCons (dC (.int 2)) dNil))) (gTupA 2 (gCons' (gSet 2) (gCons' (gSet 3) gNil')))) (sIf (dNot (dTru (dApp (vApart m__law_right) (dCons (dVar 2) (dCons (dVar 3) dNil))))) (sRet (dC (.bl false))) sNil))) (sRet (dC (.bl true))))
def m_law : VF := fnBody 1 4 b_law
noncomputable def bF__law_places : DS := (sRetF (dres (dLstRg1 (dApp vMax2 (dCons (dC (.int 1)) (dConsF (dApp vMin2 (dCons (dVarF 1) (dConsF (dApp vLen (dCons (dVarF 0) dNil)) dNil))) dNil))))))
noncomputable def mF__law_places : VF := fnBodyF 2 2 bF__law_places
theorem e__law_places : mF__law_places = m__law_places := by
  unfold mF__law_places m__law_places bF__law_places b__law_places
  simp only [sSeqF_eq, sForF_eq, sAsgF_eq, sRetF_eq, dLc2F_eq, dLcF_eq, dVarF_eq, fnBodyF_eq, vApartF_eq, gItemF_eq, sFldSetF_eq, vEqF_eq, vNeF_eq, vInF_eq, vNotInF_eq, vIxF_eq, vDGetF_eq, vReprF_eq, fres_eq, fmut_eq, dres_eq, dConsF_eq, vFldF_eq, dMethF_eq, dItAF_eq, dEnumF_eq, dZipF_eq, dValsF_eq, dItemsF_eq, vMakeF_eq, vSplitF_eq]
  try kernel_rfl
noncomputable def bF__law_take : DS := (sSeqF (sIf (dTest (dApp vGt (dConsF (dApp (fres vIxF) (dCons (dVarF 0) (dCons (dC (.int 0)) dNil))) (dCons (dC (.int 0)) dNil)))) (sSeqF (sAsgF (dApp (fres vMod) (dConsF (dApp vInt (dConsF (dApp (fres vIxF) (dCons (dVarF 0) (dCons (dC (.int 0)) dNil))) dNil)) (dCons (dVarF 1) dNil))) (gSet 2)) (sSeqF (sAsgF (dApp (fres vDiv) (dConsF (dApp (fres vIxF) (dCons (dVarF 0) (dCons (dC (.int 0)) dNil))) (dCons (dVarF 1) dNil))) (gItemF (dVarF 0) (dC (.int 0)))) (sRetF (dVarF 2)))) sNil) (sSeqF (sAsgF (dApp (fres vAdd) (dConsF (dApp (fres vIxF) (dCons (dVarF 0) (dCons (dC (.int 2)) dNil))) (dCons (dC (.int 1)) dNil))) (gItemF (dVarF 0) (dC (.int 2)))) (sSeqF (sAsgF (dApp (fres vIxF) (dConsF (dApp (fres vLst) (dCons (dC (.int 2147483647)) (dCons (dC (.int 2147483629)) (dCons (dC (.int 2147483587)) (dCons (dC (.int 2147483579)) (dCons (dC (.int 2147483563)) dNil)))))) (dConsF (dApp (fres vMod) (dConsF (dApp vInt (dConsF (dApp (fres vIxF) (dCons (dVarF 0) (dCons (dC (.int 2)) dNil))) dNil)) (dCons (dC (.int 5)) dNil))) dNil))) (gSet 3)) (sSeqF (sAsgF (dApp (fres vMod) (dConsF (dApp vInt (dConsF (dApp (fres vPow) (dConsF (dApp vInt (dConsF (dApp (fres vAdd) (dConsF (dApp (fres vAdd) (dConsF (dApp (fres vIxF) (dCons (dVarF 0) (dCons (dC (.int 1)) dNil))) (dConsF (dApp (fres vMulA) (dConsF (dApp (fres vMulA) (dCons (dC (.int 95195)) (dConsF (dApp (fres vIxF) (dCons (dVarF 0) (dCons (dC (.int 2)) dNil))) dNil))) (dConsF (dApp (fres vIxF) (dCons (dVarF 0) (dCons (dC (.int 2)) dNil))) dNil))) dNil))) (dCons (dC (.int 111)) dNil))) dNil)) (dCons (dC (.int 3)) dNil))) dNil)) (dCons (dVarF 3) dNil))) (gSet 4)) (sRetF (dApp (fres vMod) (dConsF (dApp vInt (dConsF (dApp (fres vDiv) (dConsF (dApp (fres vMulA) (dCons (dVarF 4) (dConsF (dApp (fres vAdd) (dConsF (dApp (fres vMod) (dConsF (dApp vInt (dCons (dVarF 4) dNil)) (dCons (dC (.int 10039)) dNil))) (dConsF (dApp (fres vMulA) (dCons (dC (.int 91)) (dConsF (dApp (fres vIxF) (dCons (dVarF 0) (dCons (dC (.int 2)) dNil))) dNil))) dNil))) dNil))) (dCons (dC (.int 131)) dNil))) dNil)) (dCons (dVarF 1) dNil))))))))
noncomputable def mF__law_take : VF := fnBodyF 2 5 bF__law_take
theorem e__law_take : mF__law_take = m__law_take := by
  unfold mF__law_take m__law_take bF__law_take b__law_take
  simp only [sSeqF_eq, sForF_eq, sAsgF_eq, sRetF_eq, dLc2F_eq, dLcF_eq, dVarF_eq, fnBodyF_eq, vApartF_eq, gItemF_eq, sFldSetF_eq, vEqF_eq, vNeF_eq, vInF_eq, vNotInF_eq, vIxF_eq, vDGetF_eq, vReprF_eq, fres_eq, fmut_eq, dres_eq, dConsF_eq, vFldF_eq, dMethF_eq, dItAF_eq, dEnumF_eq, dZipF_eq, dValsF_eq, dItemsF_eq, vMakeF_eq, vSplitF_eq]
  try kernel_rfl
noncomputable def bF__law_some : DS := (sSeqF (sPar 3 4 (dConsF (dApp (fres vListB) (dCons (dVarF 1) dNil)) (dConsF (dApp (fres vLst) dNil) dNil))) (sSeqF (sForF (dRg1 (dVarF 2)) (gSet 5) (sExpr (dM isLstP (fmut vAppend) (dVarF 4) (dConsF (dM isLstP (fmut vPop) (dVarF 3) (dConsF (dApp mF__law_take (dCons (dVarF 0) (dConsF (dApp vLen (dCons (dVarF 3) dNil)) dNil))) dNil)) dNil)))) (sRetF (dVarF 4))))
noncomputable def mF__law_some : VF := fnBodyF 3 6 bF__law_some
theorem e__law_some : mF__law_some = m__law_some := by
  unfold mF__law_some m__law_some bF__law_some b__law_some
  simp only [sSeqF_eq, sForF_eq, sAsgF_eq, sRetF_eq, dLc2F_eq, dLcF_eq, dVarF_eq, fnBodyF_eq, vApartF_eq, gItemF_eq, sFldSetF_eq, vEqF_eq, vNeF_eq, vInF_eq, vNotInF_eq, vIxF_eq, vDGetF_eq, vReprF_eq, fres_eq, fmut_eq, dres_eq, dConsF_eq, vFldF_eq, dMethF_eq, dItAF_eq, dEnumF_eq, dZipF_eq, dValsF_eq, dItemsF_eq, vMakeF_eq, vSplitF_eq, e__law_take]
  try kernel_rfl
noncomputable def bF__law_names : DS := (sSeqF (sAsgF (dApp (fres vLst) (dCons (dC (.str ⟨⟨[97, 109]⟩⟩)) (dCons (dC (.str ⟨⟨[107, 111]⟩⟩)) (dCons (dC (.str ⟨⟨[116, 97]⟩⟩)) (dCons (dC (.str ⟨⟨[119, 111, 114, 100]⟩⟩)) (dCons (dC (.str ⟨⟨[106, 111, 105, 110, 116]⟩⟩)) (dCons (dC (.str ⟨⟨[109, 101, 116, 114, 101]⟩⟩)) (dCons (dC (.str ⟨⟨[110, 111, 116, 101, 115]⟩⟩)) (dCons (dC (.str ⟨⟨[103, 111, 101, 115]⟩⟩)) (dCons (dC (.str ⟨⟨[102, 105, 110, 100]⟩⟩)) (dCons (dC (.str ⟨⟨[100, 114, 111, 112]⟩⟩)) (dCons (dC (.str ⟨⟨[108, 111, 110, 103]⟩⟩)) (dCons (dC (.str ⟨⟨[122, 122, 122, 122, 122, 122, 122, 122]⟩⟩)) (dCons (dC (.str ⟨⟨[120]⟩⟩)) (dCons (dC (.str ⟨⟨[117]⟩⟩)) dNil))))))))))))))) (gSet 2)) (sRetF (dApp mF__law_some (dCons (dVarF 0) (dCons (dVarF 2) (dCons (dVarF 1) dNil))))))
noncomputable def mF__law_names : VF := fnBodyF 2 3 bF__law_names
theorem e__law_names : mF__law_names = m__law_names := by
  unfold mF__law_names m__law_names bF__law_names b__law_names
  simp only [sSeqF_eq, sForF_eq, sAsgF_eq, sRetF_eq, dLc2F_eq, dLcF_eq, dVarF_eq, fnBodyF_eq, vApartF_eq, gItemF_eq, sFldSetF_eq, vEqF_eq, vNeF_eq, vInF_eq, vNotInF_eq, vIxF_eq, vDGetF_eq, vReprF_eq, fres_eq, fmut_eq, dres_eq, dConsF_eq, vFldF_eq, dMethF_eq, dItAF_eq, dEnumF_eq, dZipF_eq, dValsF_eq, dItemsF_eq, vMakeF_eq, vSplitF_eq, e__law_some]
  try kernel_rfl
noncomputable def bF__law_pot : DS := (sSeqF (sAsgF (dIf (dTest (dApp vLt (dCons (dVarF 1) (dConsF (dApp vLen (dCons (dVarF 0) dNil)) dNil)))) (dApp (fres vIxF) (dCons (dVarF 0) (dCons (dVarF 1) dNil))) (dApp (fres vAdd) (dConsF (dApp (fres vMulA) (dCons (dC (.int 125)) (dCons (dVarF 1) dNil))) (dCons (dC (.int 85)) dNil)))) (gSet 2)) (sSeqF (sAsgF (dApp (fres vMulA) (dConsF (dApp (fres vMod) (dConsF (dApp vInt (dConsF (dApp vAbs (dCons (dVarF 2) dNil)) dNil)) (dConsF (dApp (fres vPow) (dConsF (dApp (fres vPow) (dCons (dC (.int 10)) (dCons (dC (.int 60)) dNil))) (dCons (dC (.int 5)) dNil))) dNil))) (dConsF (dApp vInt (dConsF (dApp vGe (dConsF (dApp vAbs (dCons (dVarF 2) dNil)) (dConsF (dApp (fres vPow) (dCons (dC (.int 10)) (dCons (dC (.int 18)) dNil))) dNil))) dNil)) dNil))) (gSet 3)) (sSeqF (sAsgF (dApp (fres vMod) (dConsF (dApp vInt (dCons (dVarF 2) dNil)) (dCons (dC (.int 2305843009213693951)) dNil))) (gSet 4)) (sRetF (dApp (fres vLst) (dCons (dVarF 3) (dConsF (dApp (fres vMod) (dConsF (dApp vInt (dConsF (dApp (fres vAdd) (dConsF (dApp (fres vAdd) (dConsF (dApp (fres vMulA) (dCons (dVarF 4) (dCons (dC (.int 80313)) dNil))) (dConsF (dApp (fres vMulA) (dConsF (dApp (fres vMulA) (dCons (dC (.int 8329)) (dCons (dVarF 1) dNil))) (dCons (dVarF 1) dNil))) dNil))) (dCons (dC (.int 113)) dNil))) dNil)) (dCons (dC (.int 2305843009213693921)) dNil))) (dCons (dC (.int 0)) dNil))))))))
noncomputable def mF__law_pot : VF := fnBodyF 2 5 bF__law_pot
theorem e__law_pot : mF__law_pot = m__law_pot := by
  unfold mF__law_pot m__law_pot bF__law_pot b__law_pot
  simp only [sSeqF_eq, sForF_eq, sAsgF_eq, sRetF_eq, dLc2F_eq, dLcF_eq, dVarF_eq, fnBodyF_eq, vApartF_eq, gItemF_eq, sFldSetF_eq, vEqF_eq, vNeF_eq, vInF_eq, vNotInF_eq, vIxF_eq, vDGetF_eq, vReprF_eq, fres_eq, fmut_eq, dres_eq, dConsF_eq, vFldF_eq, dMethF_eq, dItAF_eq, dEnumF_eq, dZipF_eq, dValsF_eq, dItemsF_eq, vMakeF_eq, vSplitF_eq]
  try kernel_rfl
noncomputable def bF_ReadingD_initD : DS := (sSeqF (sFldSetF aC_Reading ⟨⟨[110, 97, 109, 101, 100, 95, 119, 111, 114, 100, 115]⟩⟩ (dVarF 0) (dres dNewD)) (sSeqF (sFldSetF aC_Reading ⟨⟨[110, 97, 109, 101, 100, 95, 106, 111, 105, 110, 116, 115]⟩⟩ (dVarF 0) (dres dNewD)) (sFldSetF aC_Reading ⟨⟨[110, 97, 109, 101, 100, 95, 109, 101, 116, 114, 101, 115]⟩⟩ (dVarF 0) (dres dNewD))))
noncomputable def mF_ReadingD_initD : VF := fnBodyF 1 1 bF_ReadingD_initD
theorem e_ReadingD_initD : mF_ReadingD_initD = m_ReadingD_initD := by
  unfold mF_ReadingD_initD m_ReadingD_initD bF_ReadingD_initD b_ReadingD_initD
  simp only [sSeqF_eq, sForF_eq, sAsgF_eq, sRetF_eq, dLc2F_eq, dLcF_eq, dVarF_eq, fnBodyF_eq, vApartF_eq, gItemF_eq, sFldSetF_eq, vEqF_eq, vNeF_eq, vInF_eq, vNotInF_eq, vIxF_eq, vDGetF_eq, vReprF_eq, fres_eq, fmut_eq, dres_eq, dConsF_eq, vFldF_eq, dMethF_eq, dItAF_eq, dEnumF_eq, dZipF_eq, dValsF_eq, dItemsF_eq, vMakeF_eq, vSplitF_eq]
  try kernel_rfl
noncomputable def bF_is_made_of : DS := (sRetF (dAndV (dApp vNeF (dCons (dVarF 0) (dCons (dC (.str ⟨⟨[]⟩⟩)) dNil))) (dApp vAll (dConsF (dLcF (dItAF (dVarF 0)) (gSet 2) tYes' (dApp vInF (dCons (dVarF 2) (dCons (dVarF 1) dNil))) [2]) dNil))))
noncomputable def mF_is_made_of : VF := fnBodyF 2 3 bF_is_made_of
theorem e_is_made_of : mF_is_made_of = m_is_made_of := by
  unfold mF_is_made_of m_is_made_of bF_is_made_of b_is_made_of
  simp only [sSeqF_eq, sForF_eq, sAsgF_eq, sRetF_eq, dLc2F_eq, dLcF_eq, dVarF_eq, fnBodyF_eq, vApartF_eq, gItemF_eq, sFldSetF_eq, vEqF_eq, vNeF_eq, vInF_eq, vNotInF_eq, vIxF_eq, vDGetF_eq, vReprF_eq, fres_eq, fmut_eq, dres_eq, dConsF_eq, vFldF_eq, dMethF_eq, dItAF_eq, dEnumF_eq, dZipF_eq, dValsF_eq, dItemsF_eq, vMakeF_eq, vSplitF_eq]
  try kernel_rfl
noncomputable def bF_is_name : DS := (sRetF (dAndV (dApp vLe (dConsF (dApp vLen (dCons (dVarF 0) dNil)) (dCons (dC (.int 8)) dNil))) (dApp (vApartF mF_is_made_of) (dCons (dVarF 0) (dCons (dC (.str ⟨⟨[97, 98, 99, 100, 101, 102, 103, 104, 105, 106, 107, 108, 109, 110, 111, 112, 113, 114, 115, 116, 117, 118, 119, 120, 121, 122]⟩⟩)) dNil)))))
noncomputable def mF_is_name : VF := fnBodyF 1 1 bF_is_name
theorem e_is_name : mF_is_name = m_is_name := by
  unfold mF_is_name m_is_name bF_is_name b_is_name
  simp only [sSeqF_eq, sForF_eq, sAsgF_eq, sRetF_eq, dLc2F_eq, dLcF_eq, dVarF_eq, fnBodyF_eq, vApartF_eq, gItemF_eq, sFldSetF_eq, vEqF_eq, vNeF_eq, vInF_eq, vNotInF_eq, vIxF_eq, vDGetF_eq, vReprF_eq, fres_eq, fmut_eq, dres_eq, dConsF_eq, vFldF_eq, dMethF_eq, dItAF_eq, dEnumF_eq, dZipF_eq, dValsF_eq, dItemsF_eq, vMakeF_eq, vSplitF_eq, e_is_made_of]
  try kernel_rfl
noncomputable def bF_Reading_take_word : DS := (sSeqF (sAsgF (dOrV (dApp vNeF (dConsF (dApp (vFldF aC_Reading ⟨⟨[110, 97, 109, 101, 100, 95, 106, 111, 105, 110, 116, 115]⟩⟩) (dCons (dVarF 0) dNil)) (dConsF (dres dNewD) dNil))) (dApp vNeF (dConsF (dApp (vFldF aC_Reading ⟨⟨[110, 97, 109, 101, 100, 95, 109, 101, 116, 114, 101, 115]⟩⟩) (dCons (dVarF 0) dNil)) (dConsF (dres dNewD) dNil)))) (gSet 2)) (sSeqF (sIf (dOr (dTest (dApp vNeF (dConsF (dApp vLen (dCons (dVarF 1) dNil)) (dCons (dC (.int 5)) dNil)))) (dOr (dTest (dApp vEqF (dConsF (dApp vLen (dConsF (dApp (vFldF aC_Reading ⟨⟨[110, 97, 109, 101, 100, 95, 119, 111, 114, 100, 115]⟩⟩) (dCons (dVarF 0) dNil)) dNil)) (dCons (dC (.int 6)) dNil)))) (dTru (dVarF 2)))) (sRetF (dC (.bl false))) sNil) (sSeqF (sAsgF (dres (dCut (dVarF 1) (dPart (dC (.int 1))) dNoPart)) (gTupA 4 (gCons' (gSet 3) (gCons' (gSet 4) (gCons' (gSet 5) (gCons' (gSet 6) gNil')))))) (sSeqF (sIf (dOr (dNot (dTru (dApp (vApartF mF_is_name) (dCons (dVarF 3) dNil)))) (dOr (dTest (dApp vInF (dCons (dVarF 3) (dConsF (dApp (vFldF aC_Reading ⟨⟨[110, 97, 109, 101, 100, 95, 119, 111, 114, 100, 115]⟩⟩) (dCons (dVarF 0) dNil)) dNil)))) (dOr (dTest (dApp vNotInF (dCons (dVarF 4) (dConsF (dApp (fres vTupleA) (dCons (dC (.str ⟨⟨[97, 98, 99, 100, 101, 102, 103, 104, 105, 106, 107, 108, 109, 110, 111, 112, 113, 114, 115, 116, 117, 118, 119, 120, 121, 122]⟩⟩)) dNil)) dNil)))) (dTest (dApp vNotInF (dCons (dVarF 6) (dConsF (dApp (fres vTupleA) (dCons (dC (.str ⟨⟨[97, 98, 99, 100, 101, 102, 103, 104, 105, 106, 107, 108, 109, 110, 111, 112, 113, 114, 115, 116, 117, 118, 119, 120, 121, 122]⟩⟩)) dNil)) dNil))))))) (sRetF (dC (.bl false))) sNil) (sSeqF (sIf (dOr (dNot (dTru (dApp (vApartF mF_is_made_of) (dCons (dVarF 5) (dConsF (dApp vTup (dCons (dC (.str ⟨⟨[45]⟩⟩)) (dCons (dC (.str ⟨⟨[117]⟩⟩)) (dCons (dC (.str ⟨⟨[63]⟩⟩)) dNil)))) dNil))))) (dTest (dApp vGt (dConsF (dApp vLen (dCons (dVarF 5) dNil)) (dCons (dC (.int 4)) dNil))))) (sRetF (dC (.bl false))) sNil) (sSeqF (sAsgF (dApp vSum (dConsF (dLcF (dValsF (dApp (vFldF aC_Reading ⟨⟨[110, 97, 109, 101, 100, 95, 119, 111, 114, 100, 115]⟩⟩) (dCons (dVarF 0) dNil))) (gSet 8) tYes' (dM isStrP (fres vCount) (dApp (fres vIxF) (dCons (dVarF 8) (dCons (dC (.int 1)) dNil))) (dCons (dC (.str ⟨⟨[63]⟩⟩)) dNil)) [8]) dNil)) (gSet 7)) (sSeqF (sIf (dTest (dApp vGt (dConsF (dApp (fres vAdd) (dCons (dVarF 7) (dConsF (dM isStrP (fres vCount) (dVarF 5) (dCons (dC (.str ⟨⟨[63]⟩⟩)) dNil)) dNil))) (dCons (dC (.int 6)) dNil)))) (sRetF (dC (.bl false))) sNil) (sSeqF (sAsgF (dApp vTup (dCons (dVarF 4) (dCons (dVarF 5) (dCons (dVarF 6) dNil)))) (gItemF (dApp (vFldF aC_Reading ⟨⟨[110, 97, 109, 101, 100, 95, 119, 111, 114, 100, 115]⟩⟩) (dCons (dVarF 0) dNil)) (dVarF 3))) (sRetF (dC (.bl true)))))))))))
noncomputable def mF_Reading_take_word : VF := fnBodyF 2 9 bF_Reading_take_word
theorem e_Reading_take_word : mF_Reading_take_word = m_Reading_take_word := by
  unfold mF_Reading_take_word m_Reading_take_word bF_Reading_take_word b_Reading_take_word
  simp only [sSeqF_eq, sForF_eq, sAsgF_eq, sRetF_eq, dLc2F_eq, dLcF_eq, dVarF_eq, fnBodyF_eq, vApartF_eq, gItemF_eq, sFldSetF_eq, vEqF_eq, vNeF_eq, vInF_eq, vNotInF_eq, vIxF_eq, vDGetF_eq, vReprF_eq, fres_eq, fmut_eq, dres_eq, dConsF_eq, vFldF_eq, dMethF_eq, dItAF_eq, dEnumF_eq, dZipF_eq, dValsF_eq, dItemsF_eq, vMakeF_eq, vSplitF_eq, e_is_made_of, e_is_name]
  try kernel_rfl
noncomputable def bF_Reading_take_joint : DS := (sSeqF (sAsgF (dOrV (dApp vEqF (dConsF (dApp (vFldF aC_Reading ⟨⟨[110, 97, 109, 101, 100, 95, 119, 111, 114, 100, 115]⟩⟩) (dCons (dVarF 0) dNil)) (dConsF (dres dNewD) dNil))) (dApp vNeF (dConsF (dApp (vFldF aC_Reading ⟨⟨[110, 97, 109, 101, 100, 95, 109, 101, 116, 114, 101, 115]⟩⟩) (dCons (dVarF 0) dNil)) (dConsF (dres dNewD) dNil)))) (gSet 2)) (sSeqF (sIf (dOr (dTest (dApp vNeF (dConsF (dApp vLen (dCons (dVarF 1) dNil)) (dCons (dC (.int 4)) dNil)))) (dOr (dTest (dApp vEqF (dConsF (dApp vLen (dConsF (dApp (vFldF aC_Reading ⟨⟨[110, 97, 109, 101, 100, 95, 106, 111, 105, 110, 116, 115]⟩⟩) (dCons (dVarF 0) dNil)) dNil)) (dCons (dC (.int 9)) dNil)))) (dTru (dVarF 2)))) (sRetF (dC (.bl false))) sNil) (sSeqF (sAsgF (dres (dCut (dVarF 1) (dPart (dC (.int 1))) dNoPart)) (gTupA 3 (gCons' (gSet 3) (gCons' (gSet 4) (gCons' (gSet 5) gNil'))))) (sSeqF (sIf (dOr (dTest (dApp vNotInF (dCons (dVarF 3) (dConsF (dApp (fres vTupleA) (dCons (dC (.str ⟨⟨[97, 98, 99, 100, 101, 102, 103, 104, 105, 106, 107, 108, 109, 110, 111, 112, 113, 114, 115, 116, 117, 118, 119, 120, 121, 122]⟩⟩)) dNil)) dNil)))) (dOr (dTest (dApp vNotInF (dCons (dVarF 4) (dConsF (dApp (fres vTupleA) (dCons (dC (.str ⟨⟨[97, 98, 99, 100, 101, 102, 103, 104, 105, 106, 107, 108, 109, 110, 111, 112, 113, 114, 115, 116, 117, 118, 119, 120, 121, 122]⟩⟩)) dNil)) dNil)))) (dTest (dApp vNotInF (dCons (dVarF 5) (dConsF (dApp vTup (dCons (dC (.str ⟨⟨[100, 114, 111, 112]⟩⟩)) (dCons (dC (.str ⟨⟨[109, 97, 121]⟩⟩)) (dCons (dC (.str ⟨⟨[108, 111, 110, 103]⟩⟩)) dNil)))) dNil)))))) (sRetF (dC (.bl false))) sNil) (sSeqF (sIf (dTest (dApp vInF (dConsF (dApp vTup (dCons (dVarF 3) (dCons (dVarF 4) dNil))) (dConsF (dApp (vFldF aC_Reading ⟨⟨[110, 97, 109, 101, 100, 95, 106, 111, 105, 110, 116, 115]⟩⟩) (dCons (dVarF 0) dNil)) dNil)))) (sRetF (dC (.bl false))) sNil) (sSeqF (sAsgF (dVarF 5) (gItemF (dApp (vFldF aC_Reading ⟨⟨[110, 97, 109, 101, 100, 95, 106, 111, 105, 110, 116, 115]⟩⟩) (dCons (dVarF 0) dNil)) (dApp vTup (dCons (dVarF 3) (dCons (dVarF 4) dNil))))) (sRetF (dC (.bl true)))))))))
noncomputable def mF_Reading_take_joint : VF := fnBodyF 2 6 bF_Reading_take_joint
theorem e_Reading_take_joint : mF_Reading_take_joint = m_Reading_take_joint := by
  unfold mF_Reading_take_joint m_Reading_take_joint bF_Reading_take_joint b_Reading_take_joint
  simp only [sSeqF_eq, sForF_eq, sAsgF_eq, sRetF_eq, dLc2F_eq, dLcF_eq, dVarF_eq, fnBodyF_eq, vApartF_eq, gItemF_eq, sFldSetF_eq, vEqF_eq, vNeF_eq, vInF_eq, vNotInF_eq, vIxF_eq, vDGetF_eq, vReprF_eq, fres_eq, fmut_eq, dres_eq, dConsF_eq, vFldF_eq, dMethF_eq, dItAF_eq, dEnumF_eq, dZipF_eq, dValsF_eq, dItemsF_eq, vMakeF_eq, vSplitF_eq]
  try kernel_rfl
noncomputable def bF_forms_in : DS := (sSeqF (sAsgF (dM isStrP (fres vSplitF) (dVarF 0) (dCons (dC (.str ⟨⟨[47]⟩⟩)) dNil)) (gSet 1)) (sSeqF (sIf (dOr (dTest (dApp vGt (dConsF (dApp vLen (dCons (dVarF 1) dNil)) (dCons (dC (.int 3)) dNil)))) (dTest (dApp vLt (dConsF (dApp vLenSet (dCons (dVarF 1) dNil)) (dConsF (dApp vLen (dCons (dVarF 1) dNil)) dNil))))) (sRetF (dC .non)) sNil) (sSeqF (sForF (dItAF (dVarF 1)) (gSet 2) (sIf (dOr (dTest (dApp vGt (dConsF (dApp vLen (dCons (dVarF 2) dNil)) (dCons (dC (.int 4)) dNil)))) (dNot (dTru (dApp (vApartF mF_is_made_of) (dCons (dVarF 2) (dConsF (dApp vTup (dCons (dC (.str ⟨⟨[45]⟩⟩)) (dCons (dC (.str ⟨⟨[117]⟩⟩)) (dCons (dC (.str ⟨⟨[120]⟩⟩)) dNil)))) dNil)))))) (sRetF (dC .non)) sNil)) (sRetF (dApp (fres vTupleA) (dCons (dVarF 1) dNil))))))
noncomputable def mF_forms_in : VF := fnBodyF 1 3 bF_forms_in
theorem e_forms_in : mF_forms_in = m_forms_in := by
  unfold mF_forms_in m_forms_in bF_forms_in b_forms_in
  simp only [sSeqF_eq, sForF_eq, sAsgF_eq, sRetF_eq, dLc2F_eq, dLcF_eq, dVarF_eq, fnBodyF_eq, vApartF_eq, gItemF_eq, sFldSetF_eq, vEqF_eq, vNeF_eq, vInF_eq, vNotInF_eq, vIxF_eq, vDGetF_eq, vReprF_eq, fres_eq, fmut_eq, dres_eq, dConsF_eq, vFldF_eq, dMethF_eq, dItAF_eq, dEnumF_eq, dZipF_eq, dValsF_eq, dItemsF_eq, vMakeF_eq, vSplitF_eq, e_is_made_of]
  try kernel_rfl
noncomputable def bF_parts_in : DS := (sSeqF (sIf (dTest (dApp vInF (dCons (dVarF 0) (dConsF (dApp vTup (dCons (dC (.str ⟨⟨[124]⟩⟩)) (dCons (dC (.str ⟨⟨[33]⟩⟩)) dNil))) dNil)))) (sRetF (dApp vTup (dCons (dVarF 0) dNil))) sNil) (sSeqF (sPar 1 2 (dCons (dC (.int 1)) (dConsF (dApp vEqF (dConsF (dApp (fres vIxF) (dCons (dVarF 0) (dCons (dC (.int 0)) dNil))) (dCons (dC (.str ⟨⟨[42]⟩⟩)) dNil))) dNil))) (sSeqF (sIf (dTru (dVarF 2)) (sAsgF (dres (dCut (dVarF 0) (dPart (dC (.int 1))) dNoPart)) (gSet 0)) (sIf (dAnd (dTest (dApp vGt (dConsF (dApp vLen (dCons (dVarF 0) dNil)) (dCons (dC (.int 1)) dNil)))) (dAnd (dTest (dApp vEqF (dConsF (dApp (fres vIxF) (dCons (dVarF 0) (dCons (dC (.int 1)) dNil))) (dCons (dC (.str ⟨⟨[42]⟩⟩)) dNil)))) (dTest (dApp vInF (dConsF (dApp (fres vIxF) (dCons (dVarF 0) (dCons (dC (.int 0)) dNil))) (dConsF (dres (dCut (dC (.str ⟨⟨[48, 49, 50, 51, 52, 53, 54, 55, 56, 57]⟩⟩)) (dPart (dC (.int 2))) dNoPart)) dNil)))))) (sPar 1 0 (dConsF (dApp vInt (dConsF (dApp (fres vIxF) (dCons (dVarF 0) (dCons (dC (.int 0)) dNil))) dNil)) (dConsF (dres (dCut (dVarF 0) (dPart (dC (.int 2))) dNoPart)) dNil))) sNil)) (sSeqF (sAsgF (dApp (vApartF mF_forms_in) (dCons (dVarF 0) dNil)) (gSet 3)) (sRetF (dIf (dTest (dApp vIs (dCons (dVarF 3) (dCons (dC .non) dNil)))) (dC .non) (dApp (fres vMulA) (dConsF (dApp vTup (dConsF (dApp vTup (dCons (dVarF 2) (dCons (dVarF 3) dNil))) dNil)) (dCons (dVarF 1) dNil)))))))))
noncomputable def mF_parts_in : VF := fnBodyF 1 4 bF_parts_in
theorem e_parts_in : mF_parts_in = m_parts_in := by
  unfold mF_parts_in m_parts_in bF_parts_in b_parts_in
  simp only [sSeqF_eq, sForF_eq, sAsgF_eq, sRetF_eq, dLc2F_eq, dLcF_eq, dVarF_eq, fnBodyF_eq, vApartF_eq, gItemF_eq, sFldSetF_eq, vEqF_eq, vNeF_eq, vInF_eq, vNotInF_eq, vIxF_eq, vDGetF_eq, vReprF_eq, fres_eq, fmut_eq, dres_eq, dConsF_eq, vFldF_eq, dMethF_eq, dItAF_eq, dEnumF_eq, dZipF_eq, dValsF_eq, dItemsF_eq, vMakeF_eq, vSplitF_eq, e_forms_in]
  try kernel_rfl
noncomputable def bF_metre_parts : DS := (sSeqF (sIf (dNot (dTest (dChain vLe vLe (dC (.int 1)) (dApp vLen (dCons (dVarF 0) dNil)) (dC (.int 8))))) (sRetF (dC .non)) sNil) (sSeqF (sAsgF (dLcF (dItAF (dVarF 0)) (gSet 3) tYes' (dApp (vApartF mF_parts_in) (dCons (dVarF 3) dNil)) [3]) (gSet 1)) (sSeqF (sIf (dTest (dApp vInF (dCons (dC .non) (dCons (dVarF 1) dNil)))) (sRetF (dC .non)) sNil) (sSeqF (sAsgF (dApp (fres vTupleA) (dConsF (dLc2F (dItAF (dVarF 1)) (gSet 4) tYes' (dItAF (dVarF 4)) (gSet 5) tYes' (dVarF 5) [4, 5] [5]) dNil)) (gSet 2)) (sRetF (dIf (dTest (dApp vLe (dConsF (dApp vLen (dCons (dVarF 2) dNil)) (dCons (dC (.int 24)) dNil)))) (dVarF 2) (dC .non)))))))
noncomputable def mF_metre_parts : VF := fnBodyF 1 6 bF_metre_parts
theorem e_metre_parts : mF_metre_parts = m_metre_parts := by
  unfold mF_metre_parts m_metre_parts bF_metre_parts b_metre_parts
  simp only [sSeqF_eq, sForF_eq, sAsgF_eq, sRetF_eq, dLc2F_eq, dLcF_eq, dVarF_eq, fnBodyF_eq, vApartF_eq, gItemF_eq, sFldSetF_eq, vEqF_eq, vNeF_eq, vInF_eq, vNotInF_eq, vIxF_eq, vDGetF_eq, vReprF_eq, fres_eq, fmut_eq, dres_eq, dConsF_eq, vFldF_eq, dMethF_eq, dItAF_eq, dEnumF_eq, dZipF_eq, dValsF_eq, dItemsF_eq, vMakeF_eq, vSplitF_eq, e_parts_in]
  try kernel_rfl
noncomputable def bF_Reading_take_metre : DS := (sSeqF (sIf (dOr (dTest (dApp vLt (dConsF (dApp vLen (dCons (dVarF 1) dNil)) (dCons (dC (.int 3)) dNil)))) (dOr (dTest (dApp vEqF (dConsF (dApp vLen (dConsF (dApp (vFldF aC_Reading ⟨⟨[110, 97, 109, 101, 100, 95, 109, 101, 116, 114, 101, 115]⟩⟩) (dCons (dVarF 0) dNil)) dNil)) (dCons (dC (.int 3)) dNil)))) (dTest (dApp vEqF (dConsF (dApp (vFldF aC_Reading ⟨⟨[110, 97, 109, 101, 100, 95, 119, 111, 114, 100, 115]⟩⟩) (dCons (dVarF 0) dNil)) (dConsF (dres dNewD) dNil)))))) (sRetF (dC (.bl false))) sNil) (sSeqF (sAsgF (dApp mF_metre_parts (dConsF (dres (dCut (dVarF 1) (dPart (dC (.int 2))) dNoPart)) dNil)) (gSet 2)) (sSeqF (sIf (dOr (dNot (dTru (dApp (vApartF mF_is_name) (dConsF (dApp (fres vIxF) (dCons (dVarF 1) (dCons (dC (.int 1)) dNil))) dNil)))) (dOr (dTest (dApp vInF (dConsF (dApp (fres vIxF) (dCons (dVarF 1) (dCons (dC (.int 1)) dNil))) (dConsF (dApp (vFldF aC_Reading ⟨⟨[110, 97, 109, 101, 100, 95, 109, 101, 116, 114, 101, 115]⟩⟩) (dCons (dVarF 0) dNil)) dNil)))) (dTest (dApp vIs (dCons (dVarF 2) (dCons (dC .non) dNil)))))) (sRetF (dC (.bl false))) sNil) (sSeqF (sAsgF (dVarF 2) (gItemF (dApp (vFldF aC_Reading ⟨⟨[110, 97, 109, 101, 100, 95, 109, 101, 116, 114, 101, 115]⟩⟩) (dCons (dVarF 0) dNil)) (dApp (fres vIxF) (dCons (dVarF 1) (dCons (dC (.int 1)) dNil))))) (sRetF (dC (.bl true)))))))
noncomputable def mF_Reading_take_metre : VF := fnBodyF 2 3 bF_Reading_take_metre
theorem e_Reading_take_metre : mF_Reading_take_metre = m_Reading_take_metre := by
  unfold mF_Reading_take_metre m_Reading_take_metre bF_Reading_take_metre b_Reading_take_metre
  simp only [sSeqF_eq, sForF_eq, sAsgF_eq, sRetF_eq, dLc2F_eq, dLcF_eq, dVarF_eq, fnBodyF_eq, vApartF_eq, gItemF_eq, sFldSetF_eq, vEqF_eq, vNeF_eq, vInF_eq, vNotInF_eq, vIxF_eq, vDGetF_eq, vReprF_eq, fres_eq, fmut_eq, dres_eq, dConsF_eq, vFldF_eq, dMethF_eq, dItAF_eq, dEnumF_eq, dZipF_eq, dValsF_eq, dItemsF_eq, vMakeF_eq, vSplitF_eq, e_is_name, e_metre_parts]
  try kernel_rfl
noncomputable def bF_Reading_take : DS := (sSeqF (sAsgF (dM isStrP (fres vSplitF) (dVarF 1) (dCons (dC (.str ⟨⟨[32]⟩⟩)) dNil)) (gSet 2)) (sSeqF (sIf (dTest (dApp vInF (dCons (dC (.str ⟨⟨[]⟩⟩)) (dCons (dVarF 2) dNil)))) (sRetF (dC (.bl false))) sNil) (sSeqF (sIf (dTest (dApp vEqF (dConsF (dApp (fres vIxF) (dCons (dVarF 2) (dCons (dC (.int 0)) dNil))) (dCons (dC (.str ⟨⟨[119, 111, 114, 100]⟩⟩)) dNil)))) (sRetF (dMethF aC_Reading ⟨⟨[116, 97, 107, 101, 95, 119, 111, 114, 100]⟩⟩ mF_Reading_take_word (dVarF 0) (dCons (dVarF 2) dNil))) sNil) (sSeqF (sIf (dTest (dApp vEqF (dConsF (dApp (fres vIxF) (dCons (dVarF 2) (dCons (dC (.int 0)) dNil))) (dCons (dC (.str ⟨⟨[106, 111, 105, 110, 116]⟩⟩)) dNil)))) (sRetF (dMethF aC_Reading ⟨⟨[116, 97, 107, 101, 95, 106, 111, 105, 110, 116]⟩⟩ mF_Reading_take_joint (dVarF 0) (dCons (dVarF 2) dNil))) sNil) (sRetF (dAndV (dApp vEqF (dConsF (dApp (fres vIxF) (dCons (dVarF 2) (dCons (dC (.int 0)) dNil))) (dCons (dC (.str ⟨⟨[109, 101, 116, 114, 101]⟩⟩)) dNil))) (dMethF aC_Reading ⟨⟨[116, 97, 107, 101, 95, 109, 101, 116, 114, 101]⟩⟩ mF_Reading_take_metre (dVarF 0) (dCons (dVarF 2) dNil))))))))
noncomputable def mF_Reading_take : VF := fnBodyF 2 3 bF_Reading_take
theorem e_Reading_take : mF_Reading_take = m_Reading_take := by
  unfold mF_Reading_take m_Reading_take bF_Reading_take b_Reading_take
  simp only [sSeqF_eq, sForF_eq, sAsgF_eq, sRetF_eq, dLc2F_eq, dLcF_eq, dVarF_eq, fnBodyF_eq, vApartF_eq, gItemF_eq, sFldSetF_eq, vEqF_eq, vNeF_eq, vInF_eq, vNotInF_eq, vIxF_eq, vDGetF_eq, vReprF_eq, fres_eq, fmut_eq, dres_eq, dConsF_eq, vFldF_eq, dMethF_eq, dItAF_eq, dEnumF_eq, dZipF_eq, dValsF_eq, dItemsF_eq, vMakeF_eq, vSplitF_eq, e_Reading_take_joint, e_Reading_take_metre, e_Reading_take_word]
  try kernel_rfl
noncomputable def bF_read_lines : DS := (sSeqF (sIf (dNot (dTru (dApp (vIsi (isiB .str [])) (dCons (dVarF 0) dNil)))) sBad sNil) (sSeqF (sPar 1 2 (dConsF (dM isStrP (fres vSplitF) (dVarF 0) (dCons (dC (.str ⟨⟨[10]⟩⟩)) dNil)) (dConsF (dApp (vMakeF aC_Reading mF_ReadingD_initD) dNil) dNil))) (sSeqF (sForF (dEnumF (dVarF 1)) (gTupA 2 (gCons' (gSet 3) (gCons' (gSet 4) gNil'))) (sIf (dNot (dTru (dMethF aC_Reading ⟨⟨[116, 97, 107, 101]⟩⟩ mF_Reading_take (dVarF 2) (dCons (dVarF 4) dNil)))) sBad sNil)) (sSeqF (sIf (dTest (dApp vEqF (dConsF (dApp (vFldF aC_Reading ⟨⟨[110, 97, 109, 101, 100, 95, 109, 101, 116, 114, 101, 115]⟩⟩) (dCons (dVarF 2) dNil)) (dConsF (dres dNewD) dNil)))) sBad sNil) (sRetF (dVarF 2))))))
noncomputable def mF_read_lines : VF := fnBodyF 1 5 bF_read_lines
theorem e_read_lines : mF_read_lines = m_read_lines := by
  unfold mF_read_lines m_read_lines bF_read_lines b_read_lines
  simp only [sSeqF_eq, sForF_eq, sAsgF_eq, sRetF_eq, dLc2F_eq, dLcF_eq, dVarF_eq, fnBodyF_eq, vApartF_eq, gItemF_eq, sFldSetF_eq, vEqF_eq, vNeF_eq, vInF_eq, vNotInF_eq, vIxF_eq, vDGetF_eq, vReprF_eq, fres_eq, fmut_eq, dres_eq, dConsF_eq, vFldF_eq, dMethF_eq, dItAF_eq, dEnumF_eq, dZipF_eq, dValsF_eq, dItemsF_eq, vMakeF_eq, vSplitF_eq, e_ReadingD_initD, e_Reading_take]
  try kernel_rfl
noncomputable def bF_TongueD_initD : DS := (sSeqF (sAsgF (dApp mF_read_lines (dCons (dVarF 1) dNil)) (gSet 2)) (sSeqF (sFldSetF aC_Tongue ⟨⟨[111, 119, 110, 95, 116, 101, 120, 116]⟩⟩ (dVarF 0) (dVarF 1)) (sSeqF (sFldSetF aC_Tongue ⟨⟨[111, 119, 110, 95, 119, 111, 114, 100, 115]⟩⟩ (dVarF 0) (dApp (vFldF aC_Reading ⟨⟨[110, 97, 109, 101, 100, 95, 119, 111, 114, 100, 115]⟩⟩) (dCons (dVarF 2) dNil))) (sSeqF (sFldSetF aC_Tongue ⟨⟨[111, 119, 110, 95, 110, 97, 109, 101, 115]⟩⟩ (dVarF 0) (dApp (fres vTupleA) (dConsF (dApp (fres vListB) (dConsF (dApp (vFldF aC_Reading ⟨⟨[110, 97, 109, 101, 100, 95, 119, 111, 114, 100, 115]⟩⟩) (dCons (dVarF 2) dNil)) dNil)) dNil))) (sSeqF (sFldSetF aC_Tongue ⟨⟨[111, 119, 110, 95, 106, 111, 105, 110, 116, 115]⟩⟩ (dVarF 0) (dApp (vFldF aC_Reading ⟨⟨[110, 97, 109, 101, 100, 95, 106, 111, 105, 110, 116, 115]⟩⟩) (dCons (dVarF 2) dNil))) (sSeqF (sFldSetF aC_Tongue ⟨⟨[111, 119, 110, 95, 109, 101, 116, 114, 101, 115]⟩⟩ (dVarF 0) (dApp (vFldF aC_Reading ⟨⟨[110, 97, 109, 101, 100, 95, 109, 101, 116, 114, 101, 115]⟩⟩) (dCons (dVarF 2) dNil))) (sSeqF (sAsgF (dApp (fres vLst) dNil) (gSet 3)) (sSeqF (sForF (dItemsF (dApp (vFldF aC_Reading ⟨⟨[110, 97, 109, 101, 100, 95, 119, 111, 114, 100, 115]⟩⟩) (dCons (dVarF 2) dNil))) (gTupA 2 (gCons' (gSet 4) (gCons' (gSet 5) gNil'))) (sExpr (dM isLstP (fmut vExtend) (dVarF 3) (dConsF (dLcF (dEnumF (dApp (fres vIxF) (dCons (dVarF 5) (dCons (dC (.int 1)) dNil)))) (gTupA 2 (gCons' (gSet 6) (gCons' (gSet 7) gNil'))) (dTest (dApp vEqF (dCons (dVarF 7) (dCons (dC (.str ⟨⟨[63]⟩⟩)) dNil)))) (dApp vTup (dCons (dVarF 4) (dCons (dVarF 6) dNil))) [6, 7]) dNil)))) (sFldSetF aC_Tongue ⟨⟨[111, 119, 110, 95, 117, 110, 107, 110, 111, 119, 110]⟩⟩ (dVarF 0) (dApp (fres vTupleA) (dCons (dVarF 3) dNil)))))))))))
noncomputable def mF_TongueD_initD : VF := fnBodyF 2 8 bF_TongueD_initD
theorem e_TongueD_initD : mF_TongueD_initD = m_TongueD_initD := by
  unfold mF_TongueD_initD m_TongueD_initD bF_TongueD_initD b_TongueD_initD
  simp only [sSeqF_eq, sForF_eq, sAsgF_eq, sRetF_eq, dLc2F_eq, dLcF_eq, dVarF_eq, fnBodyF_eq, vApartF_eq, gItemF_eq, sFldSetF_eq, vEqF_eq, vNeF_eq, vInF_eq, vNotInF_eq, vIxF_eq, vDGetF_eq, vReprF_eq, fres_eq, fmut_eq, dres_eq, dConsF_eq, vFldF_eq, dMethF_eq, dItAF_eq, dEnumF_eq, dZipF_eq, dValsF_eq, dItemsF_eq, vMakeF_eq, vSplitF_eq, e_read_lines]
  try kernel_rfl
noncomputable def bF_Tongue_unknown : DS := (sRetF (dApp (vFldF aC_Tongue ⟨⟨[111, 119, 110, 95, 117, 110, 107, 110, 111, 119, 110]⟩⟩) (dCons (dVarF 0) dNil)))
noncomputable def mF_Tongue_unknown : VF := fnBodyF 1 1 bF_Tongue_unknown
theorem e_Tongue_unknown : mF_Tongue_unknown = m_Tongue_unknown := by
  unfold mF_Tongue_unknown m_Tongue_unknown bF_Tongue_unknown b_Tongue_unknown
  simp only [sSeqF_eq, sForF_eq, sAsgF_eq, sRetF_eq, dLc2F_eq, dLcF_eq, dVarF_eq, fnBodyF_eq, vApartF_eq, gItemF_eq, sFldSetF_eq, vEqF_eq, vNeF_eq, vInF_eq, vNotInF_eq, vIxF_eq, vDGetF_eq, vReprF_eq, fres_eq, fmut_eq, dres_eq, dConsF_eq, vFldF_eq, dMethF_eq, dItAF_eq, dEnumF_eq, dZipF_eq, dValsF_eq, dItemsF_eq, vMakeF_eq, vSplitF_eq]
  try kernel_rfl
noncomputable def bF_is_measure : DS := (sSeqF (sIf (dOr (dNot (dTru (dApp (vIsi (isiB .str [])) (dCons (dVarF 1) dNil)))) (dTest (dApp vNeF (dConsF (dApp vLen (dCons (dVarF 1) dNil)) (dConsF (dApp vLen (dConsF (dApp (vProp aC_Tongue mF_Tongue_unknown) (dCons (dVarF 0) dNil)) dNil)) dNil))))) (sRetF (dC (.bl false))) sNil) (sRetF (dOrV (dApp vEqF (dCons (dVarF 1) (dCons (dC (.str ⟨⟨[]⟩⟩)) dNil))) (dApp (vApartF mF_is_made_of) (dCons (dVarF 1) (dConsF (dApp vTup (dCons (dC (.str ⟨⟨[45]⟩⟩)) (dCons (dC (.str ⟨⟨[117]⟩⟩)) dNil))) dNil))))))
noncomputable def mF_is_measure : VF := fnBodyF 2 2 bF_is_measure
theorem e_is_measure : mF_is_measure = m_is_measure := by
  unfold mF_is_measure m_is_measure bF_is_measure b_is_measure
  simp only [sSeqF_eq, sForF_eq, sAsgF_eq, sRetF_eq, dLc2F_eq, dLcF_eq, dVarF_eq, fnBodyF_eq, vApartF_eq, gItemF_eq, sFldSetF_eq, vEqF_eq, vNeF_eq, vInF_eq, vNotInF_eq, vIxF_eq, vDGetF_eq, vReprF_eq, fres_eq, fmut_eq, dres_eq, dConsF_eq, vFldF_eq, dMethF_eq, dItAF_eq, dEnumF_eq, dZipF_eq, dValsF_eq, dItemsF_eq, vMakeF_eq, vSplitF_eq, e_Tongue_unknown, e_is_made_of]
  try kernel_rfl
noncomputable def bF_check_measure : DS := (sIf (dNot (dTru (dApp mF_is_measure (dCons (dVarF 0) (dCons (dVarF 1) dNil))))) sBad sNil)
noncomputable def mF_check_measure : VF := fnBodyF 2 2 bF_check_measure
theorem e_check_measure : mF_check_measure = m_check_measure := by
  unfold mF_check_measure m_check_measure bF_check_measure b_check_measure
  simp only [sSeqF_eq, sForF_eq, sAsgF_eq, sRetF_eq, dLc2F_eq, dLcF_eq, dVarF_eq, fnBodyF_eq, vApartF_eq, gItemF_eq, sFldSetF_eq, vEqF_eq, vNeF_eq, vInF_eq, vNotInF_eq, vIxF_eq, vDGetF_eq, vReprF_eq, fres_eq, fmut_eq, dres_eq, dConsF_eq, vFldF_eq, dMethF_eq, dItAF_eq, dEnumF_eq, dZipF_eq, dValsF_eq, dItemsF_eq, vMakeF_eq, vSplitF_eq, e_is_measure]
  try kernel_rfl
noncomputable def bF_is_word : DS := (sRetF (dAndV (dApp (vIsi (isiB .str [])) (dCons (dVarF 0) dNil)) (dApp vInF (dCons (dVarF 0) (dCons (dVarF 1) dNil)))))
noncomputable def mF_is_word : VF := fnBodyF 2 2 bF_is_word
theorem e_is_word : mF_is_word = m_is_word := by
  unfold mF_is_word m_is_word bF_is_word b_is_word
  simp only [sSeqF_eq, sForF_eq, sAsgF_eq, sRetF_eq, dLc2F_eq, dLcF_eq, dVarF_eq, fnBodyF_eq, vApartF_eq, gItemF_eq, sFldSetF_eq, vEqF_eq, vNeF_eq, vInF_eq, vNotInF_eq, vIxF_eq, vDGetF_eq, vReprF_eq, fres_eq, fmut_eq, dres_eq, dConsF_eq, vFldF_eq, dMethF_eq, dItAF_eq, dEnumF_eq, dZipF_eq, dValsF_eq, dItemsF_eq, vMakeF_eq, vSplitF_eq]
  try kernel_rfl
noncomputable def bF_Tongue_parts : DS := (sSeqF (sIf (dNot (dTru (dApp mF_is_word (dCons (dVarF 1) (dConsF (dApp (vFldF aC_Tongue ⟨⟨[111, 119, 110, 95, 109, 101, 116, 114, 101, 115]⟩⟩) (dCons (dVarF 0) dNil)) dNil))))) sBad sNil) (sRetF (dApp (fres vIxF) (dConsF (dApp (vFldF aC_Tongue ⟨⟨[111, 119, 110, 95, 109, 101, 116, 114, 101, 115]⟩⟩) (dCons (dVarF 0) dNil)) (dCons (dVarF 1) dNil)))))
noncomputable def mF_Tongue_parts : VF := fnBodyF 2 2 bF_Tongue_parts
theorem e_Tongue_parts : mF_Tongue_parts = m_Tongue_parts := by
  unfold mF_Tongue_parts m_Tongue_parts bF_Tongue_parts b_Tongue_parts
  simp only [sSeqF_eq, sForF_eq, sAsgF_eq, sRetF_eq, dLc2F_eq, dLcF_eq, dVarF_eq, fnBodyF_eq, vApartF_eq, gItemF_eq, sFldSetF_eq, vEqF_eq, vNeF_eq, vInF_eq, vNotInF_eq, vIxF_eq, vDGetF_eq, vReprF_eq, fres_eq, fmut_eq, dres_eq, dConsF_eq, vFldF_eq, dMethF_eq, dItAF_eq, dEnumF_eq, dZipF_eq, dValsF_eq, dItemsF_eq, vMakeF_eq, vSplitF_eq, e_is_word]
  try kernel_rfl
noncomputable def bF_TongueD_containsD : DS := (sRetF (dApp mF_is_word (dCons (dVarF 1) (dConsF (dApp (vFldF aC_Tongue ⟨⟨[111, 119, 110, 95, 119, 111, 114, 100, 115]⟩⟩) (dCons (dVarF 0) dNil)) dNil))))
noncomputable def mF_TongueD_containsD : VF := fnBodyF 2 2 bF_TongueD_containsD
theorem e_TongueD_containsD : mF_TongueD_containsD = m_TongueD_containsD := by
  unfold mF_TongueD_containsD m_TongueD_containsD bF_TongueD_containsD b_TongueD_containsD
  simp only [sSeqF_eq, sForF_eq, sAsgF_eq, sRetF_eq, dLc2F_eq, dLcF_eq, dVarF_eq, fnBodyF_eq, vApartF_eq, gItemF_eq, sFldSetF_eq, vEqF_eq, vNeF_eq, vInF_eq, vNotInF_eq, vIxF_eq, vDGetF_eq, vReprF_eq, fres_eq, fmut_eq, dres_eq, dConsF_eq, vFldF_eq, dMethF_eq, dItAF_eq, dEnumF_eq, dZipF_eq, dValsF_eq, dItemsF_eq, vMakeF_eq, vSplitF_eq, e_is_word]
  try kernel_rfl
noncomputable def bF_is_row : DS := (sRetF (dAndV (dApp (vIsi (isiB .tup [])) (dCons (dVarF 1) dNil)) (dAndV (dChain vLe vLe (dC (.int 1)) (dApp vLen (dCons (dVarF 1) dNil)) (dC (.int 2000))) (dApp vAll (dConsF (dLcF (dItAF (dVarF 1)) (gSet 2) tYes' (dApp (vInO aC_Tongue mF_TongueD_containsD) (dCons (dVarF 2) (dCons (dVarF 0) dNil))) [2]) dNil)))))
noncomputable def mF_is_row : VF := fnBodyF 2 3 bF_is_row
theorem e_is_row : mF_is_row = m_is_row := by
  unfold mF_is_row m_is_row bF_is_row b_is_row
  simp only [sSeqF_eq, sForF_eq, sAsgF_eq, sRetF_eq, dLc2F_eq, dLcF_eq, dVarF_eq, fnBodyF_eq, vApartF_eq, gItemF_eq, sFldSetF_eq, vEqF_eq, vNeF_eq, vInF_eq, vNotInF_eq, vIxF_eq, vDGetF_eq, vReprF_eq, fres_eq, fmut_eq, dres_eq, dConsF_eq, vFldF_eq, dMethF_eq, dItAF_eq, dEnumF_eq, dZipF_eq, dValsF_eq, dItemsF_eq, vMakeF_eq, vSplitF_eq, e_TongueD_containsD]
  try kernel_rfl
noncomputable def bF_check_row : DS := (sIf (dNot (dTru (dApp mF_is_row (dCons (dVarF 0) (dCons (dVarF 1) dNil))))) sBad sNil)
noncomputable def mF_check_row : VF := fnBodyF 2 2 bF_check_row
theorem e_check_row : mF_check_row = m_check_row := by
  unfold mF_check_row m_check_row bF_check_row b_check_row
  simp only [sSeqF_eq, sForF_eq, sAsgF_eq, sRetF_eq, dLc2F_eq, dLcF_eq, dVarF_eq, fnBodyF_eq, vApartF_eq, gItemF_eq, sFldSetF_eq, vEqF_eq, vNeF_eq, vInF_eq, vNotInF_eq, vIxF_eq, vDGetF_eq, vReprF_eq, fres_eq, fmut_eq, dres_eq, dConsF_eq, vFldF_eq, dMethF_eq, dItAF_eq, dEnumF_eq, dZipF_eq, dValsF_eq, dItemsF_eq, vMakeF_eq, vSplitF_eq, e_is_row]
  try kernel_rfl
noncomputable def bF_Tongue_words : DS := (sRetF (dApp (vFldF aC_Tongue ⟨⟨[111, 119, 110, 95, 110, 97, 109, 101, 115]⟩⟩) (dCons (dVarF 0) dNil)))
noncomputable def mF_Tongue_words : VF := fnBodyF 1 1 bF_Tongue_words
theorem e_Tongue_words : mF_Tongue_words = m_Tongue_words := by
  unfold mF_Tongue_words m_Tongue_words bF_Tongue_words b_Tongue_words
  simp only [sSeqF_eq, sForF_eq, sAsgF_eq, sRetF_eq, dLc2F_eq, dLcF_eq, dVarF_eq, fnBodyF_eq, vApartF_eq, gItemF_eq, sFldSetF_eq, vEqF_eq, vNeF_eq, vInF_eq, vNotInF_eq, vIxF_eq, vDGetF_eq, vReprF_eq, fres_eq, fmut_eq, dres_eq, dConsF_eq, vFldF_eq, dMethF_eq, dItAF_eq, dEnumF_eq, dZipF_eq, dValsF_eq, dItemsF_eq, vMakeF_eq, vSplitF_eq]
  try kernel_rfl
noncomputable def bF_Tongue_check_word : DS := (sIf (dNot (dTru (dApp mF_is_word (dCons (dVarF 1) (dConsF (dApp (vFldF aC_Tongue ⟨⟨[111, 119, 110, 95, 119, 111, 114, 100, 115]⟩⟩) (dCons (dVarF 0) dNil)) dNil))))) sBad sNil)
noncomputable def mF_Tongue_check_word : VF := fnBodyF 2 2 bF_Tongue_check_word
theorem e_Tongue_check_word : mF_Tongue_check_word = m_Tongue_check_word := by
  unfold mF_Tongue_check_word m_Tongue_check_word bF_Tongue_check_word b_Tongue_check_word
  simp only [sSeqF_eq, sForF_eq, sAsgF_eq, sRetF_eq, dLc2F_eq, dLcF_eq, dVarF_eq, fnBodyF_eq, vApartF_eq, gItemF_eq, sFldSetF_eq, vEqF_eq, vNeF_eq, vInF_eq, vNotInF_eq, vIxF_eq, vDGetF_eq, vReprF_eq, fres_eq, fmut_eq, dres_eq, dConsF_eq, vFldF_eq, dMethF_eq, dItAF_eq, dEnumF_eq, dZipF_eq, dValsF_eq, dItemsF_eq, vMakeF_eq, vSplitF_eq, e_is_word]
  try kernel_rfl
noncomputable def bF_TongueD_getitemD : DS := (sSeqF (sExpr (dMethF aC_Tongue ⟨⟨[99, 104, 101, 99, 107, 95, 119, 111, 114, 100]⟩⟩ mF_Tongue_check_word (dVarF 0) (dCons (dVarF 1) dNil))) (sRetF (dApp (fres vIxF) (dConsF (dApp (vFldF aC_Tongue ⟨⟨[111, 119, 110, 95, 119, 111, 114, 100, 115]⟩⟩) (dCons (dVarF 0) dNil)) (dCons (dVarF 1) dNil)))))
noncomputable def mF_TongueD_getitemD : VF := fnBodyF 2 2 bF_TongueD_getitemD
theorem e_TongueD_getitemD : mF_TongueD_getitemD = m_TongueD_getitemD := by
  unfold mF_TongueD_getitemD m_TongueD_getitemD bF_TongueD_getitemD b_TongueD_getitemD
  simp only [sSeqF_eq, sForF_eq, sAsgF_eq, sRetF_eq, dLc2F_eq, dLcF_eq, dVarF_eq, fnBodyF_eq, vApartF_eq, gItemF_eq, sFldSetF_eq, vEqF_eq, vNeF_eq, vInF_eq, vNotInF_eq, vIxF_eq, vDGetF_eq, vReprF_eq, fres_eq, fmut_eq, dres_eq, dConsF_eq, vFldF_eq, dMethF_eq, dItAF_eq, dEnumF_eq, dZipF_eq, dValsF_eq, dItemsF_eq, vMakeF_eq, vSplitF_eq, e_Tongue_check_word]
  try kernel_rfl
noncomputable def bF_spoken : DS := (sSeqF (sAsgF (dApp vTup (dConsF (dApp (fres vListB) (dCons (dVarF 1) dNil)) (dConsF (dres dNewD) dNil))) (gTupA 2 (gCons' (gSet 2) (gCons' (gSet 3) gNil')))) (sSeqF (sForF (dItAF (dApp (vProp aC_Tongue mF_Tongue_words) (dCons (dVarF 0) dNil))) (gSet 4) (sSeqF (sAsgF (dLcF (dItAF (dApp (fres vIxF) (dConsF (dApp (vItemO aC_Tongue mF_TongueD_getitemD) (dCons (dVarF 0) (dCons (dVarF 4) dNil))) (dCons (dC (.int 1)) dNil)))) (gSet 6) tYes' (dIf (dTest (dApp vEqF (dCons (dVarF 6) (dCons (dC (.str ⟨⟨[63]⟩⟩)) dNil)))) (dM isLstP (fmut vPop) (dVarF 2) (dCons (dC (.int 0)) dNil)) (dVarF 6)) [6]) (gSet 5)) (sAsgF (dM isStrP (fres vJoin) (dC (.str ⟨⟨[]⟩⟩)) (dCons (dVarF 5) dNil)) (gItemF (dVarF 3) (dVarF 4))))) (sRetF (dVarF 3))))
noncomputable def mF_spoken : VF := fnBodyF 2 7 bF_spoken
theorem e_spoken : mF_spoken = m_spoken := by
  unfold mF_spoken m_spoken bF_spoken b_spoken
  simp only [sSeqF_eq, sForF_eq, sAsgF_eq, sRetF_eq, dLc2F_eq, dLcF_eq, dVarF_eq, fnBodyF_eq, vApartF_eq, gItemF_eq, sFldSetF_eq, vEqF_eq, vNeF_eq, vInF_eq, vNotInF_eq, vIxF_eq, vDGetF_eq, vReprF_eq, fres_eq, fmut_eq, dres_eq, dConsF_eq, vFldF_eq, dMethF_eq, dItAF_eq, dEnumF_eq, dZipF_eq, dValsF_eq, dItemsF_eq, vMakeF_eq, vSplitF_eq, e_TongueD_getitemD, e_Tongue_words]
  try kernel_rfl
noncomputable def bF_VoiceD_initD : DS := (sSeqF (sFldSetF aC_Voice ⟨⟨[111, 119, 110, 95, 116, 111, 110, 103, 117, 101]⟩⟩ (dVarF 0) (dVarF 1)) (sSeqF (sFldSetF aC_Voice ⟨⟨[111, 119, 110, 95, 112, 97, 114, 116, 115]⟩⟩ (dVarF 0) (dMethF aC_Tongue ⟨⟨[112, 97, 114, 116, 115]⟩⟩ mF_Tongue_parts (dVarF 1) (dCons (dVarF 3) dNil))) (sFldSetF aC_Voice ⟨⟨[111, 119, 110, 95, 115, 97, 105, 100]⟩⟩ (dVarF 0) (dApp mF_spoken (dCons (dVarF 1) (dCons (dVarF 2) dNil))))))
noncomputable def mF_VoiceD_initD : VF := fnBodyF 4 4 bF_VoiceD_initD
theorem e_VoiceD_initD : mF_VoiceD_initD = m_VoiceD_initD := by
  unfold mF_VoiceD_initD m_VoiceD_initD bF_VoiceD_initD b_VoiceD_initD
  simp only [sSeqF_eq, sForF_eq, sAsgF_eq, sRetF_eq, dLc2F_eq, dLcF_eq, dVarF_eq, fnBodyF_eq, vApartF_eq, gItemF_eq, sFldSetF_eq, vEqF_eq, vNeF_eq, vInF_eq, vNotInF_eq, vIxF_eq, vDGetF_eq, vReprF_eq, fres_eq, fmut_eq, dres_eq, dConsF_eq, vFldF_eq, dMethF_eq, dItAF_eq, dEnumF_eq, dZipF_eq, dValsF_eq, dItemsF_eq, vMakeF_eq, vSplitF_eq, e_Tongue_parts, e_spoken]
  try kernel_rfl
noncomputable def bF_behind : DS := (sSeqF (sIf (dTest (dApp vNeF (dCons (dVarF 2) (dCons (dC (.str ⟨⟨[]⟩⟩)) dNil)))) (sRetF (dApp vTup (dCons (dVarF 1) (dCons (dVarF 2) dNil)))) sNil) (sRetF (dApp vTup (dConsF (dIf (dTest (dApp vIs (dConsF (dApp (fres vIxF) (dConsF (dApp (fres vIxF) (dCons (dVarF 0) (dCons (dVarF 1) dNil))) (dCons (dC (.int 0)) dNil))) (dCons (dC (.bl true)) dNil)))) (dVarF 1) (dApp (fres vAdd) (dCons (dVarF 1) (dCons (dC (.int 1)) dNil)))) (dCons (dC (.str ⟨⟨[]⟩⟩)) dNil)))))
noncomputable def mF_behind : VF := fnBodyF 3 3 bF_behind
theorem e_behind : mF_behind = m_behind := by
  unfold mF_behind m_behind bF_behind b_behind
  simp only [sSeqF_eq, sForF_eq, sAsgF_eq, sRetF_eq, dLc2F_eq, dLcF_eq, dVarF_eq, fnBodyF_eq, vApartF_eq, gItemF_eq, sFldSetF_eq, vEqF_eq, vNeF_eq, vInF_eq, vNotInF_eq, vIxF_eq, vDGetF_eq, vReprF_eq, fres_eq, fmut_eq, dres_eq, dConsF_eq, vFldF_eq, dMethF_eq, dItAF_eq, dEnumF_eq, dZipF_eq, dValsF_eq, dItemsF_eq, vMakeF_eq, vSplitF_eq]
  try kernel_rfl
noncomputable def bF_feet_begun : DS := (sSeqF (sAsgF (dVarF 1) (gTupA 2 (gCons' (gSet 4) (gCons' (gSet 5) gNil')))) (sSeqF (sIf (dTest (dApp vNeF (dCons (dVarF 5) (dCons (dC (.str ⟨⟨[]⟩⟩)) dNil)))) (sRetF (dIf (dTest (dApp vInF (dConsF (dApp (fres vIxF) (dCons (dVarF 5) (dCons (dC (.int 0)) dNil))) (dConsF (dApp vTup (dCons (dVarF 2) (dCons (dC (.str ⟨⟨[120]⟩⟩)) dNil))) dNil)))) (dApp (fres vLst) (dConsF (dApp vTup (dConsF (dApp (vApartF mF_behind) (dCons (dVarF 0) (dCons (dVarF 4) (dConsF (dres (dCut (dVarF 5) (dPart (dC (.int 1))) dNoPart)) dNil)))) (dCons (dC .non) dNil))) dNil)) (dApp (fres vLst) dNil))) sNil) (sSeqF (sAsgF (dApp (fres vLst) dNil) (gSet 6)) (sSeqF (sForF (dRg2 (dVarF 4) (dApp vLen (dCons (dVarF 0) dNil))) (gSet 7) (sSeqF (sAsgF (dApp (fres vIxF) (dCons (dVarF 0) (dCons (dVarF 7) dNil))) (gSet 8)) (sIf (dTest (dApp vInF (dCons (dVarF 8) (dConsF (dApp vTup (dCons (dC (.str ⟨⟨[124]⟩⟩)) (dCons (dC (.str ⟨⟨[33]⟩⟩)) dNil))) dNil)))) (sIf (dTest (dApp vNeF (dConsF (dApp vEqF (dCons (dVarF 8) (dCons (dC (.str ⟨⟨[124]⟩⟩)) dNil))) (dCons (dVarF 3) dNil)))) sBreak sNil) (sSeqF (sAsgF (dVarF 8) (gTupA 2 (gCons' (gSet 9) (gCons' (gSet 10) gNil')))) (sSeqF (sAsgF (dLcF (dItAF (dVarF 10)) (gSet 12) (dTest (dApp vInF (dConsF (dApp (fres vIxF) (dCons (dVarF 12) (dCons (dC (.int 0)) dNil))) (dConsF (dApp vTup (dCons (dVarF 2) (dCons (dC (.str ⟨⟨[120]⟩⟩)) dNil))) dNil)))) (dVarF 12) [12]) (gSet 11)) (sSeqF (sExpr (dM isLstP (fmut vExtend) (dVarF 6) (dConsF (dLcF (dItAF (dVarF 11)) (gSet 12) tYes' (dApp vTup (dConsF (dApp (vApartF mF_behind) (dCons (dVarF 0) (dCons (dVarF 7) (dConsF (dres (dCut (dVarF 12) (dPart (dC (.int 1))) dNoPart)) dNil)))) (dConsF (dApp vTup (dCons (dVarF 7) (dCons (dVarF 12) dNil))) dNil))) [12]) dNil))) (sIf (dNot (dTru (dVarF 9))) sBreak sNil))))))) (sRetF (dVarF 6))))))
noncomputable def mF_feet_begun : VF := fnBodyF 4 13 bF_feet_begun
theorem e_feet_begun : mF_feet_begun = m_feet_begun := by
  unfold mF_feet_begun m_feet_begun bF_feet_begun b_feet_begun
  simp only [sSeqF_eq, sForF_eq, sAsgF_eq, sRetF_eq, dLc2F_eq, dLcF_eq, dVarF_eq, fnBodyF_eq, vApartF_eq, gItemF_eq, sFldSetF_eq, vEqF_eq, vNeF_eq, vInF_eq, vNotInF_eq, vIxF_eq, vDGetF_eq, vReprF_eq, fres_eq, fmut_eq, dres_eq, dConsF_eq, vFldF_eq, dMethF_eq, dItAF_eq, dEnumF_eq, dZipF_eq, dValsF_eq, dItemsF_eq, vMakeF_eq, vSplitF_eq, e_behind]
  try kernel_rfl
noncomputable def bF_stepped : DS := (sSeqF (sAsgF (dApp (fres vLst) dNil) (gSet 4)) (sSeqF (sForF (dItAF (dVarF 1)) (gSet 5) (sExpr (dM isLstP (fmut vExtend) (dVarF 4) (dConsF (dLcF (dItAF (dApp mF_feet_begun (dCons (dVarF 0) (dCons (dVarF 5) (dCons (dVarF 2) (dCons (dVarF 3) dNil)))))) (gTupA 2 (gCons' (gSet 6) (gCons' (gSet 7) gNil'))) tYes' (dVarF 6) [6, 7]) dNil)))) (sRetF (dApp (fres vTupleA) (dConsF (dApp (fres vSortSet) (dCons (dVarF 4) dNil)) dNil)))))
noncomputable def mF_stepped : VF := fnBodyF 4 8 bF_stepped
theorem e_stepped : mF_stepped = m_stepped := by
  unfold mF_stepped m_stepped bF_stepped b_stepped
  simp only [sSeqF_eq, sForF_eq, sAsgF_eq, sRetF_eq, dLc2F_eq, dLcF_eq, dVarF_eq, fnBodyF_eq, vApartF_eq, gItemF_eq, sFldSetF_eq, vEqF_eq, vNeF_eq, vInF_eq, vNotInF_eq, vIxF_eq, vDGetF_eq, vReprF_eq, fres_eq, fmut_eq, dres_eq, dConsF_eq, vFldF_eq, dMethF_eq, dItAF_eq, dEnumF_eq, dZipF_eq, dValsF_eq, dItemsF_eq, vMakeF_eq, vSplitF_eq, e_feet_begun]
  try kernel_rfl
noncomputable def bF_Voice_led_in : DS := (sSeqF (sForF (dEnumF (dres (dCut (dApp (fres vIxF) (dConsF (dApp (vFldF aC_Voice ⟨⟨[111, 119, 110, 95, 115, 97, 105, 100]⟩⟩) (dCons (dVarF 0) dNil)) (dCons (dVarF 2) dNil))) dNoPart (dPart (dApp vNeg (dCons (dC (.int 1)) dNil)))))) (gTupA 2 (gCons' (gSet 3) (gCons' (gSet 4) gNil'))) (sAsgF (dApp (vApartF mF_stepped) (dConsF (dApp (vFldF aC_Voice ⟨⟨[111, 119, 110, 95, 112, 97, 114, 116, 115]⟩⟩) (dCons (dVarF 0) dNil)) (dCons (dVarF 1) (dCons (dVarF 4) (dConsF (dApp vEqF (dCons (dVarF 3) (dCons (dC (.int 0)) dNil))) dNil))))) (gSet 1))) (sRetF (dVarF 1)))
noncomputable def mF_Voice_led_in : VF := fnBodyF 3 5 bF_Voice_led_in
theorem e_Voice_led_in : mF_Voice_led_in = m_Voice_led_in := by
  unfold mF_Voice_led_in m_Voice_led_in bF_Voice_led_in b_Voice_led_in
  simp only [sSeqF_eq, sForF_eq, sAsgF_eq, sRetF_eq, dLc2F_eq, dLcF_eq, dVarF_eq, fnBodyF_eq, vApartF_eq, gItemF_eq, sFldSetF_eq, vEqF_eq, vNeF_eq, vInF_eq, vNotInF_eq, vIxF_eq, vDGetF_eq, vReprF_eq, fres_eq, fmut_eq, dres_eq, dConsF_eq, vFldF_eq, dMethF_eq, dItAF_eq, dEnumF_eq, dZipF_eq, dValsF_eq, dItemsF_eq, vMakeF_eq, vSplitF_eq, e_stepped]
  try kernel_rfl
noncomputable def bF_Voice_first : DS := (sRetF (dMethF aC_Voice ⟨⟨[108, 101, 100, 95, 105, 110]⟩⟩ mF_Voice_led_in (dVarF 0) (dConsF (dApp vTup (dCons (dC (.tup [.int 0, .str ⟨⟨[]⟩⟩])) dNil)) (dCons (dVarF 1) dNil))))
noncomputable def mF_Voice_first : VF := fnBodyF 2 2 bF_Voice_first
theorem e_Voice_first : mF_Voice_first = m_Voice_first := by
  unfold mF_Voice_first m_Voice_first bF_Voice_first b_Voice_first
  simp only [sSeqF_eq, sForF_eq, sAsgF_eq, sRetF_eq, dLc2F_eq, dLcF_eq, dVarF_eq, fnBodyF_eq, vApartF_eq, gItemF_eq, sFldSetF_eq, vEqF_eq, vNeF_eq, vInF_eq, vNotInF_eq, vIxF_eq, vDGetF_eq, vReprF_eq, fres_eq, fmut_eq, dres_eq, dConsF_eq, vFldF_eq, dMethF_eq, dItAF_eq, dEnumF_eq, dZipF_eq, dValsF_eq, dItemsF_eq, vMakeF_eq, vSplitF_eq, e_Voice_led_in]
  try kernel_rfl
noncomputable def bF_Tongue_joint : DS := (sSeqF (sExpr (dMethF aC_Tongue ⟨⟨[99, 104, 101, 99, 107, 95, 119, 111, 114, 100]⟩⟩ mF_Tongue_check_word (dVarF 0) (dCons (dVarF 1) dNil))) (sSeqF (sExpr (dMethF aC_Tongue ⟨⟨[99, 104, 101, 99, 107, 95, 119, 111, 114, 100]⟩⟩ mF_Tongue_check_word (dVarF 0) (dCons (dVarF 2) dNil))) (sRetF (dM isDctP vDGetF (dApp (vFldF aC_Tongue ⟨⟨[111, 119, 110, 95, 106, 111, 105, 110, 116, 115]⟩⟩) (dCons (dVarF 0) dNil)) (dConsF (dApp vTup (dConsF (dApp (fres vIxF) (dConsF (dApp (fres vIxF) (dConsF (dApp (vFldF aC_Tongue ⟨⟨[111, 119, 110, 95, 119, 111, 114, 100, 115]⟩⟩) (dCons (dVarF 0) dNil)) (dCons (dVarF 1) dNil))) (dConsF (dApp vNeg (dCons (dC (.int 1)) dNil)) dNil))) (dConsF (dApp (fres vIxF) (dConsF (dApp (fres vIxF) (dConsF (dApp (vFldF aC_Tongue ⟨⟨[111, 119, 110, 95, 119, 111, 114, 100, 115]⟩⟩) (dCons (dVarF 0) dNil)) (dCons (dVarF 2) dNil))) (dCons (dC (.int 0)) dNil))) dNil))) (dCons (dC (.str ⟨⟨[]⟩⟩)) dNil))))))
noncomputable def mF_Tongue_joint : VF := fnBodyF 3 3 bF_Tongue_joint
theorem e_Tongue_joint : mF_Tongue_joint = m_Tongue_joint := by
  unfold mF_Tongue_joint m_Tongue_joint bF_Tongue_joint b_Tongue_joint
  simp only [sSeqF_eq, sForF_eq, sAsgF_eq, sRetF_eq, dLc2F_eq, dLcF_eq, dVarF_eq, fnBodyF_eq, vApartF_eq, gItemF_eq, sFldSetF_eq, vEqF_eq, vNeF_eq, vInF_eq, vNotInF_eq, vIxF_eq, vDGetF_eq, vReprF_eq, fres_eq, fmut_eq, dres_eq, dConsF_eq, vFldF_eq, dMethF_eq, dItAF_eq, dEnumF_eq, dZipF_eq, dValsF_eq, dItemsF_eq, vMakeF_eq, vSplitF_eq, e_Tongue_check_word]
  try kernel_rfl
noncomputable def bF_Voice_last_step : DS := (sRetF (dApp (vApartF mF_stepped) (dConsF (dApp (vFldF aC_Voice ⟨⟨[111, 119, 110, 95, 112, 97, 114, 116, 115]⟩⟩) (dCons (dVarF 0) dNil)) (dCons (dVarF 1) (dCons (dVarF 3) (dConsF (dApp vEqF (dConsF (dApp vLen (dConsF (dApp (fres vIxF) (dConsF (dApp (vFldF aC_Voice ⟨⟨[111, 119, 110, 95, 115, 97, 105, 100]⟩⟩) (dCons (dVarF 0) dNil)) (dCons (dVarF 2) dNil))) dNil)) (dCons (dC (.int 1)) dNil))) dNil))))))
noncomputable def mF_Voice_last_step : VF := fnBodyF 4 4 bF_Voice_last_step
theorem e_Voice_last_step : mF_Voice_last_step = m_Voice_last_step := by
  unfold mF_Voice_last_step m_Voice_last_step bF_Voice_last_step b_Voice_last_step
  simp only [sSeqF_eq, sForF_eq, sAsgF_eq, sRetF_eq, dLc2F_eq, dLcF_eq, dVarF_eq, fnBodyF_eq, vApartF_eq, gItemF_eq, sFldSetF_eq, vEqF_eq, vNeF_eq, vInF_eq, vNotInF_eq, vIxF_eq, vDGetF_eq, vReprF_eq, fres_eq, fmut_eq, dres_eq, dConsF_eq, vFldF_eq, dMethF_eq, dItAF_eq, dEnumF_eq, dZipF_eq, dValsF_eq, dItemsF_eq, vMakeF_eq, vSplitF_eq, e_stepped]
  try kernel_rfl
noncomputable def bF_Voice_led : DS := (sSeqF (sAsgF (dMethF aC_Tongue ⟨⟨[106, 111, 105, 110, 116]⟩⟩ mF_Tongue_joint (dApp (vFldF aC_Voice ⟨⟨[111, 119, 110, 95, 116, 111, 110, 103, 117, 101]⟩⟩) (dCons (dVarF 0) dNil)) (dCons (dVarF 2) (dCons (dVarF 3) dNil))) (gSet 4)) (sSeqF (sIf (dTest (dApp vEqF (dCons (dVarF 4) (dCons (dC (.str ⟨⟨[100, 114, 111, 112]⟩⟩)) dNil)))) (sRetF (dMethF aC_Voice ⟨⟨[108, 101, 100, 95, 105, 110]⟩⟩ mF_Voice_led_in (dVarF 0) (dCons (dVarF 1) (dCons (dVarF 3) dNil)))) sNil) (sSeqF (sAsgF (dMethF aC_Voice ⟨⟨[108, 97, 115, 116, 95, 115, 116, 101, 112]⟩⟩ mF_Voice_last_step (dVarF 0) (dCons (dVarF 1) (dCons (dVarF 2) (dConsF (dIf (dTest (dApp vEqF (dCons (dVarF 4) (dCons (dC (.str ⟨⟨[108, 111, 110, 103]⟩⟩)) dNil)))) (dC (.str ⟨⟨[45]⟩⟩)) (dApp (fres vIxF) (dConsF (dApp (fres vIxF) (dConsF (dApp (vFldF aC_Voice ⟨⟨[111, 119, 110, 95, 115, 97, 105, 100]⟩⟩) (dCons (dVarF 0) dNil)) (dCons (dVarF 2) dNil))) (dConsF (dApp vNeg (dCons (dC (.int 1)) dNil)) dNil)))) dNil)))) (gSet 5)) (sSeqF (sIf (dTest (dApp vEqF (dCons (dVarF 4) (dCons (dC (.str ⟨⟨[109, 97, 121]⟩⟩)) dNil)))) (sAsgF (dApp (fres vTupleA) (dConsF (dApp (fres vSortSet) (dConsF (dApp (fres vLst) (dStar (dVarF 5) (dStar (dVarF 1) dNil))) dNil)) dNil)) (gSet 5)) sNil) (sRetF (dMethF aC_Voice ⟨⟨[108, 101, 100, 95, 105, 110]⟩⟩ mF_Voice_led_in (dVarF 0) (dCons (dVarF 5) (dCons (dVarF 3) dNil))))))))
noncomputable def mF_Voice_led : VF := fnBodyF 4 6 bF_Voice_led
theorem e_Voice_led : mF_Voice_led = m_Voice_led := by
  unfold mF_Voice_led m_Voice_led bF_Voice_led b_Voice_led
  simp only [sSeqF_eq, sForF_eq, sAsgF_eq, sRetF_eq, dLc2F_eq, dLcF_eq, dVarF_eq, fnBodyF_eq, vApartF_eq, gItemF_eq, sFldSetF_eq, vEqF_eq, vNeF_eq, vInF_eq, vNotInF_eq, vIxF_eq, vDGetF_eq, vReprF_eq, fres_eq, fmut_eq, dres_eq, dConsF_eq, vFldF_eq, dMethF_eq, dItAF_eq, dEnumF_eq, dZipF_eq, dValsF_eq, dItemsF_eq, vMakeF_eq, vSplitF_eq, e_Tongue_joint, e_Voice_last_step, e_Voice_led_in]
  try kernel_rfl
noncomputable def bF_Voice_standing : DS := (sSeqF (sAsgF (dMethF aC_Voice ⟨⟨[102, 105, 114, 115, 116]⟩⟩ mF_Voice_first (dVarF 0) (dConsF (dApp (fres vIxF) (dCons (dVarF 1) (dCons (dC (.int 0)) dNil))) dNil)) (gSet 2)) (sSeqF (sForF (dZipF (dVarF 1) (dres (dCut (dVarF 1) (dPart (dC (.int 1))) dNoPart))) (gTupA 2 (gCons' (gSet 3) (gCons' (gSet 4) gNil'))) (sAsgF (dMethF aC_Voice ⟨⟨[108, 101, 100]⟩⟩ mF_Voice_led (dVarF 0) (dCons (dVarF 2) (dCons (dVarF 3) (dCons (dVarF 4) dNil)))) (gSet 2))) (sRetF (dVarF 2))))
noncomputable def mF_Voice_standing : VF := fnBodyF 2 5 bF_Voice_standing
theorem e_Voice_standing : mF_Voice_standing = m_Voice_standing := by
  unfold mF_Voice_standing m_Voice_standing bF_Voice_standing b_Voice_standing
  simp only [sSeqF_eq, sForF_eq, sAsgF_eq, sRetF_eq, dLc2F_eq, dLcF_eq, dVarF_eq, fnBodyF_eq, vApartF_eq, gItemF_eq, sFldSetF_eq, vEqF_eq, vNeF_eq, vInF_eq, vNotInF_eq, vIxF_eq, vDGetF_eq, vReprF_eq, fres_eq, fmut_eq, dres_eq, dConsF_eq, vFldF_eq, dMethF_eq, dItAF_eq, dEnumF_eq, dZipF_eq, dValsF_eq, dItemsF_eq, vMakeF_eq, vSplitF_eq, e_Voice_first, e_Voice_led]
  try kernel_rfl
noncomputable def bF_standing : DS := (sSeqF (sExpr (dApp mF_check_measure (dCons (dVarF 0) (dCons (dVarF 1) dNil)))) (sSeqF (sExpr (dMethF aC_Tongue ⟨⟨[112, 97, 114, 116, 115]⟩⟩ mF_Tongue_parts (dVarF 0) (dCons (dVarF 2) dNil))) (sSeqF (sExpr (dApp mF_check_row (dCons (dVarF 0) (dCons (dVarF 3) dNil)))) (sRetF (dMethF aC_Voice ⟨⟨[115, 116, 97, 110, 100, 105, 110, 103]⟩⟩ mF_Voice_standing (dApp (vMakeF aC_Voice mF_VoiceD_initD) (dCons (dVarF 0) (dCons (dVarF 1) (dCons (dVarF 2) dNil)))) (dCons (dVarF 3) dNil))))))
noncomputable def mF_standing : VF := fnBodyF 4 4 bF_standing
theorem e_standing : mF_standing = m_standing := by
  unfold mF_standing m_standing bF_standing b_standing
  simp only [sSeqF_eq, sForF_eq, sAsgF_eq, sRetF_eq, dLc2F_eq, dLcF_eq, dVarF_eq, fnBodyF_eq, vApartF_eq, gItemF_eq, sFldSetF_eq, vEqF_eq, vNeF_eq, vInF_eq, vNotInF_eq, vIxF_eq, vDGetF_eq, vReprF_eq, fres_eq, fmut_eq, dres_eq, dConsF_eq, vFldF_eq, dMethF_eq, dItAF_eq, dEnumF_eq, dZipF_eq, dValsF_eq, dItemsF_eq, vMakeF_eq, vSplitF_eq, e_Tongue_parts, e_VoiceD_initD, e_Voice_standing, e_check_measure, e_check_row]
  try kernel_rfl
noncomputable def bF__law_right : DS := (sSeqF (sAsgF (dApp (fres vAdd) (dConsF (dApp (fres vAdd) (dConsF (dApp (fres vAdd) (dConsF (dApp (fres vAdd) (dCons (dC (.str ⟨⟨[119, 111, 114, 100, 32]⟩⟩)) (dCons (dVarF 0) dNil))) (dCons (dC (.str ⟨⟨[32, 97, 32, 117, 32, 97, 10, 119, 111, 114, 100, 32]⟩⟩)) dNil))) (dCons (dVarF 1) dNil))) (dCons (dC (.str ⟨⟨[32, 98, 32, 45, 117, 63, 32, 98, 10, 106, 111, 105, 110, 116, 32, 97, 32, 98, 32, 109, 97, 121]⟩⟩)) dNil))) (gSet 2)) (sSeqF (sAsgF (dApp (fres vAdd) (dCons (dVarF 2) (dCons (dC (.str ⟨⟨[10, 109, 101, 116, 114, 101, 32, 109, 32, 42, 45, 117, 47, 117, 32, 45, 32, 120, 10, 109, 101, 116, 114, 101, 32, 110, 32, 45, 117, 32, 124, 32, 33, 32, 117, 117]⟩⟩)) dNil))) (gSet 2)) (sSeqF (sAsgF (dApp (vMakeF aC_Tongue mF_TongueD_initD) (dCons (dVarF 2) dNil)) (gSet 3)) (sSeqF (sAsgF (dApp (fres vLst) (dConsF (dApp vTup (dCons (dC (.str ⟨⟨[45]⟩⟩)) (dCons (dC (.str ⟨⟨[109]⟩⟩)) (dConsF (dApp vTup (dCons (dVarF 0) dNil)) (dConsF (dApp vTup (dConsF (dApp vTup (dCons (dC (.int 0)) (dCons (dC (.str ⟨⟨[]⟩⟩)) dNil))) dNil)) dNil))))) (dConsF (dApp vTup (dCons (dC (.str ⟨⟨[45]⟩⟩)) (dCons (dC (.str ⟨⟨[110]⟩⟩)) (dConsF (dApp vTup (dCons (dVarF 1) dNil)) (dConsF (dApp vTup (dConsF (dApp vTup (dCons (dC (.int 1)) (dCons (dC (.str ⟨⟨[]⟩⟩)) dNil))) dNil)) dNil))))) (dConsF (dApp vTup (dCons (dC (.str ⟨⟨[45]⟩⟩)) (dCons (dC (.str ⟨⟨[110]⟩⟩)) (dConsF (dApp vTup (dCons (dVarF 1) (dCons (dVarF 1) dNil))) (dConsF (dApp vTup dNil) dNil))))) dNil)))) (gSet 4)) (sSeqF (sExpr (dM isLstP (fmut vAppend) (dVarF 4) (dConsF (dApp vTup (dCons (dC (.str ⟨⟨[45]⟩⟩)) (dCons (dC (.str ⟨⟨[109]⟩⟩)) (dConsF (dApp vTup (dCons (dVarF 1) dNil)) (dConsF (dApp vTup (dConsF (dApp vTup (dCons (dC (.int 0)) (dCons (dC (.str ⟨⟨[]⟩⟩)) dNil))) (dConsF (dApp vTup (dCons (dC (.int 3)) (dCons (dC (.str ⟨⟨[]⟩⟩)) dNil))) dNil))) dNil))))) dNil))) (sSeqF (sExpr (dM isLstP (fmut vAppend) (dVarF 4) (dConsF (dApp vTup (dCons (dC (.str ⟨⟨[117]⟩⟩)) (dCons (dC (.str ⟨⟨[109]⟩⟩)) (dConsF (dApp vTup (dCons (dVarF 0) (dCons (dVarF 1) dNil))) (dConsF (dApp vTup (dConsF (dApp vTup (dCons (dC (.int 0)) (dCons (dC (.str ⟨⟨[]⟩⟩)) dNil))) (dConsF (dApp vTup (dCons (dC (.int 3)) (dCons (dC (.str ⟨⟨[]⟩⟩)) dNil))) dNil))) dNil))))) dNil))) (sSeqF (sExpr (dM isLstP (fmut vAppend) (dVarF 4) (dConsF (dApp vTup (dCons (dC (.str ⟨⟨[45]⟩⟩)) (dCons (dC (.str ⟨⟨[109]⟩⟩)) (dConsF (dApp vTup (dCons (dVarF 1) (dCons (dVarF 0) dNil))) (dConsF (dApp vTup (dConsF (dApp vTup (dCons (dC (.int 0)) (dCons (dC (.str ⟨⟨[117]⟩⟩)) dNil))) (dConsF (dApp vTup (dCons (dC (.int 2)) (dCons (dC (.str ⟨⟨[]⟩⟩)) dNil))) dNil))) dNil))))) dNil))) (sSeqF (sExpr (dM isLstP (fmut vAppend) (dVarF 4) (dConsF (dApp vTup (dCons (dC (.str ⟨⟨[117]⟩⟩)) (dCons (dC (.str ⟨⟨[109]⟩⟩)) (dConsF (dApp vTup (dCons (dVarF 1) (dCons (dVarF 0) dNil))) (dConsF (dApp vTup (dConsF (dApp vTup (dCons (dC (.int 0)) (dCons (dC (.str ⟨⟨[]⟩⟩)) dNil))) dNil)) dNil))))) dNil))) (sSeqF (sExpr (dM isLstP (fmut vAppend) (dVarF 4) (dConsF (dApp vTup (dCons (dC (.str ⟨⟨[45]⟩⟩)) (dCons (dC (.str ⟨⟨[109]⟩⟩)) (dConsF (dApp vTup (dCons (dVarF 0) (dCons (dVarF 0) dNil))) (dConsF (dApp vTup (dConsF (dApp vTup (dCons (dC (.int 0)) (dCons (dC (.str ⟨⟨[]⟩⟩)) dNil))) dNil)) dNil))))) dNil))) (sSeqF (sExpr (dM isLstP (fmut vAppend) (dVarF 4) (dConsF (dApp vTup (dCons (dC (.str ⟨⟨[117]⟩⟩)) (dCons (dC (.str ⟨⟨[110]⟩⟩)) (dConsF (dApp vTup (dCons (dVarF 0) dNil)) (dConsF (dApp vTup (dConsF (dApp vTup (dCons (dC (.int 0)) (dCons (dC (.str ⟨⟨[]⟩⟩)) dNil))) dNil)) dNil))))) dNil))) (sSeqF (sExpr (dM isLstP (fmut vAppend) (dVarF 4) (dConsF (dApp vTup (dCons (dC (.str ⟨⟨[117]⟩⟩)) (dCons (dC (.str ⟨⟨[110]⟩⟩)) (dConsF (dApp vTup (dCons (dVarF 0) (dCons (dVarF 0) dNil))) (dConsF (dApp vTup dNil) dNil))))) dNil))) (sRetF (dApp vAll (dConsF (dLcF (dItAF (dVarF 4)) (gTupA 4 (gCons' (gSet 5) (gCons' (gSet 6) (gCons' (gSet 7) (gCons' (gSet 8) gNil'))))) tYes' (dApp vEqF (dConsF (dApp vReprF (dConsF (dApp mF_standing (dCons (dVarF 3) (dCons (dVarF 5) (dCons (dVarF 6) (dCons (dVarF 7) dNil))))) dNil)) (dConsF (dApp vReprF (dCons (dVarF 8) dNil)) dNil))) [5, 6, 7, 8]) dNil))))))))))))))
noncomputable def mF__law_right : VF := fnBodyF 2 9 bF__law_right
theorem e__law_right : mF__law_right = m__law_right := by
  unfold mF__law_right m__law_right bF__law_right b__law_right
  simp only [sSeqF_eq, sForF_eq, sAsgF_eq, sRetF_eq, dLc2F_eq, dLcF_eq, dVarF_eq, fnBodyF_eq, vApartF_eq, gItemF_eq, sFldSetF_eq, vEqF_eq, vNeF_eq, vInF_eq, vNotInF_eq, vIxF_eq, vDGetF_eq, vReprF_eq, fres_eq, fmut_eq, dres_eq, dConsF_eq, vFldF_eq, dMethF_eq, dItAF_eq, dEnumF_eq, dZipF_eq, dValsF_eq, dItemsF_eq, vMakeF_eq, vSplitF_eq, e_TongueD_initD, e_standing]
  try kernel_rfl
section
variable {P : Program} {w : World} {K : PySem.W.Frag} {mg : Str → Option Value} {base : Heap}
theorem sc__law_places : FnScope ["_law_script", "_law_most"] ["_law_script", "_law_most"] (defScope s__law_places) := ⟨rfl, rfl, rfl, by decide +kernel, rfl, by decide +kernel, by decide +kernel⟩
theorem ok__law_places (T : Fx K mg) : Has P w K mg base 1 (He.ga K "_law_places") ["_law_script", "_law_most"] m__law_places := show Has P w K mg base 1 (He.ga K "_law_places") ["_law_script", "_law_most"] (fnBody 2 2 b__law_places) from has_of (N := ["_law_script", "_law_most"]) (by kernel_rfl) (by kernel_rfl) T.d__law_places sc__law_places (fun _ _ _ _ _ _ us hl => match us, hl with | [_, _], _ => rfl) (fun cdv A outer s H E hr =>
  (lss_one (ls_ret (le_lstRg1 rfl rfl T.n_list rfl T.n_range (le_cb (oc_max2 rfl) rfl T.n_max boot_max (la_cons le_int (la_cons (le_cb (oc_min2 rfl) rfl T.n_min boot_min (la_cons (le_var (pv 1)) (la_cons (le_cb oc_len rfl T.n_len boot_len (la_cons (le_var (pv 0)) la_nil)) la_nil))) la_nil)))))))
theorem sc__law_take : FnScope ["_law_pot_here", "_law_upto", "_law_digit", "_law_prime", "_law_blend"] ["_law_pot_here", "_law_upto"] (defScope s__law_take) := ⟨rfl, rfl, rfl, by decide +kernel, rfl, by decide +kernel, by decide +kernel⟩
theorem ok__law_take (T : Fx K mg) : Has P w K mg base 1 (He.ga K "_law_take") ["_law_pot_here", "_law_upto"] m__law_take := show Has P w K mg base 1 (He.ga K "_law_take") ["_law_pot_here", "_law_upto"] (fnBody 2 5 b__law_take) from has_of (N := ["_law_pot_here", "_law_upto", "_law_digit", "_law_prime", "_law_blend"]) (by kernel_rfl) (by kernel_rfl) T.d__law_take sc__law_take (fun _ _ _ _ _ _ us hl => match us, hl with | [_, _], _ => rfl) (fun cdv A outer s H E hr =>
  (lss_cons (ls_if (lt_cmp o2_gt (le_item (oi_ix (room_un hr 9)) (le_var (pv 0)) le_int) le_int (nomark _)) (lss_cons (ls_asg (js := [2]) (le_bin o2_mod (le_ct oc_int rfl T.n_int boot_int (la_cons (le_item (oi_ix (room_un hr 9)) (le_var (pv 0)) le_int) la_nil)) (le_var (pv 1))) (lg_name (pg_name (i := 2) sc__law_take.nd rfl (by first | exact Or.inl rfl | exact Or.inr rfl))))
  (lss_cons (ls_asg (js := []) (le_bin o2_div (le_item (oi_ix (room_un hr 9)) (le_var (pv 0)) le_int) (le_var (pv 1))) (lg_item (room_un hr 9) (le_var (pv 0)) le_int))
  (lss_one (ls_ret (le_var (pv 2)))))) lss_nil)
  (lss_cons (ls_asg (js := []) (le_bin o2_add (le_item (oi_ix (room_un hr 9)) (le_var (pv 0)) le_int) le_int) (lg_item (room_un hr 9) (le_var (pv 0)) le_int))
  (lss_cons (ls_asg (js := [3]) (le_item (oi_ix (room_un hr 9)) (le_lst (la_cons le_int (la_cons le_int (la_cons le_int (la_cons le_int (la_cons le_int la_nil)))))) (le_bin o2_mod (le_ct oc_int rfl T.n_int boot_int (la_cons (le_item (oi_ix (room_un hr 9)) (le_var (pv 0)) le_int) la_nil)) le_int)) (lg_name (pg_name (i := 3) sc__law_take.nd rfl (by first | exact Or.inl rfl | exact Or.inr rfl))))
  (lss_cons (ls_asg (js := [4]) (le_bin o2_mod (le_ct oc_int rfl T.n_int boot_int (la_cons (le_bin o2_pow (le_ct oc_int rfl T.n_int boot_int (la_cons (le_bin o2_add (le_bin o2_add (le_item (oi_ix (room_un hr 9)) (le_var (pv 0)) le_int) (le_bin o2_mulA (le_bin o2_mulA le_int (le_item (oi_ix (room_un hr 9)) (le_var (pv 0)) le_int)) (le_item (oi_ix (room_un hr 9)) (le_var (pv 0)) le_int))) le_int) la_nil)) le_int) la_nil)) (le_var (pv 3))) (lg_name (pg_name (i := 4) sc__law_take.nd rfl (by first | exact Or.inl rfl | exact Or.inr rfl))))
  (lss_one (ls_ret (le_bin o2_mod (le_ct oc_int rfl T.n_int boot_int (la_cons (le_bin o2_div (le_bin o2_mulA (le_var (pv 4)) (le_bin o2_add (le_bin o2_mod (le_ct oc_int rfl T.n_int boot_int (la_cons (le_var (pv 4)) la_nil)) le_int) (le_bin o2_mulA le_int (le_item (oi_ix (room_un hr 9)) (le_var (pv 0)) le_int)))) le_int) la_nil)) (le_var (pv 1))))))))))
theorem sc__law_some : FnScope ["_law_pot_here", "_law_pool", "_law_many", "_law_left", "_law_found", "_law_lap"] ["_law_pot_here", "_law_pool", "_law_many"] (defScope s__law_some) := ⟨rfl, rfl, rfl, by decide +kernel, rfl, by decide +kernel, by decide +kernel⟩
theorem ok__law_some (T : Fx K mg) : Has P w K mg base 2 (He.ga K "_law_some") ["_law_pot_here", "_law_pool", "_law_many"] m__law_some := show Has P w K mg base 2 (He.ga K "_law_some") ["_law_pot_here", "_law_pool", "_law_many"] (fnBody 3 6 b__law_some) from has_of (N := ["_law_pot_here", "_law_pool", "_law_many", "_law_left", "_law_found", "_law_lap"]) (by kernel_rfl) (by kernel_rfl) T.d__law_some sc__law_some (fun _ _ _ _ _ _ us hl => match us, hl with | [_, _, _], _ => rfl) (fun cdv A outer s H E hr =>
  (lss_cons (ls_par (i := 3) (j := 4) rfl sc__law_some.nd rfl rfl (by decide) rfl rfl (la_cons (le_ct (oc_listB rfl) rfl T.n_list boot_list (la_cons (le_var (pv 1)) la_nil)) (la_cons (le_lst la_nil) la_nil)) rfl)
  (lss_cons (ls_for (js := [5]) PassesOwn.never rfl (li_range1 rfl T.n_range (le_var (pv 2))) (lg_name (pg_name (i := 5) sc__law_some.nd rfl (by first | exact Or.inl rfl | exact Or.inr rfl))) (lss_one (ls_expr (le_m ty_lst PySem.F.plainAttrs_list PySem.F.slot_list_append PySem.F.type_list_append om_append (le_var (pv 4)) (la_cons (le_m ty_lst PySem.F.plainAttrs_list PySem.F.slot_list_pop PySem.F.type_list_pop om_pop (le_var (pv 3)) (la_cons (leh_call (ok__law_take T) (hr.mono (by decide)) rfl T.g__law_take (la_cons (le_var (pv 0)) (la_cons (le_cb oc_len rfl T.n_len boot_len (la_cons (le_var (pv 3)) la_nil)) la_nil))) la_nil)) la_nil)))))
  (lss_one (ls_ret (le_var (pv 4)))))))
theorem sc__law_names : FnScope ["_law_pot_here", "_law_many", "_law_pool"] ["_law_pot_here", "_law_many"] (defScope s__law_names) := ⟨rfl, rfl, rfl, by decide +kernel, rfl, by decide +kernel, by decide +kernel⟩
theorem ok__law_names (T : Fx K mg) : Has P w K mg base 3 (He.ga K "_law_names") ["_law_pot_here", "_law_many"] m__law_names := show Has P w K mg base 3 (He.ga K "_law_names") ["_law_pot_here", "_law_many"] (fnBody 2 3 b__law_names) from has_of (N := ["_law_pot_here", "_law_many", "_law_pool"]) (by kernel_rfl) (by kernel_rfl) T.d__law_names sc__law_names (fun _ _ _ _ _ _ us hl => match us, hl with | [_, _], _ => rfl) (fun cdv A outer s H E hr =>
  (lss_cons (ls_asg (js := [2]) (le_lst (la_cons le_str (la_cons le_str (la_cons le_str (la_cons le_str (la_cons le_str (la_cons le_str (la_cons le_str (la_cons le_str (la_cons le_str (la_cons le_str (la_cons le_str (la_cons le_str (la_cons le_str (la_cons le_str la_nil))))))))))))))) (lg_name (pg_name (i := 2) sc__law_names.nd rfl (by first | exact Or.inl rfl | exact Or.inr rfl))))
  (lss_one (ls_ret (leh_call (ok__law_some T) (hr.mono (by decide)) rfl T.g__law_some (la_cons (le_var (pv 0)) (la_cons (le_var (pv 2)) (la_cons (le_var (pv 1)) la_nil))))))))
theorem sc__law_pot : FnScope ["_law_script", "_law_k", "_law_cell", "_law_own", "_law_small"] ["_law_script", "_law_k"] (defScope s__law_pot) := ⟨rfl, rfl, rfl, by decide +kernel, rfl, by decide +kernel, by decide +kernel⟩
theorem ok__law_pot (T : Fx K mg) : Has P w K mg base 1 (He.ga K "_law_pot") ["_law_script", "_law_k"] m__law_pot := show Has P w K mg base 1 (He.ga K "_law_pot") ["_law_script", "_law_k"] (fnBody 2 5 b__law_pot) from has_of (N := ["_law_script", "_law_k", "_law_cell", "_law_own", "_law_small"]) (by kernel_rfl) (by kernel_rfl) T.d__law_pot sc__law_pot (fun _ _ _ _ _ _ us hl => match us, hl with | [_, _], _ => rfl) (fun cdv A outer s H E hr =>
  (lss_cons (ls_asg (js := [2]) (DL.le_if (lt_cmp o2_lt (le_var (pv 1)) (le_cb oc_len rfl T.n_len boot_len (la_cons (le_var (pv 0)) la_nil)) (nomark _)) (le_item (oi_ix (room_un hr 9)) (le_var (pv 0)) (le_var (pv 1))) (le_bin o2_add (le_bin o2_mulA le_int (le_var (pv 1))) le_int)) (lg_name (pg_name (i := 2) sc__law_pot.nd rfl (by first | exact Or.inl rfl | exact Or.inr rfl))))
  (lss_cons (ls_asg (js := [3]) (le_bin o2_mulA (le_bin o2_mod (le_ct oc_int rfl T.n_int boot_int (la_cons (le_cb oc_abs rfl T.n_abs boot_abs (la_cons (le_var (pv 2)) la_nil)) la_nil)) (le_bin o2_pow (le_bin o2_pow le_int le_int) le_int)) (le_ct oc_int rfl T.n_int boot_int (la_cons (le_cmp o2_ge (le_cb oc_abs rfl T.n_abs boot_abs (la_cons (le_var (pv 2)) la_nil)) (le_bin o2_pow le_int le_int) (nomark _)) la_nil))) (lg_name (pg_name (i := 3) sc__law_pot.nd rfl (by first | exact Or.inl rfl | exact Or.inr rfl))))
  (lss_cons (ls_asg (js := [4]) (le_bin o2_mod (le_ct oc_int rfl T.n_int boot_int (la_cons (le_var (pv 2)) la_nil)) le_int) (lg_name (pg_name (i := 4) sc__law_pot.nd rfl (by first | exact Or.inl rfl | exact Or.inr rfl))))
  (lss_one (ls_ret (le_lst (la_cons (le_var (pv 3)) (la_cons (le_bin o2_mod (le_ct oc_int rfl T.n_int boot_int (la_cons (le_bin o2_add (le_bin o2_add (le_bin o2_mulA (le_var (pv 4)) le_int) (le_bin o2_mulA (le_bin o2_mulA le_int (le_var (pv 1))) (le_var (pv 1)))) le_int) la_nil)) le_int) (la_cons le_int la_nil))))))))))
theorem sc_ReadingD_initD : FnScope ["self"] ["self"] (defScope s_ReadingD_initD) := ⟨rfl, rfl, rfl, by decide +kernel, rfl, by decide +kernel, by decide +kernel⟩
theorem ok_ReadingD_initD (T : Fx K mg) : Has P w K mg base 1 (He.ma K aC_Reading "__init__") ["self"] m_ReadingD_initD := show Has P w K mg base 1 (He.ma K aC_Reading "__init__") ["self"] (fnBody 1 1 b_ReadingD_initD) from has_of (N := ["self"]) (by kernel_rfl) (by kernel_rfl) T.d_ReadingD_initD sc_ReadingD_initD (fun _ _ _ _ _ _ us hl => match us, hl with | [_], _ => rfl) (fun cdv A outer s H E hr =>
  (lss_cons (ls_fld (le_var (pv 0)) le_newD T.c_Reading T.na_Reading_named_words)
  (lss_cons (ls_fld (le_var (pv 0)) le_newD T.c_Reading T.na_Reading_named_joints)
  (lss_one (ls_fld (le_var (pv 0)) le_newD T.c_Reading T.na_Reading_named_metres)))))
theorem sc_is_made_of : FnScope ["word", "signs", "sign"] ["word", "signs"] (defScope s_is_made_of) := ⟨rfl, rfl, rfl, by decide +kernel, rfl, by decide +kernel, by decide +kernel⟩
theorem ok_is_made_of (T : Fx K mg) : Has P w K mg base 1 (He.ga K "is_made_of") ["word", "signs"] m_is_made_of := show Has P w K mg base 1 (He.ga K "is_made_of") ["word", "signs"] (fnBody 2 3 b_is_made_of) from has_of (N := ["word", "signs", "sign"]) (by kernel_rfl) (by kernel_rfl) T.d_is_made_of sc_is_made_of (fun _ _ _ _ _ _ us hl => match us, hl with | [_, _], _ => rfl) (fun cdv A outer s H E hr =>
  (lss_one (ls_ret (DL.le_and (le_cmp (o2_neA (room_un hr 64)) (le_var (pv 0)) le_str (nomark _)) (le_one (le_cb (oc_all rfl) rfl T.n_all boot_all (la_cons (le_lc (js := [2]) (own := [("sign", 2)]) rfl sc_is_made_of.nd (li_itA (le_var (pv 0))) (blkOk_by (N := ["word", "signs", "sign"]) (sc := defScope s_is_made_of) (by decide +kernel)) (fun _ _ _ _ _ => (lg_name (pg_name (i := 2) sc_is_made_of.nd rfl (by first | exact Or.inl rfl | exact Or.inr rfl)))) (fun _ _ _ _ _ => lts_nil) (fun _ _ _ _ _ => (le_cmp (o2_in (room_un hr 65)) (le_var (pv 2)) (le_var (pv 1)) rfl)) (by decide)) la_nil)))))))
theorem sc_is_name : FnScope ["word"] ["word"] (defScope s_is_name) := ⟨rfl, rfl, rfl, by decide +kernel, rfl, by decide +kernel, by decide +kernel⟩
theorem ok_is_name (T : Fx K mg) : Has P w K mg base 2 (He.ga K "is_name") ["word"] m_is_name := show Has P w K mg base 2 (He.ga K "is_name") ["word"] (fnBody 1 1 b_is_name) from has_of (N := ["word"]) (by kernel_rfl) (by kernel_rfl) T.d_is_name sc_is_name (fun _ _ _ _ _ _ us hl => match us, hl with | [_], _ => rfl) (fun cdv A outer s H E hr =>
  (lss_one (ls_ret (DL.le_and (le_cmp o2_le (le_cb oc_len rfl T.n_len boot_len (la_cons (le_var (pv 0)) la_nil)) (le_const (v := .int _) rfl T.i_MOST_SIGNS fun _ _ => .int _) (nomark _)) (le_one (leh_call (ok_is_made_of T).apart (hr.mono (by decide)) rfl T.g_is_made_of (la_cons (le_var (pv 0)) (la_cons (le_const (v := .str _) rfl T.s_LETTERS fun _ _ => .str _) la_nil))))))))
theorem sc_Reading_take_word : FnScope ["self", "words", "is_late", "name", "head", "signs", "end", "unknown", "row"] ["self", "words"] (defScope s_Reading_take_word) := ⟨rfl, rfl, rfl, by decide +kernel, rfl, by decide +kernel, by decide +kernel⟩
theorem ok_Reading_take_word (T : Fx K mg) : Has P w K mg base 3 (He.ma K aC_Reading "take_word") ["self", "words"] m_Reading_take_word := show Has P w K mg base 3 (He.ma K aC_Reading "take_word") ["self", "words"] (fnBody 2 9 b_Reading_take_word) from has_of (N := ["self", "words", "is_late", "name", "head", "signs", "end", "unknown", "row"]) (by kernel_rfl) (by kernel_rfl) T.d_Reading_take_word sc_Reading_take_word (fun _ _ _ _ _ _ us hl => match us, hl with | [_, _], _ => rfl) (fun cdv A outer s H E hr =>
  (lss_cons (ls_asg (js := [2]) (DL.le_or (le_cmp (o2_neA (room_un hr 64)) (le_fld (le_var (pv 0)) T.c_Reading T.na_Reading_named_joints) le_newD (nomark _)) (le_one (le_cmp (o2_neA (room_un hr 64)) (le_fld (le_var (pv 0)) T.c_Reading T.na_Reading_named_metres) le_newD (nomark _)))) (lg_name (pg_name (i := 2) sc_Reading_take_word.nd rfl (by first | exact Or.inl rfl | exact Or.inr rfl))))
  (lss_cons (ls_if (lt_w (lw_or (lt_cmp (o2_neA (room_un hr 64)) (le_cb oc_len rfl T.n_len boot_len (la_cons (le_var (pv 1)) la_nil)) (le_const (v := .int _) rfl T.i_WORD_SIZE fun _ _ => .int _) (nomark _)) (lw_or (lt_cmp (o2_eqA (room_un hr 64)) (le_cb oc_len rfl T.n_len boot_len (la_cons (le_fld (le_var (pv 0)) T.c_Reading T.na_Reading_named_words) la_nil)) (le_const (v := .int _) rfl T.i_MOST_WORDS fun _ _ => .int _) (nomark _)) (lw_or1 (lt_tru (le_var (pv 2)) fun _ => rfl))))) (lss_one (ls_ret le_bl)) lss_nil)
  (lss_cons (ls_asg (js := [3, 4, 5, 6]) (le_cut (le_var (pv 1)) (lo_some le_int) lo_none) (lg_tup (js := [3, 4, 5, 6]) (n := 4) rfl (lgs_cons (LG.wide (js := [3]) (lg_name (pg_name (i := 3) sc_Reading_take_word.nd rfl (by first | exact Or.inl rfl | exact Or.inr rfl))) (by decide)) (lgs_cons (LG.wide (js := [4]) (lg_name (pg_name (i := 4) sc_Reading_take_word.nd rfl (by first | exact Or.inl rfl | exact Or.inr rfl))) (by decide)) (lgs_cons (LG.wide (js := [5]) (lg_name (pg_name (i := 5) sc_Reading_take_word.nd rfl (by first | exact Or.inl rfl | exact Or.inr rfl))) (by decide)) (lgs_cons (LG.wide (js := [6]) (lg_name (pg_name (i := 6) sc_Reading_take_word.nd rfl (by first | exact Or.inl rfl | exact Or.inr rfl))) (by decide)) lgs_nil))))))
  (lss_cons (ls_if (lt_w (lw_or (lt_not (lt_tru (leh_call (ok_is_name T).apart (hr.mono (by decide)) rfl T.g_is_name (la_cons (le_var (pv 3)) la_nil)) fun _ => rfl)) (lw_or (lt_cmp (o2_in (room_un hr 65)) (le_var (pv 3)) (le_fld (le_var (pv 0)) T.c_Reading T.na_Reading_named_words) rfl) (lw_or (lt_cmp (o2_notin (room_un hr 65)) (le_var (pv 4)) (le_ct (oc_tupleA rfl) rfl T.n_tuple boot_tuple (la_cons (le_const (v := .str _) rfl T.s_LETTERS fun _ _ => .str _) la_nil)) rfl) (lw_or1 (lt_cmp (o2_notin (room_un hr 65)) (le_var (pv 6)) (le_ct (oc_tupleA rfl) rfl T.n_tuple boot_tuple (la_cons (le_const (v := .str _) rfl T.s_LETTERS fun _ _ => .str _) la_nil)) rfl)))))) (lss_one (ls_ret le_bl)) lss_nil)
  (lss_cons (ls_if (lt_w (lw_or (lt_not (lt_tru (leh_call (ok_is_made_of T).apart (hr.mono (by decide)) rfl T.g_is_made_of (la_cons (le_var (pv 5)) (la_cons (le_tup (la_cons (le_const (v := .str _) rfl T.s_LONG fun _ _ => .str _) (la_cons (le_const (v := .str _) rfl T.s_SHORT fun _ _ => .str _) (la_cons (le_const (v := .str _) rfl T.s_UNKNOWN fun _ _ => .str _) la_nil)))) la_nil))) fun _ => rfl)) (lw_or1 (lt_cmp o2_gt (le_cb oc_len rfl T.n_len boot_len (la_cons (le_var (pv 5)) la_nil)) (le_const (v := .int _) rfl T.i_MOST_SYLLABLES fun _ _ => .int _) (nomark _))))) (lss_one (ls_ret le_bl)) lss_nil)
  (lss_cons (ls_asg (js := [7]) (le_cb (oc_sum rfl) rfl T.n_sum boot_sum (la_cons (le_lc (js := [8]) (own := [("row", 8)]) rfl sc_Reading_take_word.nd (li_vals (le_fld (le_var (pv 0)) T.c_Reading T.na_Reading_named_words)) (blkOk_by (N := ["self", "words", "is_late", "name", "head", "signs", "end", "unknown", "row"]) (sc := defScope s_Reading_take_word) (by decide +kernel)) (fun _ _ _ _ _ => (lg_name (pg_name (i := 8) sc_Reading_take_word.nd rfl (by first | exact Or.inl rfl | exact Or.inr rfl)))) (fun _ _ _ _ _ => lts_nil) (fun _ _ _ _ _ => (le_m ty_str PySem.F.plainAttrs_str PySem.F.slot_str_count PySem.F.type_str_count om_count (le_item (oi_ix (room_un hr 9)) (le_var (pv 8)) le_int) (la_cons (le_const (v := .str _) rfl T.s_UNKNOWN fun _ _ => .str _) la_nil))) (by decide)) la_nil)) (lg_name (pg_name (i := 7) sc_Reading_take_word.nd rfl (by first | exact Or.inl rfl | exact Or.inr rfl))))
  (lss_cons (ls_if (lt_cmp o2_gt (le_bin o2_add (le_var (pv 7)) (le_m ty_str PySem.F.plainAttrs_str PySem.F.slot_str_count PySem.F.type_str_count om_count (le_var (pv 5)) (la_cons (le_const (v := .str _) rfl T.s_UNKNOWN fun _ _ => .str _) la_nil))) (le_const (v := .int _) rfl T.i_MOST_UNKNOWN fun _ _ => .int _) (nomark _)) (lss_one (ls_ret le_bl)) lss_nil)
  (lss_cons (ls_asg (js := []) (le_tup (la_cons (le_var (pv 4)) (la_cons (le_var (pv 5)) (la_cons (le_var (pv 6)) la_nil)))) (lg_item (room_un hr 9) (le_fld (le_var (pv 0)) T.c_Reading T.na_Reading_named_words) (le_var (pv 3))))
  (lss_one (ls_ret le_bl)))))))))))
theorem sc_Reading_take_joint : FnScope ["self", "words", "is_out", "end", "head", "what"] ["self", "words"] (defScope s_Reading_take_joint) := ⟨rfl, rfl, rfl, by decide +kernel, rfl, by decide +kernel, by decide +kernel⟩
theorem ok_Reading_take_joint (T : Fx K mg) : Has P w K mg base 1 (He.ma K aC_Reading "take_joint") ["self", "words"] m_Reading_take_joint := show Has P w K mg base 1 (He.ma K aC_Reading "take_joint") ["self", "words"] (fnBody 2 6 b_Reading_take_joint) from has_of (N := ["self", "words", "is_out", "end", "head", "what"]) (by kernel_rfl) (by kernel_rfl) T.d_Reading_take_joint sc_Reading_take_joint (fun _ _ _ _ _ _ us hl => match us, hl with | [_, _], _ => rfl) (fun cdv A outer s H E hr =>
  (lss_cons (ls_asg (js := [2]) (DL.le_or (le_cmp (o2_eqA (room_un hr 64)) (le_fld (le_var (pv 0)) T.c_Reading T.na_Reading_named_words) le_newD (nomark _)) (le_one (le_cmp (o2_neA (room_un hr 64)) (le_fld (le_var (pv 0)) T.c_Reading T.na_Reading_named_metres) le_newD (nomark _)))) (lg_name (pg_name (i := 2) sc_Reading_take_joint.nd rfl (by first | exact Or.inl rfl | exact Or.inr rfl))))
  (lss_cons (ls_if (lt_w (lw_or (lt_cmp (o2_neA (room_un hr 64)) (le_cb oc_len rfl T.n_len boot_len (la_cons (le_var (pv 1)) la_nil)) (le_const (v := .int _) rfl T.i_JOINT_SIZE fun _ _ => .int _) (nomark _)) (lw_or (lt_cmp (o2_eqA (room_un hr 64)) (le_cb oc_len rfl T.n_len boot_len (la_cons (le_fld (le_var (pv 0)) T.c_Reading T.na_Reading_named_joints) la_nil)) (le_const (v := .int _) rfl T.i_MOST_JOINTS fun _ _ => .int _) (nomark _)) (lw_or1 (lt_tru (le_var (pv 2)) fun _ => rfl))))) (lss_one (ls_ret le_bl)) lss_nil)
  (lss_cons (ls_asg (js := [3, 4, 5]) (le_cut (le_var (pv 1)) (lo_some le_int) lo_none) (lg_tup (js := [3, 4, 5]) (n := 3) rfl (lgs_cons (LG.wide (js := [3]) (lg_name (pg_name (i := 3) sc_Reading_take_joint.nd rfl (by first | exact Or.inl rfl | exact Or.inr rfl))) (by decide)) (lgs_cons (LG.wide (js := [4]) (lg_name (pg_name (i := 4) sc_Reading_take_joint.nd rfl (by first | exact Or.inl rfl | exact Or.inr rfl))) (by decide)) (lgs_cons (LG.wide (js := [5]) (lg_name (pg_name (i := 5) sc_Reading_take_joint.nd rfl (by first | exact Or.inl rfl | exact Or.inr rfl))) (by decide)) lgs_nil)))))
  (lss_cons (ls_if (lt_w (lw_or (lt_cmp (o2_notin (room_un hr 65)) (le_var (pv 3)) (le_ct (oc_tupleA rfl) rfl T.n_tuple boot_tuple (la_cons (le_const (v := .str _) rfl T.s_LETTERS fun _ _ => .str _) la_nil)) rfl) (lw_or (lt_cmp (o2_notin (room_un hr 65)) (le_var (pv 4)) (le_ct (oc_tupleA rfl) rfl T.n_tuple boot_tuple (la_cons (le_const (v := .str _) rfl T.s_LETTERS fun _ _ => .str _) la_nil)) rfl) (lw_or1 (lt_cmp (o2_notin (room_un hr 65)) (le_var (pv 5)) (le_tup (la_cons (le_const (v := .str _) rfl T.s_DROP fun _ _ => .str _) (la_cons (le_const (v := .str _) rfl T.s_MAY fun _ _ => .str _) (la_cons (le_const (v := .str _) rfl T.s_STRETCH fun _ _ => .str _) la_nil)))) rfl))))) (lss_one (ls_ret le_bl)) lss_nil)
  (lss_cons (ls_if (lt_cmp (o2_in (room_un hr 65)) (le_tup (la_cons (le_var (pv 3)) (la_cons (le_var (pv 4)) la_nil))) (le_fld (le_var (pv 0)) T.c_Reading T.na_Reading_named_joints) rfl) (lss_one (ls_ret le_bl)) lss_nil)
  (lss_cons (ls_asg (js := []) (le_var (pv 5)) (lg_item (room_un hr 9) (le_fld (le_var (pv 0)) T.c_Reading T.na_Reading_named_joints) (le_tup (la_cons (le_var (pv 3)) (la_cons (le_var (pv 4)) la_nil)))))
  (lss_one (ls_ret le_bl)))))))))
theorem sc_forms_in : FnScope ["text", "forms", "form"] ["text"] (defScope s_forms_in) := ⟨rfl, rfl, rfl, by decide +kernel, rfl, by decide +kernel, by decide +kernel⟩
theorem ok_forms_in (T : Fx K mg) : Has P w K mg base 2 (He.ga K "forms_in") ["text"] m_forms_in := show Has P w K mg base 2 (He.ga K "forms_in") ["text"] (fnBody 1 3 b_forms_in) from has_of (N := ["text", "forms", "form"]) (by kernel_rfl) (by kernel_rfl) T.d_forms_in sc_forms_in (fun _ _ _ _ _ _ us hl => match us, hl with | [_], _ => rfl) (fun cdv A outer s H E hr =>
  (lss_cons (ls_asg (js := [1]) (le_m ty_str PySem.F.plainAttrs_str PySem.F.slot_str_split PySem.F.type_str_split om_split (le_var (pv 0)) (la_cons (le_const (v := .str _) rfl T.s_SLASH fun _ _ => .str _) la_nil)) (lg_name (pg_name (i := 1) sc_forms_in.nd rfl (by first | exact Or.inl rfl | exact Or.inr rfl))))
  (lss_cons (ls_if (lt_w (lw_or (lt_cmp o2_gt (le_cb oc_len rfl T.n_len boot_len (la_cons (le_var (pv 1)) la_nil)) (le_const (v := .int _) rfl T.i_MOST_FORMS fun _ _ => .int _) (nomark _)) (lw_or1 (lt_cmp o2_lt (le_lenSet rfl rfl T.n_len rfl T.n_set (le_var (pv 1))) (le_cb oc_len rfl T.n_len boot_len (la_cons (le_var (pv 1)) la_nil)) (nomark _))))) (lss_one (ls_ret le_non)) lss_nil)
  (lss_cons (ls_for (js := [2]) PassesOwn.never rfl (li_itA (le_var (pv 1))) (lg_name (pg_name (i := 2) sc_forms_in.nd rfl (by first | exact Or.inl rfl | exact Or.inr rfl))) (lss_one (ls_if (lt_w (lw_or (lt_cmp o2_gt (le_cb oc_len rfl T.n_len boot_len (la_cons (le_var (pv 2)) la_nil)) (le_const (v := .int _) rfl T.i_MOST_SYLLABLES fun _ _ => .int _) (nomark _)) (lw_or1 (lt_not (lt_tru (leh_call (ok_is_made_of T).apart (hr.mono (by decide)) rfl T.g_is_made_of (la_cons (le_var (pv 2)) (la_cons (le_tup (la_cons (le_const (v := .str _) rfl T.s_LONG fun _ _ => .str _) (la_cons (le_const (v := .str _) rfl T.s_SHORT fun _ _ => .str _) (la_cons (le_const (v := .str _) rfl T.s_EITHER fun _ _ => .str _) la_nil)))) la_nil))) fun _ => rfl))))) (lss_one (ls_ret le_non)) lss_nil)))
  (lss_one (ls_ret (le_ct (oc_tupleA rfl) rfl T.n_tuple boot_tuple (la_cons (le_var (pv 1)) la_nil))))))))
theorem sc_parts_in : FnScope ["text", "many", "starred", "forms"] ["text"] (defScope s_parts_in) := ⟨rfl, rfl, rfl, by decide +kernel, rfl, by decide +kernel, by decide +kernel⟩
theorem ok_parts_in (T : Fx K mg) : Has P w K mg base 3 (He.ga K "parts_in") ["text"] m_parts_in := show Has P w K mg base 3 (He.ga K "parts_in") ["text"] (fnBody 1 4 b_parts_in) from has_of (N := ["text", "many", "starred", "forms"]) (by kernel_rfl) (by kernel_rfl) T.d_parts_in sc_parts_in (fun _ _ _ _ _ _ us hl => match us, hl with | [_], _ => rfl) (fun cdv A outer s H E hr =>
  (lss_cons (ls_if (lt_cmp (o2_in (room_un hr 65)) (le_var (pv 0)) (le_tup (la_cons (le_const (v := .str _) rfl T.s_ENDS fun _ _ => .str _) (la_cons (le_const (v := .str _) rfl T.s_AMID fun _ _ => .str _) la_nil))) rfl) (lss_one (ls_ret (le_tup (la_cons (le_var (pv 0)) la_nil)))) lss_nil)
  (lss_cons (ls_par (i := 1) (j := 2) rfl sc_parts_in.nd rfl rfl (by decide) rfl rfl (la_cons le_int (la_cons (le_cmp (o2_eqA (room_un hr 64)) (le_item (oi_ix (room_un hr 9)) (le_var (pv 0)) le_int) (le_const (v := .str _) rfl T.s_STAR fun _ _ => .str _) (nomark _)) la_nil)) rfl)
  (lss_cons (ls_if (lt_tru (le_var (pv 2)) fun _ => rfl) (lss_one (ls_asg (js := [0]) (le_cut (le_var (pv 0)) (lo_some le_int) lo_none) (lg_name (pg_name (i := 0) sc_parts_in.nd rfl (by first | exact Or.inl rfl | exact Or.inr rfl))))) (lss_one (ls_if (lt_w (lw_and (lt_cmp o2_gt (le_cb oc_len rfl T.n_len boot_len (la_cons (le_var (pv 0)) la_nil)) le_int (nomark _)) (lw_and (lt_cmp (o2_eqA (room_un hr 64)) (le_item (oi_ix (room_un hr 9)) (le_var (pv 0)) le_int) (le_const (v := .str _) rfl T.s_STAR fun _ _ => .str _) (nomark _)) (lw_and1 (lt_cmp (o2_in (room_un hr 65)) (le_item (oi_ix (room_un hr 9)) (le_var (pv 0)) le_int) (le_cut (le_const (v := .str _) rfl T.s_FIGURES fun _ _ => .str _) (lo_some le_int) lo_none) rfl))))) (lss_one (ls_par (i := 1) (j := 0) rfl sc_parts_in.nd rfl rfl (by decide) rfl rfl (la_cons (le_ct oc_int rfl T.n_int boot_int (la_cons (le_item (oi_ix (room_un hr 9)) (le_var (pv 0)) le_int) la_nil)) (la_cons (le_cut (le_var (pv 0)) (lo_some le_int) lo_none) la_nil)) rfl)) lss_nil)))
  (lss_cons (ls_asg (js := [3]) (leh_call (ok_forms_in T).apart (hr.mono (by decide)) rfl T.g_forms_in (la_cons (le_var (pv 0)) la_nil)) (lg_name (pg_name (i := 3) sc_parts_in.nd rfl (by first | exact Or.inl rfl | exact Or.inr rfl))))
  (lss_one (ls_ret (DL.le_if (lt_cmp o2_is (le_var (pv 3)) le_non (nomark _)) le_non (le_bin o2_mulA (le_tup (la_cons (le_tup (la_cons (le_var (pv 2)) (la_cons (le_var (pv 3)) la_nil))) la_nil)) (le_var (pv 1)))))))))))
theorem sc_metre_parts : FnScope ["words", "some", "found", "word", "row", "part"] ["words"] (defScope s_metre_parts) := ⟨rfl, rfl, rfl, by decide +kernel, rfl, by decide +kernel, by decide +kernel⟩
theorem ok_metre_parts (T : Fx K mg) : Has P w K mg base 4 (He.ga K "metre_parts") ["words"] m_metre_parts := show Has P w K mg base 4 (He.ga K "metre_parts") ["words"] (fnBody 1 6 b_metre_parts) from has_of (N := ["words", "some", "found", "word", "row", "part"]) (by kernel_rfl) (by kernel_rfl) T.d_metre_parts sc_metre_parts (fun _ _ _ _ _ _ us hl => match us, hl with | [_], _ => rfl) (fun cdv A outer s H E hr =>
  (lss_cons (ls_if (lt_not (lt_chain o2_le o2_le le_int (le_cb oc_len rfl T.n_len boot_len (la_cons (le_var (pv 0)) la_nil)) (le_const (v := .int _) rfl T.i_MOST_PARTS fun _ _ => .int _))) (lss_one (ls_ret le_non)) lss_nil)
  (lss_cons (ls_setLc (i := 1) (js := [3]) (own := [("word", 3)]) rfl sc_metre_parts.nd rfl rfl (sw_true rfl rfl rfl (by decide +kernel)) (li_itA (le_var (pv 0))) (blkOk_by (N := ["words", "some", "found", "word", "row", "part"]) (sc := defScope s_metre_parts) (by decide +kernel)) (fun _ _ _ _ _ => (lg_name (pg_name (i := 3) sc_metre_parts.nd rfl (by first | exact Or.inl rfl | exact Or.inr rfl)))) (fun _ _ _ _ _ => lts_nil) (fun _ _ _ _ _ => (leh_call (ok_parts_in T).apart (hr.mono (by decide)) rfl T.g_parts_in (la_cons (le_var (pv 3)) la_nil))) (by decide))
  (lss_cons (ls_if (lt_cmp (o2_in (room_un hr 65)) le_non (le_var (pv 1)) rfl) (lss_one (ls_ret le_non)) lss_nil)
  (lss_cons (ls_asg (js := [2]) (le_ct (oc_tupleA rfl) rfl T.n_tuple boot_tuple (la_cons (le_lc2 (js := [4]) (js1 := [5]) (own := [("row", 4), ("part", 5)]) (vs1 := [5]) rfl sc_metre_parts.nd (li_itA (le_var (pv 1))) (blkOk_by (N := ["words", "some", "found", "word", "row", "part"]) (sc := defScope s_metre_parts) (by decide +kernel)) (by decide) (fun _ _ _ _ _ => (lg_name (pg_name (i := 4) sc_metre_parts.nd rfl (by first | exact Or.inl rfl | exact Or.inr rfl)))) (fun _ _ _ _ _ => lts_nil) (fun _ _ _ _ _ => (li_itA (le_var (pv 4)))) (fun _ _ _ _ _ => (lg_name (pg_name (i := 5) sc_metre_parts.nd rfl (by first | exact Or.inl rfl | exact Or.inr rfl)))) (fun _ _ _ _ _ => lts_nil) (fun _ _ _ _ _ => (le_var (pv 5))) (by decide) (by decide)) la_nil)) (lg_name (pg_name (i := 2) sc_metre_parts.nd rfl (by first | exact Or.inl rfl | exact Or.inr rfl))))
  (lss_one (ls_ret (DL.le_if (lt_cmp o2_le (le_cb oc_len rfl T.n_len boot_len (la_cons (le_var (pv 2)) la_nil)) (le_const (v := .int _) rfl T.i_MOST_DRAWN_OUT fun _ _ => .int _) (nomark _)) (le_var (pv 2)) le_non))))))))
theorem sc_Reading_take_metre : FnScope ["self", "words", "parts"] ["self", "words"] (defScope s_Reading_take_metre) := ⟨rfl, rfl, rfl, by decide +kernel, rfl, by decide +kernel, by decide +kernel⟩
theorem ok_Reading_take_metre (T : Fx K mg) : Has P w K mg base 5 (He.ma K aC_Reading "take_metre") ["self", "words"] m_Reading_take_metre := show Has P w K mg base 5 (He.ma K aC_Reading "take_metre") ["self", "words"] (fnBody 2 3 b_Reading_take_metre) from has_of (N := ["self", "words", "parts"]) (by kernel_rfl) (by kernel_rfl) T.d_Reading_take_metre sc_Reading_take_metre (fun _ _ _ _ _ _ us hl => match us, hl with | [_, _], _ => rfl) (fun cdv A outer s H E hr =>
  (lss_cons (ls_if (lt_w (lw_or (lt_cmp o2_lt (le_cb oc_len rfl T.n_len boot_len (la_cons (le_var (pv 1)) la_nil)) (le_const (v := .int _) rfl T.i_METRE_SIZE fun _ _ => .int _) (nomark _)) (lw_or (lt_cmp (o2_eqA (room_un hr 64)) (le_cb oc_len rfl T.n_len boot_len (la_cons (le_fld (le_var (pv 0)) T.c_Reading T.na_Reading_named_metres) la_nil)) (le_const (v := .int _) rfl T.i_MOST_METRES fun _ _ => .int _) (nomark _)) (lw_or1 (lt_cmp (o2_eqA (room_un hr 64)) (le_fld (le_var (pv 0)) T.c_Reading T.na_Reading_named_words) le_newD (nomark _)))))) (lss_one (ls_ret le_bl)) lss_nil)
  (lss_cons (ls_asg (js := [2]) (leh_call (ok_metre_parts T) (hr.mono (by decide)) rfl T.g_metre_parts (la_cons (le_cut (le_var (pv 1)) (lo_some le_int) lo_none) la_nil)) (lg_name (pg_name (i := 2) sc_Reading_take_metre.nd rfl (by first | exact Or.inl rfl | exact Or.inr rfl))))
  (lss_cons (ls_if (lt_w (lw_or (lt_not (lt_tru (leh_call (ok_is_name T).apart (hr.mono (by decide)) rfl T.g_is_name (la_cons (le_item (oi_ix (room_un hr 9)) (le_var (pv 1)) le_int) la_nil)) fun _ => rfl)) (lw_or (lt_cmp (o2_in (room_un hr 65)) (le_item (oi_ix (room_un hr 9)) (le_var (pv 1)) le_int) (le_fld (le_var (pv 0)) T.c_Reading T.na_Reading_named_metres) rfl) (lw_or1 (lt_cmp o2_is (le_var (pv 2)) le_non (nomark _)))))) (lss_one (ls_ret le_bl)) lss_nil)
  (lss_cons (ls_asg (js := []) (le_var (pv 2)) (lg_item (room_un hr 9) (le_fld (le_var (pv 0)) T.c_Reading T.na_Reading_named_metres) (le_item (oi_ix (room_un hr 9)) (le_var (pv 1)) le_int)))
  (lss_one (ls_ret le_bl)))))))
theorem sc_Reading_take : FnScope ["self", "line", "words"] ["self", "line"] (defScope s_Reading_take) := ⟨rfl, rfl, rfl, by decide +kernel, rfl, by decide +kernel, by decide +kernel⟩
theorem ok_Reading_take (T : Fx K mg) : Has P w K mg base 6 (He.ma K aC_Reading "take") ["self", "line"] m_Reading_take := show Has P w K mg base 6 (He.ma K aC_Reading "take") ["self", "line"] (fnBody 2 3 b_Reading_take) from has_of (N := ["self", "line", "words"]) (by kernel_rfl) (by kernel_rfl) T.d_Reading_take sc_Reading_take (fun _ _ _ _ _ _ us hl => match us, hl with | [_, _], _ => rfl) (fun cdv A outer s H E hr =>
  (lss_cons (ls_asg (js := [2]) (le_m ty_str PySem.F.plainAttrs_str PySem.F.slot_str_split PySem.F.type_str_split om_split (le_var (pv 1)) (la_cons (le_const (v := .str _) rfl T.s_BLANK fun _ _ => .str _) la_nil)) (lg_name (pg_name (i := 2) sc_Reading_take.nd rfl (by first | exact Or.inl rfl | exact Or.inr rfl))))
  (lss_cons (ls_if (lt_cmp (o2_in (room_un hr 65)) le_str (le_var (pv 2)) rfl) (lss_one (ls_ret le_bl)) lss_nil)
  (lss_cons (ls_if (lt_cmp (o2_eqA (room_un hr 64)) (le_item (oi_ix (room_un hr 9)) (le_var (pv 2)) le_int) (le_const (v := .str _) rfl T.s_WORD fun _ _ => .str _) (nomark _)) (lss_one (ls_ret (leh_meth (pl := _) (le_var (pv 0)) T.c_Reading T.m_Reading_take_word (ok_Reading_take_word T) (hr.mono (by decide)) (la_cons (le_var (pv 2)) la_nil)))) lss_nil)
  (lss_cons (ls_if (lt_cmp (o2_eqA (room_un hr 64)) (le_item (oi_ix (room_un hr 9)) (le_var (pv 2)) le_int) (le_const (v := .str _) rfl T.s_JOINT fun _ _ => .str _) (nomark _)) (lss_one (ls_ret (leh_meth (pl := _) (le_var (pv 0)) T.c_Reading T.m_Reading_take_joint (ok_Reading_take_joint T) (hr.mono (by decide)) (la_cons (le_var (pv 2)) la_nil)))) lss_nil)
  (lss_one (ls_ret (DL.le_and (le_cmp (o2_eqA (room_un hr 64)) (le_item (oi_ix (room_un hr 9)) (le_var (pv 2)) le_int) (le_const (v := .str _) rfl T.s_METRE fun _ _ => .str _) (nomark _)) (le_one (leh_meth (pl := _) (le_var (pv 0)) T.c_Reading T.m_Reading_take_metre (ok_Reading_take_metre T) (hr.mono (by decide)) (la_cons (le_var (pv 2)) la_nil)))))))))))
theorem sc_read_lines : FnScope ["text", "lines", "found", "number", "line"] ["text"] (defScope s_read_lines) := ⟨rfl, rfl, rfl, by decide +kernel, rfl, by decide +kernel, by decide +kernel⟩
theorem ok_read_lines (T : Fx K mg) : Has P w K mg base 7 (He.ga K "read_lines") ["text"] m_read_lines := show Has P w K mg base 7 (He.ga K "read_lines") ["text"] (fnBody 1 5 b_read_lines) from has_of (N := ["text", "lines", "found", "number", "line"]) (by kernel_rfl) (by kernel_rfl) T.d_read_lines sc_read_lines (fun _ _ _ _ _ _ us hl => match us, hl with | [_], _ => rfl) (fun cdv A outer s H E hr =>
  (lss_cons (ls_if (lt_not (lt_tru (le_isi (v0 := .ty "str") (isiB_of (n := .str) (cs := []) (.inr (.inl rfl)) (by simp)) (fun u h => h) rfl T.n_isinstance (le_var (pv 0)) (pe_bltn rfl T.n_str boot_str rfl)) fun _ => rfl)) (lss_one ls_never) lss_nil)
  (lss_cons (ls_par (i := 1) (j := 2) rfl sc_read_lines.nd rfl rfl (by decide) rfl rfl (la_cons (le_m ty_str PySem.F.plainAttrs_str PySem.F.slot_str_split PySem.F.type_str_split om_split (le_var (pv 0)) (la_cons (le_const (v := .str _) rfl T.s_FEED fun _ _ => .str _) la_nil)) (la_cons (leh_make0 T.mk_Reading (ok_ReadingD_initD T) (hr.mono (by decide)) rfl T.g_Reading) la_nil)) rfl)
  (lss_cons (ls_for (js := [3, 4]) PassesOwn.never rfl (li_enum rfl T.n_enumerate (le_var (pv 1))) (lg_tup (js := [3, 4]) (n := 2) rfl (lgs_cons (LG.wide (js := [3]) (lg_name (pg_name (i := 3) sc_read_lines.nd rfl (by first | exact Or.inl rfl | exact Or.inr rfl))) (by decide)) (lgs_cons (LG.wide (js := [4]) (lg_name (pg_name (i := 4) sc_read_lines.nd rfl (by first | exact Or.inl rfl | exact Or.inr rfl))) (by decide)) lgs_nil))) (lss_one (ls_if (lt_not (lt_tru (leh_meth (pl := _) (le_var (pv 2)) T.c_Reading T.m_Reading_take (ok_Reading_take T) (hr.mono (by decide)) (la_cons (le_var (pv 4)) la_nil)) fun _ => rfl)) (lss_one ls_never) lss_nil)))
  (lss_cons (ls_if (lt_cmp (o2_eqA (room_un hr 64)) (le_fld (le_var (pv 2)) T.c_Reading T.na_Reading_named_metres) le_newD (nomark _)) (lss_one ls_never) lss_nil)
  (lss_one (ls_ret (le_var (pv 2)))))))))
theorem sc_TongueD_initD : FnScope ["self", "text", "reading", "found", "name", "row", "at", "sign"] ["self", "text"] (defScope s_TongueD_initD) := ⟨rfl, rfl, rfl, by decide +kernel, rfl, by decide +kernel, by decide +kernel⟩
theorem ok_TongueD_initD (T : Fx K mg) : Has P w K mg base 8 (He.ma K aC_Tongue "__init__") ["self", "text"] m_TongueD_initD := show Has P w K mg base 8 (He.ma K aC_Tongue "__init__") ["self", "text"] (fnBody 2 8 b_TongueD_initD) from has_of (N := ["self", "text", "reading", "found", "name", "row", "at", "sign"]) (by kernel_rfl) (by kernel_rfl) T.d_TongueD_initD sc_TongueD_initD (fun _ _ _ _ _ _ us hl => match us, hl with | [_, _], _ => rfl) (fun cdv A outer s H E hr =>
  (lss_cons (ls_asg (js := [2]) (leh_call (ok_read_lines T) (hr.mono (by decide)) rfl T.g_read_lines (la_cons (le_var (pv 1)) la_nil)) (lg_name (pg_name (i := 2) sc_TongueD_initD.nd rfl (by first | exact Or.inl rfl | exact Or.inr rfl))))
  (lss_cons (ls_fld (le_var (pv 0)) (le_var (pv 1)) T.c_Tongue T.na_Tongue_own_text)
  (lss_cons (ls_fld (le_var (pv 0)) (le_fld (le_var (pv 2)) T.c_Reading T.na_Reading_named_words) T.c_Tongue T.na_Tongue_own_words)
  (lss_cons (ls_fld (le_var (pv 0)) (le_ct (oc_tupleA rfl) rfl T.n_tuple boot_tuple (la_cons (le_ct (oc_listB rfl) rfl T.n_list boot_list (la_cons (le_fld (le_var (pv 2)) T.c_Reading T.na_Reading_named_words) la_nil)) la_nil)) T.c_Tongue T.na_Tongue_own_names)
  (lss_cons (ls_fld (le_var (pv 0)) (le_fld (le_var (pv 2)) T.c_Reading T.na_Reading_named_joints) T.c_Tongue T.na_Tongue_own_joints)
  (lss_cons (ls_fld (le_var (pv 0)) (le_fld (le_var (pv 2)) T.c_Reading T.na_Reading_named_metres) T.c_Tongue T.na_Tongue_own_metres)
  (lss_cons (ls_asg (js := [3]) (le_lst la_nil) (lg_name (pg_name (i := 3) sc_TongueD_initD.nd rfl (by first | exact Or.inl rfl | exact Or.inr rfl))))
  (lss_cons (ls_for (js := [4, 5]) PassesOwn.never rfl (li_items (le_fld (le_var (pv 2)) T.c_Reading T.na_Reading_named_words)) (lg_tup (js := [4, 5]) (n := 2) rfl (lgs_cons (LG.wide (js := [4]) (lg_name (pg_name (i := 4) sc_TongueD_initD.nd rfl (by first | exact Or.inl rfl | exact Or.inr rfl))) (by decide)) (lgs_cons (LG.wide (js := [5]) (lg_name (pg_name (i := 5) sc_TongueD_initD.nd rfl (by first | exact Or.inl rfl | exact Or.inr rfl))) (by decide)) lgs_nil))) (lss_one (ls_expr (le_m ty_lst PySem.F.plainAttrs_list PySem.F.slot_list_extend PySem.F.type_list_extend om_extend (le_var (pv 3)) (la_cons (le_lc (js := [6, 7]) (own := [("at", 6), ("sign", 7)]) rfl sc_TongueD_initD.nd (li_enum rfl T.n_enumerate (le_item (oi_ix (room_un hr 9)) (le_var (pv 5)) le_int)) (blkOk_by (N := ["self", "text", "reading", "found", "name", "row", "at", "sign"]) (sc := defScope s_TongueD_initD) (by decide +kernel)) (fun _ _ _ _ _ => (lg_tup (js := [6, 7]) (n := 2) rfl (lgs_cons (LG.wide (js := [6]) (lg_name (pg_name (i := 6) sc_TongueD_initD.nd rfl (by first | exact Or.inl rfl | exact Or.inr rfl))) (by decide)) (lgs_cons (LG.wide (js := [7]) (lg_name (pg_name (i := 7) sc_TongueD_initD.nd rfl (by first | exact Or.inl rfl | exact Or.inr rfl))) (by decide)) lgs_nil)))) (fun _ _ _ _ _ => (lts_one (lt_cmp (o2_eqA (room_un hr 64)) (le_var (pv 7)) (le_const (v := .str _) rfl T.s_UNKNOWN fun _ _ => .str _) (nomark _)))) (fun _ _ _ _ _ => (le_tup (la_cons (le_var (pv 4)) (la_cons (le_var (pv 6)) la_nil)))) (by decide)) la_nil)))))
  (lss_one (ls_fld (le_var (pv 0)) (le_ct (oc_tupleA rfl) rfl T.n_tuple boot_tuple (la_cons (le_var (pv 3)) la_nil)) T.c_Tongue T.na_Tongue_own_unknown)))))))))))
theorem sc_Tongue_unknown : FnScope ["self"] ["self"] (defScope s_Tongue_unknown) := ⟨rfl, rfl, rfl, by decide +kernel, rfl, by decide +kernel, by decide +kernel⟩
theorem ok_Tongue_unknown (T : Fx K mg) : Has P w K mg base 1 (getterOf K aC_Tongue "unknown") ["self"] m_Tongue_unknown := show Has P w K mg base 1 (getterOf K aC_Tongue "unknown") ["self"] (fnBody 1 1 b_Tongue_unknown) from has_of (N := ["self"]) (by kernel_rfl) (by kernel_rfl) T.d_Tongue_unknown sc_Tongue_unknown (fun _ _ _ _ _ _ us hl => match us, hl with | [_], _ => rfl) (fun cdv A outer s H E hr =>
  (lss_one (ls_ret (le_fld (le_var (pv 0)) T.c_Tongue T.na_Tongue_own_unknown))))
theorem sc_is_measure : FnScope ["tongue", "value"] ["tongue", "value"] (defScope s_is_measure) := ⟨rfl, rfl, rfl, by decide +kernel, rfl, by decide +kernel, by decide +kernel⟩
theorem ok_is_measure (T : Fx K mg) : Has P w K mg base 3 (He.ga K "is_measure") ["tongue", "value"] m_is_measure := show Has P w K mg base 3 (He.ga K "is_measure") ["tongue", "value"] (fnBody 2 2 b_is_measure) from has_of (N := ["tongue", "value"]) (by kernel_rfl) (by kernel_rfl) T.d_is_measure sc_is_measure (fun _ _ _ _ _ _ us hl => match us, hl with | [_, _], _ => rfl) (fun cdv A outer s H E hr =>
  (lss_cons (ls_if (lt_w (lw_or (lt_not (lt_tru (le_isi (v0 := .ty "str") (isiB_of (n := .str) (cs := []) (.inr (.inl rfl)) (by simp)) (fun u h => h) rfl T.n_isinstance (le_var (pv 1)) (pe_bltn rfl T.n_str boot_str rfl)) fun _ => rfl)) (lw_or1 (lt_cmp (o2_neA (room_un hr 64)) (le_cb oc_len rfl T.n_len boot_len (la_cons (le_var (pv 1)) la_nil)) (le_cb oc_len rfl T.n_len boot_len (la_cons (leh_prop (le_var (pv 0)) T.c_Tongue T.p_Tongue_unknown (ok_Tongue_unknown T) (hr.mono (by decide))) la_nil)) (nomark _))))) (lss_one (ls_ret le_bl)) lss_nil)
  (lss_one (ls_ret (DL.le_or (le_cmp (o2_eqA (room_un hr 64)) (le_var (pv 1)) le_str (nomark _)) (le_one (leh_call (ok_is_made_of T).apart (hr.mono (by decide)) rfl T.g_is_made_of (la_cons (le_var (pv 1)) (la_cons (le_tup (la_cons (le_const (v := .str _) rfl T.s_LONG fun _ _ => .str _) (la_cons (le_const (v := .str _) rfl T.s_SHORT fun _ _ => .str _) la_nil))) la_nil)))))))))
theorem sc_check_measure : FnScope ["tongue", "value"] ["tongue", "value"] (defScope s_check_measure) := ⟨rfl, rfl, rfl, by decide +kernel, rfl, by decide +kernel, by decide +kernel⟩
theorem ok_check_measure (T : Fx K mg) : Has P w K mg base 4 (He.ga K "check_measure") ["tongue", "value"] m_check_measure := show Has P w K mg base 4 (He.ga K "check_measure") ["tongue", "value"] (fnBody 2 2 b_check_measure) from has_of (N := ["tongue", "value"]) (by kernel_rfl) (by kernel_rfl) T.d_check_measure sc_check_measure (fun _ _ _ _ _ _ us hl => match us, hl with | [_, _], _ => rfl) (fun cdv A outer s H E hr =>
  (lss_one (ls_if (lt_not (lt_tru (leh_call (ok_is_measure T) (hr.mono (by decide)) rfl T.g_is_measure (la_cons (le_var (pv 0)) (la_cons (le_var (pv 1)) la_nil))) fun _ => rfl)) (lss_one ls_never) lss_nil)))
theorem sc_is_word : FnScope ["value", "words"] ["value", "words"] (defScope s_is_word) := ⟨rfl, rfl, rfl, by decide +kernel, rfl, by decide +kernel, by decide +kernel⟩
theorem ok_is_word (T : Fx K mg) : Has P w K mg base 1 (He.ga K "is_word") ["value", "words"] m_is_word := show Has P w K mg base 1 (He.ga K "is_word") ["value", "words"] (fnBody 2 2 b_is_word) from has_of (N := ["value", "words"]) (by kernel_rfl) (by kernel_rfl) T.d_is_word sc_is_word (fun _ _ _ _ _ _ us hl => match us, hl with | [_, _], _ => rfl) (fun cdv A outer s H E hr =>
  (lss_one (ls_ret (DL.le_and (le_isi (v0 := .ty "str") (isiB_of (n := .str) (cs := []) (.inr (.inl rfl)) (by simp)) (fun u h => h) rfl T.n_isinstance (le_var (pv 0)) (pe_bltn rfl T.n_str boot_str rfl)) (le_one (le_cmp (o2_in (room_un hr 65)) (le_var (pv 0)) (le_var (pv 1)) rfl))))))
theorem sc_Tongue_parts : FnScope ["self", "metre"] ["self", "metre"] (defScope s_Tongue_parts) := ⟨rfl, rfl, rfl, by decide +kernel, rfl, by decide +kernel, by decide +kernel⟩
theorem ok_Tongue_parts (T : Fx K mg) : Has P w K mg base 2 (He.ma K aC_Tongue "parts") ["self", "metre"] m_Tongue_parts := show Has P w K mg base 2 (He.ma K aC_Tongue "parts") ["self", "metre"] (fnBody 2 2 b_Tongue_parts) from has_of (N := ["self", "metre"]) (by kernel_rfl) (by kernel_rfl) T.d_Tongue_parts sc_Tongue_parts (fun _ _ _ _ _ _ us hl => match us, hl with | [_, _], _ => rfl) (fun cdv A outer s H E hr =>
  (lss_cons (ls_if (lt_not (lt_tru (leh_call (ok_is_word T) (hr.mono (by decide)) rfl T.g_is_word (la_cons (le_var (pv 1)) (la_cons (le_fld (le_var (pv 0)) T.c_Tongue T.na_Tongue_own_metres) la_nil))) fun _ => rfl)) (lss_one ls_never) lss_nil)
  (lss_one (ls_ret (le_item (oi_ix (room_un hr 9)) (le_fld (le_var (pv 0)) T.c_Tongue T.na_Tongue_own_metres) (le_var (pv 1)))))))
theorem sc_TongueD_containsD : FnScope ["self", "value"] ["self", "value"] (defScope s_TongueD_containsD) := ⟨rfl, rfl, rfl, by decide +kernel, rfl, by decide +kernel, by decide +kernel⟩
theorem ok_TongueD_containsD (T : Fx K mg) : Has P w K mg base 2 (He.ma K aC_Tongue "__contains__") ["self", "value"] m_TongueD_containsD := show Has P w K mg base 2 (He.ma K aC_Tongue "__contains__") ["self", "value"] (fnBody 2 2 b_TongueD_containsD) from has_of (N := ["self", "value"]) (by kernel_rfl) (by kernel_rfl) T.d_TongueD_containsD sc_TongueD_containsD (fun _ _ _ _ _ _ us hl => match us, hl with | [_, _], _ => rfl) (fun cdv A outer s H E hr =>
  (lss_one (ls_ret (leh_call (ok_is_word T) (hr.mono (by decide)) rfl T.g_is_word (la_cons (le_var (pv 1)) (la_cons (le_fld (le_var (pv 0)) T.c_Tongue T.na_Tongue_own_words) la_nil))))))
theorem sc_is_row : FnScope ["tongue", "value", "name"] ["tongue", "value"] (defScope s_is_row) := ⟨rfl, rfl, rfl, by decide +kernel, rfl, by decide +kernel, by decide +kernel⟩
theorem ok_is_row (T : Fx K mg) : Has P w K mg base 3 (He.ga K "is_row") ["tongue", "value"] m_is_row := show Has P w K mg base 3 (He.ga K "is_row") ["tongue", "value"] (fnBody 2 3 b_is_row) from has_of (N := ["tongue", "value", "name"]) (by kernel_rfl) (by kernel_rfl) T.d_is_row sc_is_row (fun _ _ _ _ _ _ us hl => match us, hl with | [_, _], _ => rfl) (fun cdv A outer s H E hr =>
  (lss_one (ls_ret (DL.le_and (le_isi (v0 := .ty "tuple") (isiB_of (n := .tup) (cs := []) (.inr (.inr (.inr (.inl rfl)))) (by simp)) (fun u h => h) rfl T.n_isinstance (le_var (pv 1)) (pe_bltn rfl T.n_tuple boot_tuple rfl)) (DL.le_and (le_chain o2_le o2_le le_int (le_cb oc_len rfl T.n_len boot_len (la_cons (le_var (pv 1)) la_nil)) (le_const (v := .int _) rfl T.i_MOST_IN_ROW fun _ _ => .int _)) (le_one (le_cb (oc_all rfl) rfl T.n_all boot_all (la_cons (le_lc (js := [2]) (own := [("name", 2)]) rfl sc_is_row.nd (li_itA (le_var (pv 1))) (blkOk_by (N := ["tongue", "value", "name"]) (sc := defScope s_is_row) (by decide +kernel)) (fun _ _ _ _ _ => (lg_name (pg_name (i := 2) sc_is_row.nd rfl (by first | exact Or.inl rfl | exact Or.inr rfl)))) (fun _ _ _ _ _ => lts_nil) (fun _ _ _ _ _ => (le_cmp (oh_in T.m_Tongue_DcontainsD (ok_TongueD_containsD T) (hr.mono (by decide))) (le_var (pv 2)) (le_var (pv 0)) rfl)) (by decide)) la_nil))))))))
theorem sc_check_row : FnScope ["tongue", "value"] ["tongue", "value"] (defScope s_check_row) := ⟨rfl, rfl, rfl, by decide +kernel, rfl, by decide +kernel, by decide +kernel⟩
theorem ok_check_row (T : Fx K mg) : Has P w K mg base 4 (He.ga K "check_row") ["tongue", "value"] m_check_row := show Has P w K mg base 4 (He.ga K "check_row") ["tongue", "value"] (fnBody 2 2 b_check_row) from has_of (N := ["tongue", "value"]) (by kernel_rfl) (by kernel_rfl) T.d_check_row sc_check_row (fun _ _ _ _ _ _ us hl => match us, hl with | [_, _], _ => rfl) (fun cdv A outer s H E hr =>
  (lss_one (ls_if (lt_not (lt_tru (leh_call (ok_is_row T) (hr.mono (by decide)) rfl T.g_is_row (la_cons (le_var (pv 0)) (la_cons (le_var (pv 1)) la_nil))) fun _ => rfl)) (lss_one ls_never) lss_nil)))
theorem sc_Tongue_words : FnScope ["self"] ["self"] (defScope s_Tongue_words) := ⟨rfl, rfl, rfl, by decide +kernel, rfl, by decide +kernel, by decide +kernel⟩
theorem ok_Tongue_words (T : Fx K mg) : Has P w K mg base 1 (getterOf K aC_Tongue "words") ["self"] m_Tongue_words := show Has P w K mg base 1 (getterOf K aC_Tongue "words") ["self"] (fnBody 1 1 b_Tongue_words) from has_of (N := ["self"]) (by kernel_rfl) (by kernel_rfl) T.d_Tongue_words sc_Tongue_words (fun _ _ _ _ _ _ us hl => match us, hl with | [_], _ => rfl) (fun cdv A outer s H E hr =>
  (lss_one (ls_ret (le_fld (le_var (pv 0)) T.c_Tongue T.na_Tongue_own_names))))
theorem sc_Tongue_check_word : FnScope ["self", "value"] ["self", "value"] (defScope s_Tongue_check_word) := ⟨rfl, rfl, rfl, by decide +kernel, rfl, by decide +kernel, by decide +kernel⟩
theorem ok_Tongue_check_word (T : Fx K mg) : Has P w K mg base 2 (He.ma K aC_Tongue "check_word") ["self", "value"] m_Tongue_check_word := show Has P w K mg base 2 (He.ma K aC_Tongue "check_word") ["self", "value"] (fnBody 2 2 b_Tongue_check_word) from has_of (N := ["self", "value"]) (by kernel_rfl) (by kernel_rfl) T.d_Tongue_check_word sc_Tongue_check_word (fun _ _ _ _ _ _ us hl => match us, hl with | [_, _], _ => rfl) (fun cdv A outer s H E hr =>
  (lss_one (ls_if (lt_not (lt_tru (leh_call (ok_is_word T) (hr.mono (by decide)) rfl T.g_is_word (la_cons (le_var (pv 1)) (la_cons (le_fld (le_var (pv 0)) T.c_Tongue T.na_Tongue_own_words) la_nil))) fun _ => rfl)) (lss_one ls_never) lss_nil)))
theorem sc_TongueD_getitemD : FnScope ["self", "name"] ["self", "name"] (defScope s_TongueD_getitemD) := ⟨rfl, rfl, rfl, by decide +kernel, rfl, by decide +kernel, by decide +kernel⟩
theorem ok_TongueD_getitemD (T : Fx K mg) : Has P w K mg base 3 (He.ma K aC_Tongue "__getitem__") ["self", "name"] m_TongueD_getitemD := show Has P w K mg base 3 (He.ma K aC_Tongue "__getitem__") ["self", "name"] (fnBody 2 2 b_TongueD_getitemD) from has_of (N := ["self", "name"]) (by kernel_rfl) (by kernel_rfl) T.d_TongueD_getitemD sc_TongueD_getitemD (fun _ _ _ _ _ _ us hl => match us, hl with | [_, _], _ => rfl) (fun cdv A outer s H E hr =>
  (lss_cons (ls_expr (leh_meth (pl := _) (le_var (pv 0)) T.c_Tongue T.m_Tongue_check_word (ok_Tongue_check_word T) (hr.mono (by decide)) (la_cons (le_var (pv 1)) la_nil)))
  (lss_one (ls_ret (le_item (oi_ix (room_un hr 9)) (le_fld (le_var (pv 0)) T.c_Tongue T.na_Tongue_own_words) (le_var (pv 1)))))))
theorem sc_spoken : FnScope ["tongue", "measure", "signs", "found", "name", "said", "sign"] ["tongue", "measure"] (defScope s_spoken) := ⟨rfl, rfl, rfl, by decide +kernel, rfl, by decide +kernel, by decide +kernel⟩
theorem ok_spoken (T : Fx K mg) : Has P w K mg base 5 (He.ga K "spoken") ["tongue", "measure"] m_spoken := show Has P w K mg base 5 (He.ga K "spoken") ["tongue", "measure"] (fnBody 2 7 b_spoken) from has_of (N := ["tongue", "measure", "signs", "found", "name", "said", "sign"]) (by kernel_rfl) (by kernel_rfl) T.d_spoken sc_spoken (fun _ _ _ _ _ _ us hl => match us, hl with | [_, _], _ => rfl) (fun cdv A outer s H E hr =>
  (lss_cons (ls_asg (js := [2, 3]) (le_tup (la_cons (le_ct (oc_listB rfl) rfl T.n_list boot_list (la_cons (le_var (pv 1)) la_nil)) (la_cons le_newD la_nil))) (lg_tup (js := [2, 3]) (n := 2) rfl (lgs_cons (LG.wide (js := [2]) (lg_name (pg_name (i := 2) sc_spoken.nd rfl (by first | exact Or.inl rfl | exact Or.inr rfl))) (by decide)) (lgs_cons (LG.wide (js := [3]) (lg_name (pg_name (i := 3) sc_spoken.nd rfl (by first | exact Or.inl rfl | exact Or.inr rfl))) (by decide)) lgs_nil))))
  (lss_cons (ls_for (js := [4]) PassesOwn.never rfl (li_itA (leh_prop (le_var (pv 0)) T.c_Tongue T.p_Tongue_words (ok_Tongue_words T) (hr.mono (by decide)))) (lg_name (pg_name (i := 4) sc_spoken.nd rfl (by first | exact Or.inl rfl | exact Or.inr rfl))) (lss_cons (ls_setLc (i := 5) (js := [6]) (own := [("sign", 6)]) rfl sc_spoken.nd rfl rfl (sw_true rfl rfl rfl (by decide +kernel)) (li_itA (le_item (oi_ix (room_un hr 9)) (leh_item T.m_Tongue_DgetitemD T.f_Tongue_DgetitemD (ok_TongueD_getitemD T) (hr.mono (by decide)) (le_var (pv 0)) (le_var (pv 4))) le_int)) (blkOk_by (N := ["tongue", "measure", "signs", "found", "name", "said", "sign"]) (sc := defScope s_spoken) (by decide +kernel)) (fun _ _ _ _ _ => (lg_name (pg_name (i := 6) sc_spoken.nd rfl (by first | exact Or.inl rfl | exact Or.inr rfl)))) (fun _ _ _ _ _ => lts_nil) (fun _ _ _ _ _ => (DL.le_if (lt_cmp (o2_eqA (room_un hr 64)) (le_var (pv 6)) (le_const (v := .str _) rfl T.s_UNKNOWN fun _ _ => .str _) (nomark _)) (le_m ty_lst PySem.F.plainAttrs_list PySem.F.slot_list_pop PySem.F.type_list_pop om_pop (le_var (pv 2)) (la_cons le_int la_nil)) (le_var (pv 6)))) (by decide))
  (lss_one (ls_asg (js := []) (le_m ty_str PySem.F.plainAttrs_str PySem.F.slot_str_join PySem.F.type_str_join om_join le_str (la_cons (le_var (pv 5)) la_nil)) (lg_item (room_un hr 9) (le_var (pv 3)) (le_var (pv 4)))))))
  (lss_one (ls_ret (le_var (pv 3)))))))
theorem sc_VoiceD_initD : FnScope ["self", "tongue", "measure", "metre"] ["self", "tongue", "measure", "metre"] (defScope s_VoiceD_initD) := ⟨rfl, rfl, rfl, by decide +kernel, rfl, by decide +kernel, by decide +kernel⟩
theorem ok_VoiceD_initD (T : Fx K mg) : Has P w K mg base 6 (He.ma K aC_Voice "__init__") ["self", "tongue", "measure", "metre"] m_VoiceD_initD := show Has P w K mg base 6 (He.ma K aC_Voice "__init__") ["self", "tongue", "measure", "metre"] (fnBody 4 4 b_VoiceD_initD) from has_of (N := ["self", "tongue", "measure", "metre"]) (by kernel_rfl) (by kernel_rfl) T.d_VoiceD_initD sc_VoiceD_initD (fun _ _ _ _ _ _ us hl => match us, hl with | [_, _, _, _], _ => rfl) (fun cdv A outer s H E hr =>
  (lss_cons (ls_fld (le_var (pv 0)) (le_var (pv 1)) T.c_Voice T.na_Voice_own_tongue)
  (lss_cons (ls_fld (le_var (pv 0)) (leh_meth (pl := _) (le_var (pv 1)) T.c_Tongue T.m_Tongue_parts (ok_Tongue_parts T) (hr.mono (by decide)) (la_cons (le_var (pv 3)) la_nil)) T.c_Voice T.na_Voice_own_parts)
  (lss_one (ls_fld (le_var (pv 0)) (leh_call (ok_spoken T) (hr.mono (by decide)) rfl T.g_spoken (la_cons (le_var (pv 1)) (la_cons (le_var (pv 2)) la_nil))) T.c_Voice T.na_Voice_own_said)))))
theorem sc_behind : FnScope ["parts", "number", "rest"] ["parts", "number", "rest"] (defScope s_behind) := ⟨rfl, rfl, rfl, by decide +kernel, rfl, by decide +kernel, by decide +kernel⟩
theorem ok_behind (T : Fx K mg) : Has P w K mg base 1 (He.ga K "behind") ["parts", "number", "rest"] m_behind := show Has P w K mg base 1 (He.ga K "behind") ["parts", "number", "rest"] (fnBody 3 3 b_behind) from has_of (N := ["parts", "number", "rest"]) (by kernel_rfl) (by kernel_rfl) T.d_behind sc_behind (fun _ _ _ _ _ _ us hl => match us, hl with | [_, _, _], _ => rfl) (fun cdv A outer s H E hr =>
  (lss_cons (ls_if (lt_cmp (o2_neA (room_un hr 64)) (le_var (pv 2)) le_str (nomark _)) (lss_one (ls_ret (le_tup (la_cons (le_var (pv 1)) (la_cons (le_var (pv 2)) la_nil))))) lss_nil)
  (lss_one (ls_ret (le_tup (la_cons (DL.le_if (lt_cmp o2_is (le_item (oi_ix (room_un hr 9)) (le_item (oi_ix (room_un hr 9)) (le_var (pv 0)) (le_var (pv 1))) le_int) le_bl (nomark _)) (le_var (pv 1)) (le_bin o2_add (le_var (pv 1)) le_int)) (la_cons le_str la_nil)))))))
theorem sc_feet_begun : FnScope ["parts", "place", "sign", "is_first", "first", "rest", "found", "number", "part", "starred", "forms", "some", "form"] ["parts", "place", "sign", "is_first"] (defScope s_feet_begun) := ⟨rfl, rfl, rfl, by decide +kernel, rfl, by decide +kernel, by decide +kernel⟩
theorem ok_feet_begun (T : Fx K mg) : Has P w K mg base 2 (He.ga K "feet_begun") ["parts", "place", "sign", "is_first"] m_feet_begun := show Has P w K mg base 2 (He.ga K "feet_begun") ["parts", "place", "sign", "is_first"] (fnBody 4 13 b_feet_begun) from has_of (N := ["parts", "place", "sign", "is_first", "first", "rest", "found", "number", "part", "starred", "forms", "some", "form"]) (by kernel_rfl) (by kernel_rfl) T.d_feet_begun sc_feet_begun (fun _ _ _ _ _ _ us hl => match us, hl with | [_, _, _, _], _ => rfl) (fun cdv A outer s H E hr =>
  (lss_cons (ls_asg (js := [4, 5]) (le_var (pv 1)) (lg_tup (js := [4, 5]) (n := 2) rfl (lgs_cons (LG.wide (js := [4]) (lg_name (pg_name (i := 4) sc_feet_begun.nd rfl (by first | exact Or.inl rfl | exact Or.inr rfl))) (by decide)) (lgs_cons (LG.wide (js := [5]) (lg_name (pg_name (i := 5) sc_feet_begun.nd rfl (by first | exact Or.inl rfl | exact Or.inr rfl))) (by decide)) lgs_nil))))
  (lss_cons (ls_if (lt_cmp (o2_neA (room_un hr 64)) (le_var (pv 5)) le_str (nomark _)) (lss_one (ls_ret (DL.le_if (lt_cmp (o2_in (room_un hr 65)) (le_item (oi_ix (room_un hr 9)) (le_var (pv 5)) le_int) (le_tup (la_cons (le_var (pv 2)) (la_cons (le_const (v := .str _) rfl T.s_EITHER fun _ _ => .str _) la_nil))) rfl) (le_lst (la_cons (le_tup (la_cons (leh_call (ok_behind T).apart (hr.mono (by decide)) rfl T.g_behind (la_cons (le_var (pv 0)) (la_cons (le_var (pv 4)) (la_cons (le_cut (le_var (pv 5)) (lo_some le_int) lo_none) la_nil)))) (la_cons le_non la_nil))) la_nil)) (le_lst la_nil)))) lss_nil)
  (lss_cons (ls_asg (js := [6]) (le_lst la_nil) (lg_name (pg_name (i := 6) sc_feet_begun.nd rfl (by first | exact Or.inl rfl | exact Or.inr rfl))))
  (lss_cons (ls_for (js := [7]) PassesOwn.never rfl (li_range2 rfl T.n_range (le_var (pv 4)) (le_cb oc_len rfl T.n_len boot_len (la_cons (le_var (pv 0)) la_nil))) (lg_name (pg_name (i := 7) sc_feet_begun.nd rfl (by first | exact Or.inl rfl | exact Or.inr rfl))) (lss_cons (ls_asg (js := [8]) (le_item (oi_ix (room_un hr 9)) (le_var (pv 0)) (le_var (pv 7))) (lg_name (pg_name (i := 8) sc_feet_begun.nd rfl (by first | exact Or.inl rfl | exact Or.inr rfl))))
  (lss_one (ls_if (lt_cmp (o2_in (room_un hr 65)) (le_var (pv 8)) (le_tup (la_cons (le_const (v := .str _) rfl T.s_ENDS fun _ _ => .str _) (la_cons (le_const (v := .str _) rfl T.s_AMID fun _ _ => .str _) la_nil))) rfl) (lss_one (ls_if (lt_cmp (o2_neA (room_un hr 64)) (le_cmp (o2_eqA (room_un hr 64)) (le_var (pv 8)) (le_const (v := .str _) rfl T.s_ENDS fun _ _ => .str _) (nomark _)) (le_var (pv 3)) (nomark _)) (lss_one ls_break) lss_nil)) (lss_cons (ls_asg (js := [9, 10]) (le_var (pv 8)) (lg_tup (js := [9, 10]) (n := 2) rfl (lgs_cons (LG.wide (js := [9]) (lg_name (pg_name (i := 9) sc_feet_begun.nd rfl (by first | exact Or.inl rfl | exact Or.inr rfl))) (by decide)) (lgs_cons (LG.wide (js := [10]) (lg_name (pg_name (i := 10) sc_feet_begun.nd rfl (by first | exact Or.inl rfl | exact Or.inr rfl))) (by decide)) lgs_nil))))
  (lss_cons (ls_setLc (i := 11) (js := [12]) (own := [("form", 12)]) rfl sc_feet_begun.nd rfl rfl (sw_true rfl rfl rfl (by decide +kernel)) (li_itA (le_var (pv 10))) (blkOk_by (N := ["parts", "place", "sign", "is_first", "first", "rest", "found", "number", "part", "starred", "forms", "some", "form"]) (sc := defScope s_feet_begun) (by decide +kernel)) (fun _ _ _ _ _ => (lg_name (pg_name (i := 12) sc_feet_begun.nd rfl (by first | exact Or.inl rfl | exact Or.inr rfl)))) (fun _ _ _ _ _ => (lts_one (lt_cmp (o2_in (room_un hr 65)) (le_item (oi_ix (room_un hr 9)) (le_var (pv 12)) le_int) (le_tup (la_cons (le_var (pv 2)) (la_cons (le_const (v := .str _) rfl T.s_EITHER fun _ _ => .str _) la_nil))) rfl))) (fun _ _ _ _ _ => (le_var (pv 12))) (by decide))
  (lss_cons (ls_expr (le_m ty_lst PySem.F.plainAttrs_list PySem.F.slot_list_extend PySem.F.type_list_extend om_extend (le_var (pv 6)) (la_cons (le_lc (js := [12]) (own := [("form", 12)]) rfl sc_feet_begun.nd (li_itA (le_var (pv 11))) (blkOk_by (N := ["parts", "place", "sign", "is_first", "first", "rest", "found", "number", "part", "starred", "forms", "some", "form"]) (sc := defScope s_feet_begun) (by decide +kernel)) (fun _ _ _ _ _ => (lg_name (pg_name (i := 12) sc_feet_begun.nd rfl (by first | exact Or.inl rfl | exact Or.inr rfl)))) (fun _ _ _ _ _ => lts_nil) (fun _ _ _ _ _ => (le_tup (la_cons (leh_call (ok_behind T).apart (hr.mono (by decide)) rfl T.g_behind (la_cons (le_var (pv 0)) (la_cons (le_var (pv 7)) (la_cons (le_cut (le_var (pv 12)) (lo_some le_int) lo_none) la_nil)))) (la_cons (le_tup (la_cons (le_var (pv 7)) (la_cons (le_var (pv 12)) la_nil))) la_nil)))) (by decide)) la_nil)))
  (lss_one (ls_if (lt_not (lt_tru (le_var (pv 9)) fun _ => rfl)) (lss_one ls_break) lss_nil)))))))))
  (lss_one (ls_ret (le_var (pv 6)))))))))
theorem sc_stepped : FnScope ["parts", "places", "sign", "is_first", "found", "place", "there", "foot"] ["parts", "places", "sign", "is_first"] (defScope s_stepped) := ⟨rfl, rfl, rfl, by decide +kernel, rfl, by decide +kernel, by decide +kernel⟩
theorem ok_stepped (T : Fx K mg) : Has P w K mg base 3 (He.ga K "stepped") ["parts", "places", "sign", "is_first"] m_stepped := show Has P w K mg base 3 (He.ga K "stepped") ["parts", "places", "sign", "is_first"] (fnBody 4 8 b_stepped) from has_of (N := ["parts", "places", "sign", "is_first", "found", "place", "there", "foot"]) (by kernel_rfl) (by kernel_rfl) T.d_stepped sc_stepped (fun _ _ _ _ _ _ us hl => match us, hl with | [_, _, _, _], _ => rfl) (fun cdv A outer s H E hr =>
  (lss_cons (ls_asg (js := [4]) (le_lst la_nil) (lg_name (pg_name (i := 4) sc_stepped.nd rfl (by first | exact Or.inl rfl | exact Or.inr rfl))))
  (lss_cons (ls_for (js := [5]) PassesOwn.never rfl (li_itA (le_var (pv 1))) (lg_name (pg_name (i := 5) sc_stepped.nd rfl (by first | exact Or.inl rfl | exact Or.inr rfl))) (lss_one (ls_expr (le_m ty_lst PySem.F.plainAttrs_list PySem.F.slot_list_extend PySem.F.type_list_extend om_extend (le_var (pv 4)) (la_cons (le_lc (js := [6, 7]) (own := [("there", 6), ("foot", 7)]) rfl sc_stepped.nd (li_itA (leh_call (ok_feet_begun T) (hr.mono (by decide)) rfl T.g_feet_begun (la_cons (le_var (pv 0)) (la_cons (le_var (pv 5)) (la_cons (le_var (pv 2)) (la_cons (le_var (pv 3)) la_nil)))))) (blkOk_by (N := ["parts", "places", "sign", "is_first", "found", "place", "there", "foot"]) (sc := defScope s_stepped) (by decide +kernel)) (fun _ _ _ _ _ => (lg_tup (js := [6, 7]) (n := 2) rfl (lgs_cons (LG.wide (js := [6]) (lg_name (pg_name (i := 6) sc_stepped.nd rfl (by first | exact Or.inl rfl | exact Or.inr rfl))) (by decide)) (lgs_cons (LG.wide (js := [7]) (lg_name (pg_name (i := 7) sc_stepped.nd rfl (by first | exact Or.inl rfl | exact Or.inr rfl))) (by decide)) lgs_nil)))) (fun _ _ _ _ _ => lts_nil) (fun _ _ _ _ _ => (le_var (pv 6))) (by decide)) la_nil)))))
  (lss_one (ls_ret (le_ct (oc_tupleA rfl) rfl T.n_tuple boot_tuple (la_cons (le_sortedSet rfl (room_un hr 30) (le_var (pv 4)) rfl T.n_sorted boot_sorted rfl T.n_set boot_set) la_nil)))))))
theorem sc_Voice_led_in : FnScope ["self", "places", "name", "at", "sign"] ["self", "places", "name"] (defScope s_Voice_led_in) := ⟨rfl, rfl, rfl, by decide +kernel, rfl, by decide +kernel, by decide +kernel⟩
theorem ok_Voice_led_in (T : Fx K mg) : Has P w K mg base 4 (He.ma K aC_Voice "led_in") ["self", "places", "name"] m_Voice_led_in := show Has P w K mg base 4 (He.ma K aC_Voice "led_in") ["self", "places", "name"] (fnBody 3 5 b_Voice_led_in) from has_of (N := ["self", "places", "name", "at", "sign"]) (by kernel_rfl) (by kernel_rfl) T.d_Voice_led_in sc_Voice_led_in (fun _ _ _ _ _ _ us hl => match us, hl with | [_, _, _], _ => rfl) (fun cdv A outer s H E hr =>
  (lss_cons (ls_for (js := [3, 4]) PassesOwn.never rfl (li_enum rfl T.n_enumerate (le_cut (le_item (oi_ix (room_un hr 9)) (le_fld (le_var (pv 0)) T.c_Voice T.na_Voice_own_said) (le_var (pv 2))) lo_none (lo_some (le_un o1_neg le_int)))) (lg_tup (js := [3, 4]) (n := 2) rfl (lgs_cons (LG.wide (js := [3]) (lg_name (pg_name (i := 3) sc_Voice_led_in.nd rfl (by first | exact Or.inl rfl | exact Or.inr rfl))) (by decide)) (lgs_cons (LG.wide (js := [4]) (lg_name (pg_name (i := 4) sc_Voice_led_in.nd rfl (by first | exact Or.inl rfl | exact Or.inr rfl))) (by decide)) lgs_nil))) (lss_one (ls_asg (js := [1]) (leh_call (ok_stepped T).apart (hr.mono (by decide)) rfl T.g_stepped (la_cons (le_fld (le_var (pv 0)) T.c_Voice T.na_Voice_own_parts) (la_cons (le_var (pv 1)) (la_cons (le_var (pv 4)) (la_cons (le_cmp (o2_eqA (room_un hr 64)) (le_var (pv 3)) le_int (nomark _)) la_nil))))) (lg_name (pg_name (i := 1) sc_Voice_led_in.nd rfl (by first | exact Or.inl rfl | exact Or.inr rfl))))))
  (lss_one (ls_ret (le_var (pv 1))))))
theorem sc_Voice_first : FnScope ["self", "name"] ["self", "name"] (defScope s_Voice_first) := ⟨rfl, rfl, rfl, by decide +kernel, rfl, by decide +kernel, by decide +kernel⟩
theorem ok_Voice_first (T : Fx K mg) : Has P w K mg base 5 (He.ma K aC_Voice "first") ["self", "name"] m_Voice_first := show Has P w K mg base 5 (He.ma K aC_Voice "first") ["self", "name"] (fnBody 2 2 b_Voice_first) from has_of (N := ["self", "name"]) (by kernel_rfl) (by kernel_rfl) T.d_Voice_first sc_Voice_first (fun _ _ _ _ _ _ us hl => match us, hl with | [_, _], _ => rfl) (fun cdv A outer s H E hr =>
  (lss_one (ls_ret (leh_meth (pl := _) (le_var (pv 0)) T.c_Voice T.m_Voice_led_in (ok_Voice_led_in T) (hr.mono (by decide)) (la_cons (le_tup (la_cons (le_glob (v := .ref _) rfl T.g_BEGIN rfl fun _ H => .tup (T.t_BEGIN H) (.cons (.int _) (.cons (.str _) .nil))) la_nil)) (la_cons (le_var (pv 1)) la_nil))))))
theorem sc_Tongue_joint : FnScope ["self", "name", "other"] ["self", "name", "other"] (defScope s_Tongue_joint) := ⟨rfl, rfl, rfl, by decide +kernel, rfl, by decide +kernel, by decide +kernel⟩
theorem ok_Tongue_joint (T : Fx K mg) : Has P w K mg base 3 (He.ma K aC_Tongue "joint") ["self", "name", "other"] m_Tongue_joint := show Has P w K mg base 3 (He.ma K aC_Tongue "joint") ["self", "name", "other"] (fnBody 3 3 b_Tongue_joint) from has_of (N := ["self", "name", "other"]) (by kernel_rfl) (by kernel_rfl) T.d_Tongue_joint sc_Tongue_joint (fun _ _ _ _ _ _ us hl => match us, hl with | [_, _, _], _ => rfl) (fun cdv A outer s H E hr =>
  (lss_cons (ls_expr (leh_meth (pl := _) (le_var (pv 0)) T.c_Tongue T.m_Tongue_check_word (ok_Tongue_check_word T) (hr.mono (by decide)) (la_cons (le_var (pv 1)) la_nil)))
  (lss_cons (ls_expr (leh_meth (pl := _) (le_var (pv 0)) T.c_Tongue T.m_Tongue_check_word (ok_Tongue_check_word T) (hr.mono (by decide)) (la_cons (le_var (pv 2)) la_nil)))
  (lss_one (ls_ret (le_m ty_dct PySem.F.plainAttrs_dict PySem.F.slot_dict_get PySem.F.type_dict_get (om_dget (room_un hr 9)) (le_fld (le_var (pv 0)) T.c_Tongue T.na_Tongue_own_joints) (la_cons (le_tup (la_cons (le_item (oi_ix (room_un hr 9)) (le_item (oi_ix (room_un hr 9)) (le_fld (le_var (pv 0)) T.c_Tongue T.na_Tongue_own_words) (le_var (pv 1))) (le_un o1_neg le_int)) (la_cons (le_item (oi_ix (room_un hr 9)) (le_item (oi_ix (room_un hr 9)) (le_fld (le_var (pv 0)) T.c_Tongue T.na_Tongue_own_words) (le_var (pv 2))) le_int) la_nil))) (la_cons le_str la_nil))))))))
theorem sc_Voice_last_step : FnScope ["self", "places", "name", "sign"] ["self", "places", "name", "sign"] (defScope s_Voice_last_step) := ⟨rfl, rfl, rfl, by decide +kernel, rfl, by decide +kernel, by decide +kernel⟩
theorem ok_Voice_last_step (T : Fx K mg) : Has P w K mg base 4 (He.ma K aC_Voice "last_step") ["self", "places", "name", "sign"] m_Voice_last_step := show Has P w K mg base 4 (He.ma K aC_Voice "last_step") ["self", "places", "name", "sign"] (fnBody 4 4 b_Voice_last_step) from has_of (N := ["self", "places", "name", "sign"]) (by kernel_rfl) (by kernel_rfl) T.d_Voice_last_step sc_Voice_last_step (fun _ _ _ _ _ _ us hl => match us, hl with | [_, _, _, _], _ => rfl) (fun cdv A outer s H E hr =>
  (lss_one (ls_ret (leh_call (ok_stepped T).apart (hr.mono (by decide)) rfl T.g_stepped (la_cons (le_fld (le_var (pv 0)) T.c_Voice T.na_Voice_own_parts) (la_cons (le_var (pv 1)) (la_cons (le_var (pv 3)) (la_cons (le_cmp (o2_eqA (room_un hr 64)) (le_cb oc_len rfl T.n_len boot_len (la_cons (le_item (oi_ix (room_un hr 9)) (le_fld (le_var (pv 0)) T.c_Voice T.na_Voice_own_said) (le_var (pv 2))) la_nil)) le_int (nomark _)) la_nil))))))))
theorem sc_Voice_led : FnScope ["self", "places", "name", "other", "joint", "kept"] ["self", "places", "name", "other"] (defScope s_Voice_led) := ⟨rfl, rfl, rfl, by decide +kernel, rfl, by decide +kernel, by decide +kernel⟩
theorem ok_Voice_led (T : Fx K mg) : Has P w K mg base 5 (He.ma K aC_Voice "led") ["self", "places", "name", "other"] m_Voice_led := show Has P w K mg base 5 (He.ma K aC_Voice "led") ["self", "places", "name", "other"] (fnBody 4 6 b_Voice_led) from has_of (N := ["self", "places", "name", "other", "joint", "kept"]) (by kernel_rfl) (by kernel_rfl) T.d_Voice_led sc_Voice_led (fun _ _ _ _ _ _ us hl => match us, hl with | [_, _, _, _], _ => rfl) (fun cdv A outer s H E hr =>
  (lss_cons (ls_asg (js := [4]) (leh_meth (pl := _) (le_fld (le_var (pv 0)) T.c_Voice T.na_Voice_own_tongue) T.c_Tongue T.m_Tongue_joint (ok_Tongue_joint T) (hr.mono (by decide)) (la_cons (le_var (pv 2)) (la_cons (le_var (pv 3)) la_nil))) (lg_name (pg_name (i := 4) sc_Voice_led.nd rfl (by first | exact Or.inl rfl | exact Or.inr rfl))))
  (lss_cons (ls_if (lt_cmp (o2_eqA (room_un hr 64)) (le_var (pv 4)) (le_const (v := .str _) rfl T.s_DROP fun _ _ => .str _) (nomark _)) (lss_one (ls_ret (leh_meth (pl := _) (le_var (pv 0)) T.c_Voice T.m_Voice_led_in (ok_Voice_led_in T) (hr.mono (by decide)) (la_cons (le_var (pv 1)) (la_cons (le_var (pv 3)) la_nil))))) lss_nil)
  (lss_cons (ls_asg (js := [5]) (leh_meth (pl := _) (le_var (pv 0)) T.c_Voice T.m_Voice_last_step (ok_Voice_last_step T) (hr.mono (by decide)) (la_cons (le_var (pv 1)) (la_cons (le_var (pv 2)) (la_cons (DL.le_if (lt_cmp (o2_eqA (room_un hr 64)) (le_var (pv 4)) (le_const (v := .str _) rfl T.s_STRETCH fun _ _ => .str _) (nomark _)) (le_const (v := .str _) rfl T.s_LONG fun _ _ => .str _) (le_item (oi_ix (room_un hr 9)) (le_item (oi_ix (room_un hr 9)) (le_fld (le_var (pv 0)) T.c_Voice T.na_Voice_own_said) (le_var (pv 2))) (le_un o1_neg le_int))) la_nil)))) (lg_name (pg_name (i := 5) sc_Voice_led.nd rfl (by first | exact Or.inl rfl | exact Or.inr rfl))))
  (lss_cons (ls_if (lt_cmp (o2_eqA (room_un hr 64)) (le_var (pv 4)) (le_const (v := .str _) rfl T.s_MAY fun _ _ => .str _) (nomark _)) (lss_one (ls_asg (js := [5]) (le_ct (oc_tupleA rfl) rfl T.n_tuple boot_tuple (la_cons (le_sortedSet rfl (room_un hr 30) (le_lst (la_star (le_var (pv 5)) (la_star (le_var (pv 1)) la_nil))) rfl T.n_sorted boot_sorted rfl T.n_set boot_set) la_nil)) (lg_name (pg_name (i := 5) sc_Voice_led.nd rfl (by first | exact Or.inl rfl | exact Or.inr rfl))))) lss_nil)
  (lss_one (ls_ret (leh_meth (pl := _) (le_var (pv 0)) T.c_Voice T.m_Voice_led_in (ok_Voice_led_in T) (hr.mono (by decide)) (la_cons (le_var (pv 5)) (la_cons (le_var (pv 3)) la_nil))))))))))
theorem sc_Voice_standing : FnScope ["self", "row", "places", "name", "other"] ["self", "row"] (defScope s_Voice_standing) := ⟨rfl, rfl, rfl, by decide +kernel, rfl, by decide +kernel, by decide +kernel⟩
theorem ok_Voice_standing (T : Fx K mg) : Has P w K mg base 6 (He.ma K aC_Voice "standing") ["self", "row"] m_Voice_standing := show Has P w K mg base 6 (He.ma K aC_Voice "standing") ["self", "row"] (fnBody 2 5 b_Voice_standing) from has_of (N := ["self", "row", "places", "name", "other"]) (by kernel_rfl) (by kernel_rfl) T.d_Voice_standing sc_Voice_standing (fun _ _ _ _ _ _ us hl => match us, hl with | [_, _], _ => rfl) (fun cdv A outer s H E hr =>
  (lss_cons (ls_asg (js := [2]) (leh_meth (pl := _) (le_var (pv 0)) T.c_Voice T.m_Voice_first (ok_Voice_first T) (hr.mono (by decide)) (la_cons (le_item (oi_ix (room_un hr 9)) (le_var (pv 1)) le_int) la_nil)) (lg_name (pg_name (i := 2) sc_Voice_standing.nd rfl (by first | exact Or.inl rfl | exact Or.inr rfl))))
  (lss_cons (ls_for (js := [3, 4]) PassesOwn.never rfl (li_zip rfl T.n_zip (le_var (pv 1)) (le_cut (le_var (pv 1)) (lo_some le_int) lo_none)) (lg_tup (js := [3, 4]) (n := 2) rfl (lgs_cons (LG.wide (js := [3]) (lg_name (pg_name (i := 3) sc_Voice_standing.nd rfl (by first | exact Or.inl rfl | exact Or.inr rfl))) (by decide)) (lgs_cons (LG.wide (js := [4]) (lg_name (pg_name (i := 4) sc_Voice_standing.nd rfl (by first | exact Or.inl rfl | exact Or.inr rfl))) (by decide)) lgs_nil))) (lss_one (ls_asg (js := [2]) (leh_meth (pl := _) (le_var (pv 0)) T.c_Voice T.m_Voice_led (ok_Voice_led T) (hr.mono (by decide)) (la_cons (le_var (pv 2)) (la_cons (le_var (pv 3)) (la_cons (le_var (pv 4)) la_nil)))) (lg_name (pg_name (i := 2) sc_Voice_standing.nd rfl (by first | exact Or.inl rfl | exact Or.inr rfl))))))
  (lss_one (ls_ret (le_var (pv 2)))))))
theorem sc_standing : FnScope ["tongue", "measure", "metre", "row"] ["tongue", "measure", "metre", "row"] (defScope s_standing) := ⟨rfl, rfl, rfl, by decide +kernel, rfl, by decide +kernel, by decide +kernel⟩
theorem ok_standing (T : Fx K mg) : Has P w K mg base 8 (He.ga K "standing") ["tongue", "measure", "metre", "row"] m_standing := show Has P w K mg base 8 (He.ga K "standing") ["tongue", "measure", "metre", "row"] (fnBody 4 4 b_standing) from has_of (N := ["tongue", "measure", "metre", "row"]) (by kernel_rfl) (by kernel_rfl) T.d_standing sc_standing (fun _ _ _ _ _ _ us hl => match us, hl with | [_, _, _, _], _ => rfl) (fun cdv A outer s H E hr =>
  (lss_cons (ls_expr (leh_call (ok_check_measure T) (hr.mono (by decide)) rfl T.g_check_measure (la_cons (le_var (pv 0)) (la_cons (le_var (pv 1)) la_nil))))
  (lss_cons (ls_expr (leh_meth (pl := _) (le_var (pv 0)) T.c_Tongue T.m_Tongue_parts (ok_Tongue_parts T) (hr.mono (by decide)) (la_cons (le_var (pv 2)) la_nil)))
  (lss_cons (ls_expr (leh_call (ok_check_row T) (hr.mono (by decide)) rfl T.g_check_row (la_cons (le_var (pv 0)) (la_cons (le_var (pv 3)) la_nil))))
  (lss_one (ls_ret (leh_meth (pl := _) (leh_make T.mk_Voice (ok_VoiceD_initD T) (hr.mono (by decide)) rfl T.g_Voice (la_cons (le_var (pv 0)) (la_cons (le_var (pv 1)) (la_cons (le_var (pv 2)) la_nil)))) T.c_Voice T.m_Voice_standing (ok_Voice_standing T) (hr.mono (by decide)) (la_cons (le_var (pv 3)) la_nil))))))))
theorem sc__law_right : FnScope ["_law_one", "_law_two", "_law_text", "_law_tongue", "_law_rows", "_law_signs", "_law_metre", "_law_row", "_law_due"] ["_law_one", "_law_two"] (defScope s__law_right) := ⟨rfl, rfl, rfl, by decide +kernel, rfl, by decide +kernel, by decide +kernel⟩
theorem ok__law_right (T : Fx K mg) : HasG P w K mg base 10 (He.ga K "_law_right") ["_law_one", "_law_two"] m__law_right := show HasG P w K mg base 10 (He.ga K "_law_right") ["_law_one", "_law_two"] (fnBody 2 9 b__law_right) from hasG_of (N := ["_law_one", "_law_two", "_law_text", "_law_tongue", "_law_rows", "_law_signs", "_law_metre", "_law_row", "_law_due"]) (by kernel_rfl) (by kernel_rfl) T.d__law_right sc__law_right (fun _ _ _ _ _ _ us hl => match us, hl with | [_, _], _ => rfl) (fun cdv A outer s H E quiet hr =>
  (lss_cons (ls_asg (js := [2]) (le_bin o2_add (le_bin o2_add (le_bin o2_add (le_bin o2_add le_str (le_var (pv 0))) le_str) (le_var (pv 1))) le_str) (lg_name (pg_name (i := 2) sc__law_right.nd rfl (by first | exact Or.inl rfl | exact Or.inr rfl))))
  (lss_cons (ls_asg (js := [2]) (le_bin o2_add (le_var (pv 2)) le_str) (lg_name (pg_name (i := 2) sc__law_right.nd rfl (by first | exact Or.inl rfl | exact Or.inr rfl))))
  (lss_cons (ls_asg (js := [3]) (leh_make T.mk_Tongue (ok_TongueD_initD T) (hr.mono (by decide)) rfl T.g_Tongue (la_cons (le_var (pv 2)) la_nil)) (lg_name (pg_name (i := 3) sc__law_right.nd rfl (by first | exact Or.inl rfl | exact Or.inr rfl))))
  (lss_cons (ls_asg (js := [4]) (le_lst (la_cons (le_tup (la_cons le_str (la_cons le_str (la_cons (le_tup (la_cons (le_var (pv 0)) la_nil)) (la_cons (le_tup (la_cons (le_tup (la_cons le_int (la_cons le_str la_nil))) la_nil)) la_nil))))) (la_cons (le_tup (la_cons le_str (la_cons le_str (la_cons (le_tup (la_cons (le_var (pv 1)) la_nil)) (la_cons (le_tup (la_cons (le_tup (la_cons le_int (la_cons le_str la_nil))) la_nil)) la_nil))))) (la_cons (le_tup (la_cons le_str (la_cons le_str (la_cons (le_tup (la_cons (le_var (pv 1)) (la_cons (le_var (pv 1)) la_nil))) (la_cons (le_tup la_nil) la_nil))))) la_nil)))) (lg_name (pg_name (i := 4) sc__law_right.nd rfl (by first | exact Or.inl rfl | exact Or.inr rfl))))
  (lss_cons (ls_expr (le_m ty_lst PySem.F.plainAttrs_list PySem.F.slot_list_append PySem.F.type_list_append om_append (le_var (pv 4)) (la_cons (le_tup (la_cons le_str (la_cons le_str (la_cons (le_tup (la_cons (le_var (pv 1)) la_nil)) (la_cons (le_tup (la_cons (le_tup (la_cons le_int (la_cons le_str la_nil))) (la_cons (le_tup (la_cons le_int (la_cons le_str la_nil))) la_nil))) la_nil))))) la_nil)))
  (lss_cons (ls_expr (le_m ty_lst PySem.F.plainAttrs_list PySem.F.slot_list_append PySem.F.type_list_append om_append (le_var (pv 4)) (la_cons (le_tup (la_cons le_str (la_cons le_str (la_cons (le_tup (la_cons (le_var (pv 0)) (la_cons (le_var (pv 1)) la_nil))) (la_cons (le_tup (la_cons (le_tup (la_cons le_int (la_cons le_str la_nil))) (la_cons (le_tup (la_cons le_int (la_cons le_str la_nil))) la_nil))) la_nil))))) la_nil)))
  (lss_cons (ls_expr (le_m ty_lst PySem.F.plainAttrs_list PySem.F.slot_list_append PySem.F.type_list_append om_append (le_var (pv 4)) (la_cons (le_tup (la_cons le_str (la_cons le_str (la_cons (le_tup (la_cons (le_var (pv 1)) (la_cons (le_var (pv 0)) la_nil))) (la_cons (le_tup (la_cons (le_tup (la_cons le_int (la_cons le_str la_nil))) (la_cons (le_tup (la_cons le_int (la_cons le_str la_nil))) la_nil))) la_nil))))) la_nil)))
  (lss_cons (ls_expr (le_m ty_lst PySem.F.plainAttrs_list PySem.F.slot_list_append PySem.F.type_list_append om_append (le_var (pv 4)) (la_cons (le_tup (la_cons le_str (la_cons le_str (la_cons (le_tup (la_cons (le_var (pv 1)) (la_cons (le_var (pv 0)) la_nil))) (la_cons (le_tup (la_cons (le_tup (la_cons le_int (la_cons le_str la_nil))) la_nil)) la_nil))))) la_nil)))
  (lss_cons (ls_expr (le_m ty_lst PySem.F.plainAttrs_list PySem.F.slot_list_append PySem.F.type_list_append om_append (le_var (pv 4)) (la_cons (le_tup (la_cons le_str (la_cons le_str (la_cons (le_tup (la_cons (le_var (pv 0)) (la_cons (le_var (pv 0)) la_nil))) (la_cons (le_tup (la_cons (le_tup (la_cons le_int (la_cons le_str la_nil))) la_nil)) la_nil))))) la_nil)))
  (lss_cons (ls_expr (le_m ty_lst PySem.F.plainAttrs_list PySem.F.slot_list_append PySem.F.type_list_append om_append (le_var (pv 4)) (la_cons (le_tup (la_cons le_str (la_cons le_str (la_cons (le_tup (la_cons (le_var (pv 0)) la_nil)) (la_cons (le_tup (la_cons (le_tup (la_cons le_int (la_cons le_str la_nil))) la_nil)) la_nil))))) la_nil)))
  (lss_cons (ls_expr (le_m ty_lst PySem.F.plainAttrs_list PySem.F.slot_list_append PySem.F.type_list_append om_append (le_var (pv 4)) (la_cons (le_tup (la_cons le_str (la_cons le_str (la_cons (le_tup (la_cons (le_var (pv 0)) (la_cons (le_var (pv 0)) la_nil))) (la_cons (le_tup la_nil) la_nil))))) la_nil)))
  (lss_one (ls_ret (le_cb (oc_all rfl) rfl T.n_all boot_all (la_cons (le_lc (js := [5, 6, 7, 8]) (own := [("_law_signs", 5), ("_law_metre", 6), ("_law_row", 7), ("_law_due", 8)]) rfl sc__law_right.nd (li_itA (le_var (pv 4))) (blkOk_by (N := ["_law_one", "_law_two", "_law_text", "_law_tongue", "_law_rows", "_law_signs", "_law_metre", "_law_row", "_law_due"]) (sc := defScope s__law_right) (by decide +kernel)) (fun _ _ _ _ _ => (lg_tup (js := [5, 6, 7, 8]) (n := 4) rfl (lgs_cons (LG.wide (js := [5]) (lg_name (pg_name (i := 5) sc__law_right.nd rfl (by first | exact Or.inl rfl | exact Or.inr rfl))) (by decide)) (lgs_cons (LG.wide (js := [6]) (lg_name (pg_name (i := 6) sc__law_right.nd rfl (by first | exact Or.inl rfl | exact Or.inr rfl))) (by decide)) (lgs_cons (LG.wide (js := [7]) (lg_name (pg_name (i := 7) sc__law_right.nd rfl (by first | exact Or.inl rfl | exact Or.inr rfl))) (by decide)) (lgs_cons (LG.wide (js := [8]) (lg_name (pg_name (i := 8) sc__law_right.nd rfl (by first | exact Or.inl rfl | exact Or.inr rfl))) (by decide)) lgs_nil)))))) (fun _ _ _ _ _ => lts_nil) (fun _ _ _ _ _ => (le_cmp (o2_eqA (room_un hr 64)) (le_cb (oc_repr quiet (room_un hr 40)) rfl T.n_repr boot_repr (la_cons (leh_call (ok_standing T) (hr.mono (by decide)) rfl T.g_standing (la_cons (le_var (pv 3)) (la_cons (le_var (pv 5)) (la_cons (le_var (pv 6)) (la_cons (le_var (pv 7)) la_nil))))) la_nil)) (le_cb (oc_repr quiet (room_un hr 40)) rfl T.n_repr boot_repr (la_cons (le_var (pv 8)) la_nil)) (nomark _))) (by decide)) la_nil))))))))))))))))
theorem sc_law : FnScope ["_law_script", "_law_place", "_law_one", "_law_two"] ["_law_script"] (defScope s_law) := ⟨rfl, rfl, rfl, by decide +kernel, rfl, by decide +kernel, by decide +kernel⟩
theorem ok_law (T : Fx K mg) {fd : FuncData} (F : FunD K "law" "law" (defArgs s_law) (defBody s_law) (defScope s_law) [] [] (He.ga K "law") fd) : FnG P w K mg base 11 (He.ga K "law") fd ["_law_script"] (spD P w K 1 m_law) := show FnG P w K mg base 11 (He.ga K "law") fd ["_law_script"] (spD P w K 1 (fnBody 1 4 b_law)) from lawG_of (N := ["_law_script", "_law_place", "_law_one", "_law_two"]) (by kernel_rfl) (by kernel_rfl) F sc_law (fun cdv A outer s H E quiet hr =>
  (lss_cons (ls_for (js := [1]) PassesOwn.never rfl (li_itA (leh_call (ok__law_places T) (hr.mono (by decide)) rfl T.g__law_places (la_cons (le_var (pv 0)) (la_cons le_int la_nil)))) (lg_name (pg_name (i := 1) sc_law.nd rfl (by first | exact Or.inl rfl | exact Or.inr rfl))) (lss_cons (ls_asg (js := [2, 3]) (leh_call (ok__law_names T) (hr.mono (by decide)) rfl T.g__law_names (la_cons (leh_call (ok__law_pot T) (hr.mono (by decide)) rfl T.g__law_pot (la_cons (le_var (pv 0)) (la_cons (le_var (pv 1)) la_nil))) (la_cons le_int la_nil))) (lg_tup (js := [2, 3]) (n := 2) rfl (lgs_cons (LG.wide (js := [2]) (lg_name (pg_name (i := 2) sc_law.nd rfl (by first | exact Or.inl rfl | exact Or.inr rfl))) (by decide)) (lgs_cons (LG.wide (js := [3]) (lg_name (pg_name (i := 3) sc_law.nd rfl (by first | exact Or.inl rfl | exact Or.inr rfl))) (by decide)) lgs_nil))))
  (lss_one (ls_if (lt_not (lt_tru (leh_callG (ok__law_right T).apart quiet (hr.mono (by decide)) rfl T.g__law_right (la_cons (le_var (pv 2)) (la_cons (le_var (pv 3)) la_nil))) fun _ => rfl)) (lss_one (ls_ret le_bl)) lss_nil))))
  (lss_one (ls_ret le_bl))))
end
def exs : ExL := [faB (.free "len"),
  faB (.free "min"),
  faB (.free "max"),
  faB (.free "list"),
  faB (.free "range"),
  faB (.glo "_law_places"),
  faB (.free "int"),
  faB (.glo "_law_take"),
  faB (.glo "_law_some"),
  faB (.glo "_law_names"),
  faB (.free "abs"),
  faB (.glo "_law_pot"),
  faB (.free "isinstance"),
  faB (.free "str"),
  faB (.str "FEED" "\n"),
  clsB aC_Reading,
  noatB aC_Reading "named_words",
  noatB aC_Reading "named_joints",
  noatB aC_Reading "named_metres",
  mkB aC_Reading,
  gloB "Reading" aC_Reading,
  faB (.free "enumerate"),
  faB (.str "BLANK" " "),
  faB (.str "WORD" "word"),
  faB (.int "WORD_SIZE" 5),
  faB (.int "MOST_WORDS" 6),
  faB (.int "MOST_SIGNS" 8),
  faB (.free "all"),
  faB (.glo "is_made_of"),
  faB (.str "LETTERS" "abcdefghijklmnopqrstuvwxyz"),
  faB (.glo "is_name"),
  faB (.free "tuple"),
  faB (.str "LONG" "-"),
  faB (.str "SHORT" "u"),
  faB (.str "UNKNOWN" "?"),
  faB (.int "MOST_SYLLABLES" 4),
  faB (.free "sum"),
  faB (.int "MOST_UNKNOWN" 6),
  methB aC_Reading "take_word",
  faB (.str "JOINT" "joint"),
  faB (.int "JOINT_SIZE" 4),
  faB (.int "MOST_JOINTS" 9),
  faB (.str "DROP" "drop"),
  faB (.str "MAY" "may"),
  faB (.str "STRETCH" "long"),
  methB aC_Reading "take_joint",
  faB (.str "METRE" "metre"),
  faB (.int "METRE_SIZE" 3),
  faB (.int "MOST_METRES" 3),
  faB (.int "MOST_PARTS" 8),
  faB (.str "ENDS" "|"),
  faB (.str "AMID" "!"),
  faB (.str "STAR" "*"),
  faB (.str "FIGURES" "0123456789"),
  faB (.str "SLASH" "/"),
  faB (.int "MOST_FORMS" 3),
  faB (.free "set"),
  faB (.str "EITHER" "x"),
  faB (.glo "forms_in"),
  faB (.glo "parts_in"),
  faB (.int "MOST_DRAWN_OUT" 24),
  faB (.glo "metre_parts"),
  methB aC_Reading "take_metre",
  methB aC_Reading "take",
  faB (.glo "read_lines"),
  clsB aC_Tongue,
  noatB aC_Tongue "own_text",
  noatB aC_Tongue "own_words",
  noatB aC_Tongue "own_names",
  noatB aC_Tongue "own_joints",
  noatB aC_Tongue "own_metres",
  noatB aC_Tongue "own_unknown",
  mkB aC_Tongue,
  gloB "Tongue" aC_Tongue,
  propB aC_Tongue "unknown",
  faB (.glo "is_measure"),
  faB (.glo "check_measure"),
  faB (.glo "is_word"),
  methB aC_Tongue "parts",
  faB (.int "MOST_IN_ROW" 2000),
  methB aC_Tongue "__contains__",
  faB (.glo "is_row"),
  faB (.glo "check_row"),
  clsB aC_Voice,
  noatB aC_Voice "own_tongue",
  noatB aC_Voice "own_parts",
  propB aC_Tongue "words",
  methB aC_Tongue "check_word",
  methB aC_Tongue "__getitem__",
  (fun K => PySem.W.fnIn K (He.ma K aC_Tongue "__getitem__")),
  faB (.glo "spoken"),
  noatB aC_Voice "own_said",
  mkB aC_Voice,
  gloB "Voice" aC_Voice,
  faB (.glo "behind"),
  faB (.glo "feet_begun"),
  faB (.free "sorted"),
  faB (.glo "stepped"),
  faB (.glo "BEGIN"),
  (fun K => He.tupB K "BEGIN" [.int 0, .str ""]),
  methB aC_Voice "led_in",
  methB aC_Voice "first",
  faB (.free "zip"),
  methB aC_Tongue "joint",
  methB aC_Voice "last_step",
  methB aC_Voice "led",
  methB aC_Voice "standing",
  faB (.glo "standing"),
  faB (.free "repr"),
  faB (.glo "_law_right"),
  faB (.glo "law")]
def fns : List He5.DefA := [⟨fun K => He.ga K "_law_places", "_law_places", "_law_places", defArgs s__law_places, defBody s__law_places, defScope s__law_places, [], []⟩,
  ⟨fun K => He.ga K "_law_take", "_law_take", "_law_take", defArgs s__law_take, defBody s__law_take, defScope s__law_take, [], []⟩,
  ⟨fun K => He.ga K "_law_some", "_law_some", "_law_some", defArgs s__law_some, defBody s__law_some, defScope s__law_some, [], []⟩,
  ⟨fun K => He.ga K "_law_names", "_law_names", "_law_names", defArgs s__law_names, defBody s__law_names, defScope s__law_names, [], []⟩,
  ⟨fun K => He.ga K "_law_pot", "_law_pot", "_law_pot", defArgs s__law_pot, defBody s__law_pot, defScope s__law_pot, [], []⟩,
  ⟨fun K => He.ma K aC_Reading "__init__", "__init__", "Reading.__init__", defArgs s_ReadingD_initD, defBody s_ReadingD_initD, defScope s_ReadingD_initD, [], []⟩,
  ⟨fun K => He.ga K "is_made_of", "is_made_of", "is_made_of", defArgs s_is_made_of, defBody s_is_made_of, defScope s_is_made_of, [], []⟩,
  ⟨fun K => He.ga K "is_name", "is_name", "is_name", defArgs s_is_name, defBody s_is_name, defScope s_is_name, [], []⟩,
  ⟨fun K => He.ma K aC_Reading "take_word", "take_word", "Reading.take_word", defArgs s_Reading_take_word, defBody s_Reading_take_word, defScope s_Reading_take_word, [], []⟩,
  ⟨fun K => He.ma K aC_Reading "take_joint", "take_joint", "Reading.take_joint", defArgs s_Reading_take_joint, defBody s_Reading_take_joint, defScope s_Reading_take_joint, [], []⟩,
  ⟨fun K => He.ga K "forms_in", "forms_in", "forms_in", defArgs s_forms_in, defBody s_forms_in, defScope s_forms_in, [], []⟩,
  ⟨fun K => He.ga K "parts_in", "parts_in", "parts_in", defArgs s_parts_in, defBody s_parts_in, defScope s_parts_in, [], []⟩,
  ⟨fun K => He.ga K "metre_parts", "metre_parts", "metre_parts", defArgs s_metre_parts, defBody s_metre_parts, defScope s_metre_parts, [], []⟩,
  ⟨fun K => He.ma K aC_Reading "take_metre", "take_metre", "Reading.take_metre", defArgs s_Reading_take_metre, defBody s_Reading_take_metre, defScope s_Reading_take_metre, [], []⟩,
  ⟨fun K => He.ma K aC_Reading "take", "take", "Reading.take", defArgs s_Reading_take, defBody s_Reading_take, defScope s_Reading_take, [], []⟩,
  ⟨fun K => He.ga K "read_lines", "read_lines", "read_lines", defArgs s_read_lines, defBody s_read_lines, defScope s_read_lines, [], []⟩,
  ⟨fun K => He.ma K aC_Tongue "__init__", "__init__", "Tongue.__init__", defArgs s_TongueD_initD, defBody s_TongueD_initD, defScope s_TongueD_initD, [], []⟩,
  ⟨fun K => getterOf K aC_Tongue "unknown", "unknown", "Tongue.unknown", defArgs s_Tongue_unknown, defBody s_Tongue_unknown, defScope s_Tongue_unknown, [], []⟩,
  ⟨fun K => He.ga K "is_measure", "is_measure", "is_measure", defArgs s_is_measure, defBody s_is_measure, defScope s_is_measure, [], []⟩,
  ⟨fun K => He.ga K "check_measure", "check_measure", "check_measure", defArgs s_check_measure, defBody s_check_measure, defScope s_check_measure, [], []⟩,
  ⟨fun K => He.ga K "is_word", "is_word", "is_word", defArgs s_is_word, defBody s_is_word, defScope s_is_word, [], []⟩,
  ⟨fun K => He.ma K aC_Tongue "parts", "parts", "Tongue.parts", defArgs s_Tongue_parts, defBody s_Tongue_parts, defScope s_Tongue_parts, [], []⟩,
  ⟨fun K => He.ma K aC_Tongue "__contains__", "__contains__", "Tongue.__contains__", defArgs s_TongueD_containsD, defBody s_TongueD_containsD, defScope s_TongueD_containsD, [], []⟩,
  ⟨fun K => He.ga K "is_row", "is_row", "is_row", defArgs s_is_row, defBody s_is_row, defScope s_is_row, [], []⟩,
  ⟨fun K => He.ga K "check_row", "check_row", "check_row", defArgs s_check_row, defBody s_check_row, defScope s_check_row, [], []⟩,
  ⟨fun K => getterOf K aC_Tongue "words", "words", "Tongue.words", defArgs s_Tongue_words, defBody s_Tongue_words, defScope s_Tongue_words, [], []⟩,
  ⟨fun K => He.ma K aC_Tongue "check_word", "check_word", "Tongue.check_word", defArgs s_Tongue_check_word, defBody s_Tongue_check_word, defScope s_Tongue_check_word, [], []⟩,
  ⟨fun K => He.ma K aC_Tongue "__getitem__", "__getitem__", "Tongue.__getitem__", defArgs s_TongueD_getitemD, defBody s_TongueD_getitemD, defScope s_TongueD_getitemD, [], []⟩,
  ⟨fun K => He.ga K "spoken", "spoken", "spoken", defArgs s_spoken, defBody s_spoken, defScope s_spoken, [], []⟩,
  ⟨fun K => He.ma K aC_Voice "__init__", "__init__", "Voice.__init__", defArgs s_VoiceD_initD, defBody s_VoiceD_initD, defScope s_VoiceD_initD, [], []⟩,
  ⟨fun K => He.ga K "behind", "behind", "behind", defArgs s_behind, defBody s_behind, defScope s_behind, [], []⟩,
  ⟨fun K => He.ga K "feet_begun", "feet_begun", "feet_begun", defArgs s_feet_begun, defBody s_feet_begun, defScope s_feet_begun, [], []⟩,
  ⟨fun K => He.ga K "stepped", "stepped", "stepped", defArgs s_stepped, defBody s_stepped, defScope s_stepped, [], []⟩,
  ⟨fun K => He.ma K aC_Voice "led_in", "led_in", "Voice.led_in", defArgs s_Voice_led_in, defBody s_Voice_led_in, defScope s_Voice_led_in, [], []⟩,
  ⟨fun K => He.ma K aC_Voice "first", "first", "Voice.first", defArgs s_Voice_first, defBody s_Voice_first, defScope s_Voice_first, [], []⟩,
  ⟨fun K => He.ma K aC_Tongue "joint", "joint", "Tongue.joint", defArgs s_Tongue_joint, defBody s_Tongue_joint, defScope s_Tongue_joint, [], []⟩,
  ⟨fun K => He.ma K aC_Voice "last_step", "last_step", "Voice.last_step", defArgs s_Voice_last_step, defBody s_Voice_last_step, defScope s_Voice_last_step, [], []⟩,
  ⟨fun K => He.ma K aC_Voice "led", "led", "Voice.led", defArgs s_Voice_led, defBody s_Voice_led, defScope s_Voice_led, [], []⟩,
  ⟨fun K => He.ma K aC_Voice "standing", "standing", "Voice.standing", defArgs s_Voice_standing, defBody s_Voice_standing, defScope s_Voice_standing, [], []⟩,
  ⟨fun K => He.ga K "standing", "standing", "standing", defArgs s_standing, defBody s_standing, defScope s_standing, [], []⟩,
  ⟨fun K => He.ga K "_law_right", "_law_right", "_law_right", defArgs s__law_right, defBody s__law_right, defScope s__law_right, [], []⟩,
  ⟨fun K => He.ga K "law", "law", "law", defArgs s_law, defBody s_law, defScope s_law, [], []⟩]
theorem glo_law {K : PySem.W.Frag} {h : Heap} {mg : Str → Option Value} (X : K.In h) (G : h.Ns mainGlobals mg) (c : SaysM exs fns K) : mg "law" = some (.ref (He.ga K "law")) := He.glo_ok X G (c.ok 110 rfl)
theorem fx_of {K : PySem.W.Frag} {h : Heap} {mg : Str → Option Value} (X : K.In h) (G : h.Ns mainGlobals mg) (c : SaysM exs fns K) : Fx K mg where
  n_len := He.free_ok X G (c.ok 0 rfl)
  n_min := He.free_ok X G (c.ok 1 rfl)
  n_max := He.free_ok X G (c.ok 2 rfl)
  n_list := He.free_ok X G (c.ok 3 rfl)
  n_range := He.free_ok X G (c.ok 4 rfl)
  g__law_places := He.glo_ok X G (c.ok 5 rfl)
  n_int := He.free_ok X G (c.ok 6 rfl)
  g__law_take := He.glo_ok X G (c.ok 7 rfl)
  g__law_some := He.glo_ok X G (c.ok 8 rfl)
  g__law_names := He.glo_ok X G (c.ok 9 rfl)
  n_abs := He.free_ok X G (c.ok 10 rfl)
  g__law_pot := He.glo_ok X G (c.ok 11 rfl)
  n_isinstance := He.free_ok X G (c.ok 12 rfl)
  n_str := He.free_ok X G (c.ok 13 rfl)
  s_FEED := (let ⟨t, e⟩ := He.str_ok X G (c.ok 14 rfl); ⟨_, e, t, rfl⟩)
  c_Reading := clsB_ok (c.ok 15 rfl)
  na_Reading_named_words := noatB_ok (c.ok 16 rfl)
  na_Reading_named_joints := noatB_ok (c.ok 17 rfl)
  na_Reading_named_metres := noatB_ok (c.ok 18 rfl)
  mk_Reading := mkB_ok (c.ok 19 rfl)
  g_Reading := gloB_ok X G (c.ok 20 rfl)
  n_enumerate := He.free_ok X G (c.ok 21 rfl)
  s_BLANK := (let ⟨t, e⟩ := He.str_ok X G (c.ok 22 rfl); ⟨_, e, t, rfl⟩)
  s_WORD := (let ⟨t, e⟩ := He.str_ok X G (c.ok 23 rfl); ⟨_, e, t, rfl⟩)
  i_WORD_SIZE := (let ⟨t, e⟩ := He.int_ok X G (c.ok 24 rfl); ⟨_, e, t, rfl⟩)
  i_MOST_WORDS := (let ⟨t, e⟩ := He.int_ok X G (c.ok 25 rfl); ⟨_, e, t, rfl⟩)
  i_MOST_SIGNS := (let ⟨t, e⟩ := He.int_ok X G (c.ok 26 rfl); ⟨_, e, t, rfl⟩)
  n_all := He.free_ok X G (c.ok 27 rfl)
  g_is_made_of := He.glo_ok X G (c.ok 28 rfl)
  s_LETTERS := (let ⟨t, e⟩ := He.str_ok X G (c.ok 29 rfl); ⟨_, e, t, rfl⟩)
  g_is_name := He.glo_ok X G (c.ok 30 rfl)
  n_tuple := He.free_ok X G (c.ok 31 rfl)
  s_LONG := (let ⟨t, e⟩ := He.str_ok X G (c.ok 32 rfl); ⟨_, e, t, rfl⟩)
  s_SHORT := (let ⟨t, e⟩ := He.str_ok X G (c.ok 33 rfl); ⟨_, e, t, rfl⟩)
  s_UNKNOWN := (let ⟨t, e⟩ := He.str_ok X G (c.ok 34 rfl); ⟨_, e, t, rfl⟩)
  i_MOST_SYLLABLES := (let ⟨t, e⟩ := He.int_ok X G (c.ok 35 rfl); ⟨_, e, t, rfl⟩)
  n_sum := He.free_ok X G (c.ok 36 rfl)
  i_MOST_UNKNOWN := (let ⟨t, e⟩ := He.int_ok X G (c.ok 37 rfl); ⟨_, e, t, rfl⟩)
  m_Reading_take_word := methB_ok (c.ok 38 rfl)
  s_JOINT := (let ⟨t, e⟩ := He.str_ok X G (c.ok 39 rfl); ⟨_, e, t, rfl⟩)
  i_JOINT_SIZE := (let ⟨t, e⟩ := He.int_ok X G (c.ok 40 rfl); ⟨_, e, t, rfl⟩)
  i_MOST_JOINTS := (let ⟨t, e⟩ := He.int_ok X G (c.ok 41 rfl); ⟨_, e, t, rfl⟩)
  s_DROP := (let ⟨t, e⟩ := He.str_ok X G (c.ok 42 rfl); ⟨_, e, t, rfl⟩)
  s_MAY := (let ⟨t, e⟩ := He.str_ok X G (c.ok 43 rfl); ⟨_, e, t, rfl⟩)
  s_STRETCH := (let ⟨t, e⟩ := He.str_ok X G (c.ok 44 rfl); ⟨_, e, t, rfl⟩)
  m_Reading_take_joint := methB_ok (c.ok 45 rfl)
  s_METRE := (let ⟨t, e⟩ := He.str_ok X G (c.ok 46 rfl); ⟨_, e, t, rfl⟩)
  i_METRE_SIZE := (let ⟨t, e⟩ := He.int_ok X G (c.ok 47 rfl); ⟨_, e, t, rfl⟩)
  i_MOST_METRES := (let ⟨t, e⟩ := He.int_ok X G (c.ok 48 rfl); ⟨_, e, t, rfl⟩)
  i_MOST_PARTS := (let ⟨t, e⟩ := He.int_ok X G (c.ok 49 rfl); ⟨_, e, t, rfl⟩)
  s_ENDS := (let ⟨t, e⟩ := He.str_ok X G (c.ok 50 rfl); ⟨_, e, t, rfl⟩)
  s_AMID := (let ⟨t, e⟩ := He.str_ok X G (c.ok 51 rfl); ⟨_, e, t, rfl⟩)
  s_STAR := (let ⟨t, e⟩ := He.str_ok X G (c.ok 52 rfl); ⟨_, e, t, rfl⟩)
  s_FIGURES := (let ⟨t, e⟩ := He.str_ok X G (c.ok 53 rfl); ⟨_, e, t, rfl⟩)
  s_SLASH := (let ⟨t, e⟩ := He.str_ok X G (c.ok 54 rfl); ⟨_, e, t, rfl⟩)
  i_MOST_FORMS := (let ⟨t, e⟩ := He.int_ok X G (c.ok 55 rfl); ⟨_, e, t, rfl⟩)
  n_set := He.free_ok X G (c.ok 56 rfl)
  s_EITHER := (let ⟨t, e⟩ := He.str_ok X G (c.ok 57 rfl); ⟨_, e, t, rfl⟩)
  g_forms_in := He.glo_ok X G (c.ok 58 rfl)
  g_parts_in := He.glo_ok X G (c.ok 59 rfl)
  i_MOST_DRAWN_OUT := (let ⟨t, e⟩ := He.int_ok X G (c.ok 60 rfl); ⟨_, e, t, rfl⟩)
  g_metre_parts := He.glo_ok X G (c.ok 61 rfl)
  m_Reading_take_metre := methB_ok (c.ok 62 rfl)
  m_Reading_take := methB_ok (c.ok 63 rfl)
  g_read_lines := He.glo_ok X G (c.ok 64 rfl)
  c_Tongue := clsB_ok (c.ok 65 rfl)
  na_Tongue_own_text := noatB_ok (c.ok 66 rfl)
  na_Tongue_own_words := noatB_ok (c.ok 67 rfl)
  na_Tongue_own_names := noatB_ok (c.ok 68 rfl)
  na_Tongue_own_joints := noatB_ok (c.ok 69 rfl)
  na_Tongue_own_metres := noatB_ok (c.ok 70 rfl)
  na_Tongue_own_unknown := noatB_ok (c.ok 71 rfl)
  mk_Tongue := mkB_ok (c.ok 72 rfl)
  g_Tongue := gloB_ok X G (c.ok 73 rfl)
  p_Tongue_unknown := propB_ok (c.ok 74 rfl)
  g_is_measure := He.glo_ok X G (c.ok 75 rfl)
  g_check_measure := He.glo_ok X G (c.ok 76 rfl)
  g_is_word := He.glo_ok X G (c.ok 77 rfl)
  m_Tongue_parts := methB_ok (c.ok 78 rfl)
  i_MOST_IN_ROW := (let ⟨t, e⟩ := He.int_ok X G (c.ok 79 rfl); ⟨_, e, t, rfl⟩)
  m_Tongue_DcontainsD := methB_ok (c.ok 80 rfl)
  g_is_row := He.glo_ok X G (c.ok 81 rfl)
  g_check_row := He.glo_ok X G (c.ok 82 rfl)
  c_Voice := clsB_ok (c.ok 83 rfl)
  na_Voice_own_tongue := noatB_ok (c.ok 84 rfl)
  na_Voice_own_parts := noatB_ok (c.ok 85 rfl)
  p_Tongue_words := propB_ok (c.ok 86 rfl)
  m_Tongue_check_word := methB_ok (c.ok 87 rfl)
  m_Tongue_DgetitemD := methB_ok (c.ok 88 rfl)
  f_Tongue_DgetitemD := (c.ok 89 rfl)
  g_spoken := He.glo_ok X G (c.ok 90 rfl)
  na_Voice_own_said := noatB_ok (c.ok 91 rfl)
  mk_Voice := mkB_ok (c.ok 92 rfl)
  g_Voice := gloB_ok X G (c.ok 93 rfl)
  g_behind := He.glo_ok X G (c.ok 94 rfl)
  g_feet_begun := He.glo_ok X G (c.ok 95 rfl)
  n_sorted := He.free_ok X G (c.ok 96 rfl)
  g_stepped := He.glo_ok X G (c.ok 97 rfl)
  g_BEGIN := He.glo_ok X G (c.ok 98 rfl)
  t_BEGIN := He.tupB_ok (c.ok 99 rfl)
  m_Voice_led_in := methB_ok (c.ok 100 rfl)
  m_Voice_first := methB_ok (c.ok 101 rfl)
  n_zip := He.free_ok X G (c.ok 102 rfl)
  m_Tongue_joint := methB_ok (c.ok 103 rfl)
  m_Voice_last_step := methB_ok (c.ok 104 rfl)
  m_Voice_led := methB_ok (c.ok 105 rfl)
  m_Voice_standing := methB_ok (c.ok 106 rfl)
  g_standing := He.glo_ok X G (c.ok 107 rfl)
  n_repr := He.free_ok X G (c.ok 108 rfl)
  g__law_right := He.glo_ok X G (c.ok 109 rfl)
  d__law_places := c.def_ 0 rfl
  d__law_take := c.def_ 1 rfl
  d__law_some := c.def_ 2 rfl
  d__law_names := c.def_ 3 rfl
  d__law_pot := c.def_ 4 rfl
  d_ReadingD_initD := c.def_ 5 rfl
  d_is_made_of := c.def_ 6 rfl
  d_is_name := c.def_ 7 rfl
  d_Reading_take_word := c.def_ 8 rfl
  d_Reading_take_joint := c.def_ 9 rfl
  d_forms_in := c.def_ 10 rfl
  d_parts_in := c.def_ 11 rfl
  d_metre_parts := c.def_ 12 rfl
  d_Reading_take_metre := c.def_ 13 rfl
  d_Reading_take := c.def_ 14 rfl
  d_read_lines := c.def_ 15 rfl
  d_TongueD_initD := c.def_ 16 rfl
  d_Tongue_unknown := c.def_ 17 rfl
  d_is_measure := c.def_ 18 rfl
  d_check_measure := c.def_ 19 rfl
  d_is_word := c.def_ 20 rfl
  d_Tongue_parts := c.def_ 21 rfl
  d_TongueD_containsD := c.def_ 22 rfl
  d_is_row := c.def_ 23 rfl
  d_check_row := c.def_ 24 rfl
  d_Tongue_words := c.def_ 25 rfl
  d_Tongue_check_word := c.def_ 26 rfl
  d_TongueD_getitemD := c.def_ 27 rfl
  d_spoken := c.def_ 28 rfl
  d_VoiceD_initD := c.def_ 29 rfl
  d_behind := c.def_ 30 rfl
  d_feet_begun := c.def_ 31 rfl
  d_stepped := c.def_ 32 rfl
  d_Voice_led_in := c.def_ 33 rfl
  d_Voice_first := c.def_ 34 rfl
  d_Tongue_joint := c.def_ 35 rfl
  d_Voice_last_step := c.def_ 36 rfl
  d_Voice_led := c.def_ 37 rfl
  d_Voice_standing := c.def_ 38 rfl
  d_standing := c.def_ 39 rfl
  d__law_right := c.def_ 40 rfl
  d_law := c.def_ 41 rfl
end G
namespace G
open PySem PySem.Spec PyProof.Rows L2 DL
abbrev nN : Nat := 2
noncomputable def bP_ReadingD_initD : DS := (sSeq (sFldSet aC_Reading ⟨⟨[110, 97, 109, 101, 100, 95, 119, 111, 114, 100, 115]⟩⟩ (dVar 0) dNewD) (sSeq (sFldSet aC_Reading ⟨⟨[110, 97, 109, 101, 100, 95, 106, 111, 105, 110, 116, 115]⟩⟩ (dVar 0) dNewD) (sFldSet aC_Reading ⟨⟨[110, 97, 109, 101, 100, 95, 109, 101, 116, 114, 101, 115]⟩⟩ (dVar 0) dNewD)))
noncomputable def mP_ReadingD_initD : VF := fnBody 1 1 bP_ReadingD_initD
noncomputable def bL_ReadingD_initD : DS := (sSeqF (sFldSetF aC_Reading ⟨⟨[110, 97, 109, 101, 100, 95, 119, 111, 114, 100, 115]⟩⟩ (dVarF 0) (dres dNewD)) (sSeqF (sFldSetF aC_Reading ⟨⟨[110, 97, 109, 101, 100, 95, 106, 111, 105, 110, 116, 115]⟩⟩ (dVarF 0) (dres dNewD)) (sFldSetF aC_Reading ⟨⟨[110, 97, 109, 101, 100, 95, 109, 101, 116, 114, 101, 115]⟩⟩ (dVarF 0) (dres dNewD))))
noncomputable def mL_ReadingD_initD : VF := fnBodyF 1 1 bL_ReadingD_initD
theorem l_ReadingD_initD : mL_ReadingD_initD = mP_ReadingD_initD := by
  unfold mL_ReadingD_initD mP_ReadingD_initD bL_ReadingD_initD bP_ReadingD_initD
  simp only [sSeqF_eq, sForF_eq, sAsgF_eq, sRetF_eq, dLc2F_eq, dLcF_eq, dVarF_eq, fnBodyF_eq, vApartF_eq, sFldSetF_eq, fres_eq, fmut_eq, dres_eq, dConsF_eq, vFldF_eq, dMethF_eq, vMakeF_eq, vNameOkF_eq]
theorem q_ReadingD_initD {ν : Nat → List Nat} (N : Nam ν nN) (h_is_name : ∀ i μ, vApart m_is_name [.str ⟨⟨ν i⟩⟩] μ = .ok (.bl true) μ) : QF ν mP_ReadingD_initD m_ReadingD_initD := show QF ν (fnBody 1 1 bP_ReadingD_initD) (fnBody 1 1 b_ReadingD_initD) from qBody (show QS ν bP_ReadingD_initD b_ReadingD_initD from (qsSeq (qsFld qVar qNewD) (qsSeq (qsFld qVar qNewD) (qsFld qVar qNewD))))
noncomputable def bP_Reading_take_joint : DS := (sSeq (sAsg (dOrVG (dApp (vEqG nN) (dCons (dApp (vFld aC_Reading ⟨⟨[110, 97, 109, 101, 100, 95, 119, 111, 114, 100, 115]⟩⟩) (dCons (dVar 0) dNil)) (dCons dNewD dNil))) (dApp (vNeG nN) (dCons (dApp (vFld aC_Reading ⟨⟨[110, 97, 109, 101, 100, 95, 109, 101, 116, 114, 101, 115]⟩⟩) (dCons (dVar 0) dNil)) (dCons dNewD dNil)))) (gSet 2)) (sSeq (sIf (dOr (dTest (dApp (vNeG nN) (dCons (dApp vLenG (dCons (dVar 1) dNil)) (dCons (dC (.int 4)) dNil)))) (dOr (dTest (dApp (vEqG nN) (dCons (dApp vLenG (dCons (dApp (vFld aC_Reading ⟨⟨[110, 97, 109, 101, 100, 95, 106, 111, 105, 110, 116, 115]⟩⟩) (dCons (dVar 0) dNil)) dNil)) (dCons (dC (.int 9)) dNil)))) (dTruG (dVar 2)))) (sRet (dC (.bl false))) sNil) (sSeq (sAsg (dCutG (dVar 1) (dPart (dC (.int 1))) dNoPart) (gTupA 3 (gCons' (gSet 3) (gCons' (gSet 4) (gCons' (gSet 5) gNil'))))) (sSeq (sIf (dOr (dTest (dApp (vNotInG nN) (dCons (dVar 3) (dCons (dApp vTupleG (dCons (dC (.str ⟨⟨[97, 98, 99, 100, 101, 102, 103, 104, 105, 106, 107, 108, 109, 110, 111, 112, 113, 114, 115, 116, 117, 118, 119, 120, 121, 122]⟩⟩)) dNil)) dNil)))) (dOr (dTest (dApp (vNotInG nN) (dCons (dVar 4) (dCons (dApp vTupleG (dCons (dC (.str ⟨⟨[97, 98, 99, 100, 101, 102, 103, 104, 105, 106, 107, 108, 109, 110, 111, 112, 113, 114, 115, 116, 117, 118, 119, 120, 121, 122]⟩⟩)) dNil)) dNil)))) (dTest (dApp (vNotInG nN) (dCons (dVar 5) (dCons (dApp vTup (dCons (dC (.str ⟨⟨[100, 114, 111, 112]⟩⟩)) (dCons (dC (.str ⟨⟨[109, 97, 121]⟩⟩)) (dCons (dC (.str ⟨⟨[108, 111, 110, 103]⟩⟩)) dNil)))) dNil)))))) (sRet (dC (.bl false))) sNil) (sSeq (sIf (dTest (dApp (vInG nN) (dCons (dApp vTup (dCons (dVar 3) (dCons (dVar 4) dNil))) (dCons (dApp (vFld aC_Reading ⟨⟨[110, 97, 109, 101, 100, 95, 106, 111, 105, 110, 116, 115]⟩⟩) (dCons (dVar 0) dNil)) dNil)))) (sRet (dC (.bl false))) sNil) (sSeq (sAsg (dVar 5) (gItemG nN (dApp (vFld aC_Reading ⟨⟨[110, 97, 109, 101, 100, 95, 106, 111, 105, 110, 116, 115]⟩⟩) (dCons (dVar 0) dNil)) (dApp vTup (dCons (dVar 3) (dCons (dVar 4) dNil))))) (sRet (dC (.bl true)))))))))
noncomputable def mP_Reading_take_joint : VF := fnBody 2 6 bP_Reading_take_joint
noncomputable def bL_Reading_take_joint : DS := (sSeqF (sAsgF (dOrVG (dApp (vEqG nN) (dConsF (dApp (vFldF aC_Reading ⟨⟨[110, 97, 109, 101, 100, 95, 119, 111, 114, 100, 115]⟩⟩) (dCons (dVarF 0) dNil)) (dConsF (dres dNewD) dNil))) (dApp (vNeG nN) (dConsF (dApp (vFldF aC_Reading ⟨⟨[110, 97, 109, 101, 100, 95, 109, 101, 116, 114, 101, 115]⟩⟩) (dCons (dVarF 0) dNil)) (dConsF (dres dNewD) dNil)))) (gSet 2)) (sSeqF (sIf (dOr (dTest (dApp (vNeG nN) (dConsF (dApp vLenG (dCons (dVarF 1) dNil)) (dCons (dC (.int 4)) dNil)))) (dOr (dTest (dApp (vEqG nN) (dConsF (dApp vLenG (dConsF (dApp (vFldF aC_Reading ⟨⟨[110, 97, 109, 101, 100, 95, 106, 111, 105, 110, 116, 115]⟩⟩) (dCons (dVarF 0) dNil)) dNil)) (dCons (dC (.int 9)) dNil)))) (dTruG (dVarF 2)))) (sRetF (dC (.bl false))) sNil) (sSeqF (sAsgF (dres (dCutG (dVarF 1) (dPart (dC (.int 1))) dNoPart)) (gTupA 3 (gCons' (gSet 3) (gCons' (gSet 4) (gCons' (gSet 5) gNil'))))) (sSeqF (sIf (dOr (dTest (dApp (vNotInG nN) (dCons (dVarF 3) (dConsF (dApp (fres vTupleG) (dCons (dC (.str ⟨⟨[97, 98, 99, 100, 101, 102, 103, 104, 105, 106, 107, 108, 109, 110, 111, 112, 113, 114, 115, 116, 117, 118, 119, 120, 121, 122]⟩⟩)) dNil)) dNil)))) (dOr (dTest (dApp (vNotInG nN) (dCons (dVarF 4) (dConsF (dApp (fres vTupleG) (dCons (dC (.str ⟨⟨[97, 98, 99, 100, 101, 102, 103, 104, 105, 106, 107, 108, 109, 110, 111, 112, 113, 114, 115, 116, 117, 118, 119, 120, 121, 122]⟩⟩)) dNil)) dNil)))) (dTest (dApp (vNotInG nN) (dCons (dVarF 5) (dConsF (dApp vTup (dCons (dC (.str ⟨⟨[100, 114, 111, 112]⟩⟩)) (dCons (dC (.str ⟨⟨[109, 97, 121]⟩⟩)) (dCons (dC (.str ⟨⟨[108, 111, 110, 103]⟩⟩)) dNil)))) dNil)))))) (sRetF (dC (.bl false))) sNil) (sSeqF (sIf (dTest (dApp (vInG nN) (dConsF (dApp vTup (dCons (dVarF 3) (dCons (dVarF 4) dNil))) (dConsF (dApp (vFldF aC_Reading ⟨⟨[110, 97, 109, 101, 100, 95, 106, 111, 105, 110, 116, 115]⟩⟩) (dCons (dVarF 0) dNil)) dNil)))) (sRetF (dC (.bl false))) sNil) (sSeqF (sAsgF (dVarF 5) (gItemG nN (dApp (vFldF aC_Reading ⟨⟨[110, 97, 109, 101, 100, 95, 106, 111, 105, 110, 116, 115]⟩⟩) (dCons (dVarF 0) dNil)) (dApp vTup (dCons (dVarF 3) (dCons (dVarF 4) dNil))))) (sRetF (dC (.bl true)))))))))
noncomputable def mL_Reading_take_joint : VF := fnBodyF 2 6 bL_Reading_take_joint
theorem l_Reading_take_joint : mL_Reading_take_joint = mP_Reading_take_joint := by
  unfold mL_Reading_take_joint mP_Reading_take_joint bL_Reading_take_joint bP_Reading_take_joint
  simp only [sSeqF_eq, sForF_eq, sAsgF_eq, sRetF_eq, dLc2F_eq, dLcF_eq, dVarF_eq, fnBodyF_eq, vApartF_eq, sFldSetF_eq, fres_eq, fmut_eq, dres_eq, dConsF_eq, vFldF_eq, dMethF_eq, vMakeF_eq, vNameOkF_eq]
theorem q_Reading_take_joint {ν : Nat → List Nat} (N : Nam ν nN) (h_is_name : ∀ i μ, vApart m_is_name [.str ⟨⟨ν i⟩⟩] μ = .ok (.bl true) μ) : QF ν mP_Reading_take_joint m_Reading_take_joint := show QF ν (fnBody 2 6 bP_Reading_take_joint) (fnBody 2 6 b_Reading_take_joint) from qBody (show QS ν bP_Reading_take_joint b_Reading_take_joint from (qsSeq (qsAsg (qOrV (qApp (q_vEq N) (qCons (qApp qFld (qCons qVar qNil)) (qCons qNewD qNil))) (qApp (q_vNe N) (qCons (qApp qFld (qCons qVar qNil)) (qCons qNewD qNil)))) qgSet) (qsSeq (qsIf (qOr (qTest (qApp (q_vNe N) (qCons (qApp q_vLen (qCons qVar qNil)) (qCons qCi qNil)))) (qOr (qTest (qApp (q_vEq N) (qCons (qApp q_vLen (qCons (qApp qFld (qCons qVar qNil)) qNil)) (qCons qCi qNil)))) (qTru qVar))) (qsRet qCb) qsNil) (qsSeq (qsAsg (qCut qVar (qPart qCi) qNoPart) (qgTup (qgCons qgSet (qgCons qgSet (qgCons qgSet qgNil))))) (qsSeq (qsIf (qOr (qTest (qApp (q_vNotIn N) (qCons qVar (qCons (qApp q_vTuple (qCons (qCs (by kernel_rfl) (by kernel_rfl)) qNil)) qNil)))) (qOr (qTest (qApp (q_vNotIn N) (qCons qVar (qCons (qApp q_vTuple (qCons (qCs (by kernel_rfl) (by kernel_rfl)) qNil)) qNil)))) (qTest (qApp (q_vNotIn N) (qCons qVar (qCons (qApp q_vTup (qCons (qCs (by kernel_rfl) (by kernel_rfl)) (qCons (qCs (by kernel_rfl) (by kernel_rfl)) (qCons (qCs (by kernel_rfl) (by kernel_rfl)) qNil)))) qNil)))))) (qsRet qCb) qsNil) (qsSeq (qsIf (qTest (qApp (q_vIn N) (qCons (qApp q_vTup (qCons qVar (qCons qVar qNil))) (qCons (qApp qFld (qCons qVar qNil)) qNil)))) (qsRet qCb) qsNil) (qsSeq (qsAsg qVar (qgItem N (qApp qFld (qCons qVar qNil)) (qApp q_vTup (qCons qVar (qCons qVar qNil))))) (qsRet qCb))))))))
noncomputable def bP_is_made_of : DS := (sRet (dAndVG (dApp (vNeG nN) (dCons (dVar 0) (dCons (dC (.str ⟨⟨[]⟩⟩)) dNil))) (dApp vAll (dCons (dLc (dItAG (dVar 0)) (gSet 2) tYes' (dApp (vInG nN) (dCons (dVar 2) (dCons (dVar 1) dNil))) [2]) dNil))))
noncomputable def mP_is_made_of : VF := fnBody 2 3 bP_is_made_of
noncomputable def bL_is_made_of : DS := (sRetF (dAndVG (dApp (vNeG nN) (dCons (dVarF 0) (dCons (dC (.str ⟨⟨[]⟩⟩)) dNil))) (dApp vAll (dConsF (dLcF (dItAG (dVarF 0)) (gSet 2) tYes' (dApp (vInG nN) (dCons (dVarF 2) (dCons (dVarF 1) dNil))) [2]) dNil))))
noncomputable def mL_is_made_of : VF := fnBodyF 2 3 bL_is_made_of
theorem l_is_made_of : mL_is_made_of = mP_is_made_of := by
  unfold mL_is_made_of mP_is_made_of bL_is_made_of bP_is_made_of
  simp only [sSeqF_eq, sForF_eq, sAsgF_eq, sRetF_eq, dLc2F_eq, dLcF_eq, dVarF_eq, fnBodyF_eq, vApartF_eq, sFldSetF_eq, fres_eq, fmut_eq, dres_eq, dConsF_eq, vFldF_eq, dMethF_eq, vMakeF_eq, vNameOkF_eq]
theorem q_is_made_of {ν : Nat → List Nat} (N : Nam ν nN) (h_is_name : ∀ i μ, vApart m_is_name [.str ⟨⟨ν i⟩⟩] μ = .ok (.bl true) μ) : QF ν mP_is_made_of m_is_made_of := show QF ν (fnBody 2 3 bP_is_made_of) (fnBody 2 3 b_is_made_of) from qBody (show QS ν bP_is_made_of b_is_made_of from (qsRet (qAndV (qApp (q_vNe N) (qCons qVar (qCons (qCs (by kernel_rfl) (by kernel_rfl)) qNil))) (qApp q_vAll (qCons (qLc (qItA qVar) qgSet qYes (qApp (q_vIn N) (qCons qVar (qCons qVar qNil)))) qNil)))))
noncomputable def bP_is_name : DS := (sRet (dAndVG (dApp vLe (dCons (dApp vLenG (dCons (dVar 0) dNil)) (dCons (dC (.int 8)) dNil))) (dApp (vApart mP_is_made_of) (dCons (dVar 0) (dCons (dC (.str ⟨⟨[97, 98, 99, 100, 101, 102, 103, 104, 105, 106, 107, 108, 109, 110, 111, 112, 113, 114, 115, 116, 117, 118, 119, 120, 121, 122]⟩⟩)) dNil)))))
noncomputable def mP_is_name : VF := fnBody 1 1 bP_is_name
noncomputable def bL_is_name : DS := (sRetF (dAndVG (dApp vLe (dConsF (dApp vLenG (dCons (dVarF 0) dNil)) (dCons (dC (.int 8)) dNil))) (dApp (vApartF mL_is_made_of) (dCons (dVarF 0) (dCons (dC (.str ⟨⟨[97, 98, 99, 100, 101, 102, 103, 104, 105, 106, 107, 108, 109, 110, 111, 112, 113, 114, 115, 116, 117, 118, 119, 120, 121, 122]⟩⟩)) dNil)))))
noncomputable def mL_is_name : VF := fnBodyF 1 1 bL_is_name
theorem l_is_name : mL_is_name = mP_is_name := by
  unfold mL_is_name mP_is_name bL_is_name bP_is_name
  simp only [sSeqF_eq, sForF_eq, sAsgF_eq, sRetF_eq, dLc2F_eq, dLcF_eq, dVarF_eq, fnBodyF_eq, vApartF_eq, sFldSetF_eq, fres_eq, fmut_eq, dres_eq, dConsF_eq, vFldF_eq, dMethF_eq, vMakeF_eq, vNameOkF_eq, l_is_made_of]
theorem q_is_name {ν : Nat → List Nat} (N : Nam ν nN) (h_is_name : ∀ i μ, vApart m_is_name [.str ⟨⟨ν i⟩⟩] μ = .ok (.bl true) μ) : QF ν mP_is_name m_is_name := show QF ν (fnBody 1 1 bP_is_name) (fnBody 1 1 b_is_name) from qBody (show QS ν bP_is_name b_is_name from (qsRet (qAndV (qApp q_vLe (qCons (qApp q_vLen (qCons qVar qNil)) (qCons qCi qNil))) (qApp (qApart (q_is_made_of N h_is_name)) (qCons qVar (qCons (qCs (by kernel_rfl) (by kernel_rfl)) qNil))))))
noncomputable def bP_forms_in : DS := (sSeq (sAsg (dM isStrP vSplitG (dVar 0) (dCons (dC (.str ⟨⟨[47]⟩⟩)) dNil)) (gSet 1)) (sSeq (sIf (dOr (dTest (dApp vGt (dCons (dApp vLenG (dCons (dVar 1) dNil)) (dCons (dC (.int 3)) dNil)))) (dTest (dApp vLt (dCons (dApp vLenSetG (dCons (dVar 1) dNil)) (dCons (dApp vLenG (dCons (dVar 1) dNil)) dNil))))) (sRet (dC .non)) sNil) (sSeq (sFor (dItAG (dVar 1)) (gSet 2) (sIf (dOr (dTest (dApp vGt (dCons (dApp vLenG (dCons (dVar 2) dNil)) (dCons (dC (.int 4)) dNil)))) (dNot (dTruG (dApp (vApart mP_is_made_of) (dCons (dVar 2) (dCons (dApp vTup (dCons (dC (.str ⟨⟨[45]⟩⟩)) (dCons (dC (.str ⟨⟨[117]⟩⟩)) (dCons (dC (.str ⟨⟨[120]⟩⟩)) dNil)))) dNil)))))) (sRet (dC .non)) sNil)) (sRet (dApp vTupleG (dCons (dVar 1) dNil))))))
noncomputable def mP_forms_in : VF := fnBody 1 3 bP_forms_in
noncomputable def bL_forms_in : DS := (sSeqF (sAsgF (dM isStrP (fres vSplitG) (dVarF 0) (dCons (dC (.str ⟨⟨[47]⟩⟩)) dNil)) (gSet 1)) (sSeqF (sIf (dOr (dTest (dApp vGt (dConsF (dApp vLenG (dCons (dVarF 1) dNil)) (dCons (dC (.int 3)) dNil)))) (dTest (dApp vLt (dConsF (dApp vLenSetG (dCons (dVarF 1) dNil)) (dConsF (dApp vLenG (dCons (dVarF 1) dNil)) dNil))))) (sRetF (dC .non)) sNil) (sSeqF (sForF (dItAG (dVarF 1)) (gSet 2) (sIf (dOr (dTest (dApp vGt (dConsF (dApp vLenG (dCons (dVarF 2) dNil)) (dCons (dC (.int 4)) dNil)))) (dNot (dTruG (dApp (vApartF mL_is_made_of) (dCons (dVarF 2) (dConsF (dApp vTup (dCons (dC (.str ⟨⟨[45]⟩⟩)) (dCons (dC (.str ⟨⟨[117]⟩⟩)) (dCons (dC (.str ⟨⟨[120]⟩⟩)) dNil)))) dNil)))))) (sRetF (dC .non)) sNil)) (sRetF (dApp (fres vTupleG) (dCons (dVarF 1) dNil))))))
noncomputable def mL_forms_in : VF := fnBodyF 1 3 bL_forms_in
theorem l_forms_in : mL_forms_in = mP_forms_in := by
  unfold mL_forms_in mP_forms_in bL_forms_in bP_forms_in
  simp only [sSeqF_eq, sForF_eq, sAsgF_eq, sRetF_eq, dLc2F_eq, dLcF_eq, dVarF_eq, fnBodyF_eq, vApartF_eq, sFldSetF_eq, fres_eq, fmut_eq, dres_eq, dConsF_eq, vFldF_eq, dMethF_eq, vMakeF_eq, vNameOkF_eq, l_is_made_of]
theorem q_forms_in {ν : Nat → List Nat} (N : Nam ν nN) (h_is_name : ∀ i μ, vApart m_is_name [.str ⟨⟨ν i⟩⟩] μ = .ok (.bl true) μ) : QF ν mP_forms_in m_forms_in := show QF ν (fnBody 1 3 bP_forms_in) (fnBody 1 3 b_forms_in) from qBody (show QS ν bP_forms_in b_forms_in from (qsSeq (qsAsg (qM t_str (q_vSplit N) qVar (qCons (qCs (by kernel_rfl) (by kernel_rfl)) qNil)) qgSet) (qsSeq (qsIf (qOr (qTest (qApp q_vGt (qCons (qApp q_vLen (qCons qVar qNil)) (qCons qCi qNil)))) (qTest (qApp q_vLt (qCons (qApp q_vLenSet (qCons qVar qNil)) (qCons (qApp q_vLen (qCons qVar qNil)) qNil))))) (qsRet qCn) qsNil) (qsSeq (qsFor (qItA qVar) qgSet (qsIf (qOr (qTest (qApp q_vGt (qCons (qApp q_vLen (qCons qVar qNil)) (qCons qCi qNil)))) (qNot (qTru (qApp (qApart (q_is_made_of N h_is_name)) (qCons qVar (qCons (qApp q_vTup (qCons (qCs (by kernel_rfl) (by kernel_rfl)) (qCons (qCs (by kernel_rfl) (by kernel_rfl)) (qCons (qCs (by kernel_rfl) (by kernel_rfl)) qNil)))) qNil)))))) (qsRet qCn) qsNil)) (qsRet (qApp q_vTuple (qCons qVar qNil)))))))
noncomputable def bP_parts_in : DS := (sSeq (sIf (dTest (dApp (vInG nN) (dCons (dVar 0) (dCons (dApp vTup (dCons (dC (.str ⟨⟨[124]⟩⟩)) (dCons (dC (.str ⟨⟨[33]⟩⟩)) dNil))) dNil)))) (sRet (dApp vTup (dCons (dVar 0) dNil))) sNil) (sSeq (sPar 1 2 (dCons (dC (.int 1)) (dCons (dApp (vEqG nN) (dCons (dApp (vIxG nN) (dCons (dVar 0) (dCons (dC (.int 0)) dNil))) (dCons (dC (.str ⟨⟨[42]⟩⟩)) dNil))) dNil))) (sSeq (sIf (dTruG (dVar 2)) (sAsg (dCutG (dVar 0) (dPart (dC (.int 1))) dNoPart) (gSet 0)) (sIf (dAnd (dTest (dApp vGt (dCons (dApp vLenG (dCons (dVar 0) dNil)) (dCons (dC (.int 1)) dNil)))) (dAnd (dTest (dApp (vEqG nN) (dCons (dApp (vIxG nN) (dCons (dVar 0) (dCons (dC (.int 1)) dNil))) (dCons (dC (.str ⟨⟨[42]⟩⟩)) dNil)))) (dTest (dApp (vInG nN) (dCons (dApp (vIxG nN) (dCons (dVar 0) (dCons (dC (.int 0)) dNil))) (dCons (dCutG (dC (.str ⟨⟨[48, 49, 50, 51, 52, 53, 54, 55, 56, 57]⟩⟩)) (dPart (dC (.int 2))) dNoPart) dNil)))))) (sPar 1 0 (dCons (dApp vIntG (dCons (dApp (vIxG nN) (dCons (dVar 0) (dCons (dC (.int 0)) dNil))) dNil)) (dCons (dCutG (dVar 0) (dPart (dC (.int 2))) dNoPart) dNil))) sNil)) (sSeq (sAsg (dApp (vApart mP_forms_in) (dCons (dVar 0) dNil)) (gSet 3)) (sRet (dIf (dTest (dApp vIs (dCons (dVar 3) (dCons (dC .non) dNil)))) (dC .non) (dApp vMulA (dCons (dApp vTup (dCons (dApp vTup (dCons (dVar 2) (dCons (dVar 3) dNil))) dNil)) (dCons (dVar 1) dNil)))))))))
noncomputable def mP_parts_in : VF := fnBody 1 4 bP_parts_in
noncomputable def bL_parts_in : DS := (sSeqF (sIf (dTest (dApp (vInG nN) (dCons (dVarF 0) (dConsF (dApp vTup (dCons (dC (.str ⟨⟨[124]⟩⟩)) (dCons (dC (.str ⟨⟨[33]⟩⟩)) dNil))) dNil)))) (sRetF (dApp vTup (dCons (dVarF 0) dNil))) sNil) (sSeqF (sPar 1 2 (dCons (dC (.int 1)) (dConsF (dApp (vEqG nN) (dConsF (dApp (fres (vIxG nN)) (dCons (dVarF 0) (dCons (dC (.int 0)) dNil))) (dCons (dC (.str ⟨⟨[42]⟩⟩)) dNil))) dNil))) (sSeqF (sIf (dTruG (dVarF 2)) (sAsgF (dres (dCutG (dVarF 0) (dPart (dC (.int 1))) dNoPart)) (gSet 0)) (sIf (dAnd (dTest (dApp vGt (dConsF (dApp vLenG (dCons (dVarF 0) dNil)) (dCons (dC (.int 1)) dNil)))) (dAnd (dTest (dApp (vEqG nN) (dConsF (dApp (fres (vIxG nN)) (dCons (dVarF 0) (dCons (dC (.int 1)) dNil))) (dCons (dC (.str ⟨⟨[42]⟩⟩)) dNil)))) (dTest (dApp (vInG nN) (dConsF (dApp (fres (vIxG nN)) (dCons (dVarF 0) (dCons (dC (.int 0)) dNil))) (dConsF (dres (dCutG (dC (.str ⟨⟨[48, 49, 50, 51, 52, 53, 54, 55, 56, 57]⟩⟩)) (dPart (dC (.int 2))) dNoPart)) dNil)))))) (sPar 1 0 (dConsF (dApp vIntG (dConsF (dApp (fres (vIxG nN)) (dCons (dVarF 0) (dCons (dC (.int 0)) dNil))) dNil)) (dConsF (dres (dCutG (dVarF 0) (dPart (dC (.int 2))) dNoPart)) dNil))) sNil)) (sSeqF (sAsgF (dApp (vApartF mL_forms_in) (dCons (dVarF 0) dNil)) (gSet 3)) (sRetF (dIf (dTest (dApp vIs (dCons (dVarF 3) (dCons (dC .non) dNil)))) (dC .non) (dApp (fres vMulA) (dConsF (dApp vTup (dConsF (dApp vTup (dCons (dVarF 2) (dCons (dVarF 3) dNil))) dNil)) (dCons (dVarF 1) dNil)))))))))
noncomputable def mL_parts_in : VF := fnBodyF 1 4 bL_parts_in
theorem l_parts_in : mL_parts_in = mP_parts_in := by
  unfold mL_parts_in mP_parts_in bL_parts_in bP_parts_in
  simp only [sSeqF_eq, sForF_eq, sAsgF_eq, sRetF_eq, dLc2F_eq, dLcF_eq, dVarF_eq, fnBodyF_eq, vApartF_eq, sFldSetF_eq, fres_eq, fmut_eq, dres_eq, dConsF_eq, vFldF_eq, dMethF_eq, vMakeF_eq, vNameOkF_eq, l_forms_in]
theorem q_parts_in {ν : Nat → List Nat} (N : Nam ν nN) (h_is_name : ∀ i μ, vApart m_is_name [.str ⟨⟨ν i⟩⟩] μ = .ok (.bl true) μ) : QF ν mP_parts_in m_parts_in := show QF ν (fnBody 1 4 bP_parts_in) (fnBody 1 4 b_parts_in) from qBody (show QS ν bP_parts_in b_parts_in from (qsSeq (qsIf (qTest (qApp (q_vIn N) (qCons qVar (qCons (qApp q_vTup (qCons (qCs (by kernel_rfl) (by kernel_rfl)) (qCons (qCs (by kernel_rfl) (by kernel_rfl)) qNil))) qNil)))) (qsRet (qApp q_vTup (qCons qVar qNil))) qsNil) (qsSeq (qsPar (qCons qCi (qCons (qApp (q_vEq N) (qCons (qApp (q_vIx N) (qCons qVar (qCons qCi qNil))) (qCons (qCs (by kernel_rfl) (by kernel_rfl)) qNil))) qNil))) (qsSeq (qsIf (qTru qVar) (qsAsg (qCut qVar (qPart qCi) qNoPart) qgSet) (qsIf (qAnd (qTest (qApp q_vGt (qCons (qApp q_vLen (qCons qVar qNil)) (qCons qCi qNil)))) (qAnd (qTest (qApp (q_vEq N) (qCons (qApp (q_vIx N) (qCons qVar (qCons qCi qNil))) (qCons (qCs (by kernel_rfl) (by kernel_rfl)) qNil)))) (qTest (qApp (q_vIn N) (qCons (qApp (q_vIx N) (qCons qVar (qCons qCi qNil))) (qCons (qCut (qCs (by kernel_rfl) (by kernel_rfl)) (qPart qCi) qNoPart) qNil)))))) (qsPar (qCons (qApp q_vInt (qCons (qApp (q_vIx N) (qCons qVar (qCons qCi qNil))) qNil)) (qCons (qCut qVar (qPart qCi) qNoPart) qNil))) qsNil)) (qsSeq (qsAsg (qApp (qApart (q_forms_in N h_is_name)) (qCons qVar qNil)) qgSet) (qsRet (qIf (qTest (qApp q_vIs (qCons qVar (qCons qCn qNil)))) qCn (qApp q_vMulA (qCons (qApp q_vTup (qCons (qApp q_vTup (qCons qVar (qCons qVar qNil))) qNil)) (qCons qVar qNil))))))))))
noncomputable def bP_metre_parts : DS := (sSeq (sIf (dNot (dTest (dChain vLe vLe (dC (.int 1)) (dApp vLenG (dCons (dVar 0) dNil)) (dC (.int 8))))) (sRet (dC .non)) sNil) (sSeq (sAsg (dLc (dItAG (dVar 0)) (gSet 3) tYes' (dApp (vApart mP_parts_in) (dCons (dVar 3) dNil)) [3]) (gSet 1)) (sSeq (sIf (dTest (dApp (vInG nN) (dCons (dC .non) (dCons (dVar 1) dNil)))) (sRet (dC .non)) sNil) (sSeq (sAsg (dApp vTupleG (dCons (dLc2 (dItAG (dVar 1)) (gSet 4) tYes' (dItAG (dVar 4)) (gSet 5) tYes' (dVar 5) [4, 5] [5]) dNil)) (gSet 2)) (sRet (dIf (dTest (dApp vLe (dCons (dApp vLenG (dCons (dVar 2) dNil)) (dCons (dC (.int 24)) dNil)))) (dVar 2) (dC .non)))))))
noncomputable def mP_metre_parts : VF := fnBody 1 6 bP_metre_parts
noncomputable def bL_metre_parts : DS := (sSeqF (sIf (dNot (dTest (dChain vLe vLe (dC (.int 1)) (dApp vLenG (dCons (dVarF 0) dNil)) (dC (.int 8))))) (sRetF (dC .non)) sNil) (sSeqF (sAsgF (dLcF (dItAG (dVarF 0)) (gSet 3) tYes' (dApp (vApartF mL_parts_in) (dCons (dVarF 3) dNil)) [3]) (gSet 1)) (sSeqF (sIf (dTest (dApp (vInG nN) (dCons (dC .non) (dCons (dVarF 1) dNil)))) (sRetF (dC .non)) sNil) (sSeqF (sAsgF (dApp (fres vTupleG) (dConsF (dLc2F (dItAG (dVarF 1)) (gSet 4) tYes' (dItAG (dVarF 4)) (gSet 5) tYes' (dVarF 5) [4, 5] [5]) dNil)) (gSet 2)) (sRetF (dIf (dTest (dApp vLe (dConsF (dApp vLenG (dCons (dVarF 2) dNil)) (dCons (dC (.int 24)) dNil)))) (dVarF 2) (dC .non)))))))
noncomputable def mL_metre_parts : VF := fnBodyF 1 6 bL_metre_parts
theorem l_metre_parts : mL_metre_parts = mP_metre_parts := by
  unfold mL_metre_parts mP_metre_parts bL_metre_parts bP_metre_parts
  simp only [sSeqF_eq, sForF_eq, sAsgF_eq, sRetF_eq, dLc2F_eq, dLcF_eq, dVarF_eq, fnBodyF_eq, vApartF_eq, sFldSetF_eq, fres_eq, fmut_eq, dres_eq, dConsF_eq, vFldF_eq, dMethF_eq, vMakeF_eq, vNameOkF_eq, l_parts_in]
theorem q_metre_parts {ν : Nat → List Nat} (N : Nam ν nN) (h_is_name : ∀ i μ, vApart m_is_name [.str ⟨⟨ν i⟩⟩] μ = .ok (.bl true) μ) : QF ν mP_metre_parts m_metre_parts := show QF ν (fnBody 1 6 bP_metre_parts) (fnBody 1 6 b_metre_parts) from qBody (show QS ν bP_metre_parts b_metre_parts from (qsSeq (qsIf (qNot (qTest (qChain q_vLe q_vLe qCi (qApp q_vLen (qCons qVar qNil)) qCi))) (qsRet qCn) qsNil) (qsSeq (qsAsg (qLc (qItA qVar) qgSet qYes (qApp (qApart (q_parts_in N h_is_name)) (qCons qVar qNil))) qgSet) (qsSeq (qsIf (qTest (qApp (q_vIn N) (qCons qCn (qCons qVar qNil)))) (qsRet qCn) qsNil) (qsSeq (qsAsg (qApp q_vTuple (qCons (qLc2 (qItA qVar) qgSet qYes (qItA qVar) qgSet qYes qVar) qNil)) qgSet) (qsRet (qIf (qTest (qApp q_vLe (qCons (qApp q_vLen (qCons qVar qNil)) (qCons qCi qNil)))) qVar qCn)))))))
noncomputable def bP_Reading_take_metre : DS := (sSeq (sIf (dOr (dTest (dApp vLt (dCons (dApp vLenG (dCons (dVar 1) dNil)) (dCons (dC (.int 3)) dNil)))) (dOr (dTest (dApp (vEqG nN) (dCons (dApp vLenG (dCons (dApp (vFld aC_Reading ⟨⟨[110, 97, 109, 101, 100, 95, 109, 101, 116, 114, 101, 115]⟩⟩) (dCons (dVar 0) dNil)) dNil)) (dCons (dC (.int 3)) dNil)))) (dTest (dApp (vEqG nN) (dCons (dApp (vFld aC_Reading ⟨⟨[110, 97, 109, 101, 100, 95, 119, 111, 114, 100, 115]⟩⟩) (dCons (dVar 0) dNil)) (dCons dNewD dNil)))))) (sRet (dC (.bl false))) sNil) (sSeq (sAsg (dApp mP_metre_parts (dCons (dCutG (dVar 1) (dPart (dC (.int 2))) dNoPart) dNil)) (gSet 2)) (sSeq (sIf (dOr (dNot (dTruG (dApp (vNameOk mP_is_name) (dCons (dApp (vIxG nN) (dCons (dVar 1) (dCons (dC (.int 1)) dNil))) dNil)))) (dOr (dTest (dApp (vInG nN) (dCons (dApp (vIxG nN) (dCons (dVar 1) (dCons (dC (.int 1)) dNil))) (dCons (dApp (vFld aC_Reading ⟨⟨[110, 97, 109, 101, 100, 95, 109, 101, 116, 114, 101, 115]⟩⟩) (dCons (dVar 0) dNil)) dNil)))) (dTest (dApp vIs (dCons (dVar 2) (dCons (dC .non) dNil)))))) (sRet (dC (.bl false))) sNil) (sSeq (sAsg (dVar 2) (gItemG nN (dApp (vFld aC_Reading ⟨⟨[110, 97, 109, 101, 100, 95, 109, 101, 116, 114, 101, 115]⟩⟩) (dCons (dVar 0) dNil)) (dApp (vIxG nN) (dCons (dVar 1) (dCons (dC (.int 1)) dNil))))) (sRet (dC (.bl true)))))))
noncomputable def mP_Reading_take_metre : VF := fnBody 2 3 bP_Reading_take_metre
noncomputable def bL_Reading_take_metre : DS := (sSeqF (sIf (dOr (dTest (dApp vLt (dConsF (dApp vLenG (dCons (dVarF 1) dNil)) (dCons (dC (.int 3)) dNil)))) (dOr (dTest (dApp (vEqG nN) (dConsF (dApp vLenG (dConsF (dApp (vFldF aC_Reading ⟨⟨[110, 97, 109, 101, 100, 95, 109, 101, 116, 114, 101, 115]⟩⟩) (dCons (dVarF 0) dNil)) dNil)) (dCons (dC (.int 3)) dNil)))) (dTest (dApp (vEqG nN) (dConsF (dApp (vFldF aC_Reading ⟨⟨[110, 97, 109, 101, 100, 95, 119, 111, 114, 100, 115]⟩⟩) (dCons (dVarF 0) dNil)) (dConsF (dres dNewD) dNil)))))) (sRetF (dC (.bl false))) sNil) (sSeqF (sAsgF (dApp mL_metre_parts (dConsF (dres (dCutG (dVarF 1) (dPart (dC (.int 2))) dNoPart)) dNil)) (gSet 2)) (sSeqF (sIf (dOr (dNot (dTruG (dApp (vNameOkF mL_is_name) (dConsF (dApp (fres (vIxG nN)) (dCons (dVarF 1) (dCons (dC (.int 1)) dNil))) dNil)))) (dOr (dTest (dApp (vInG nN) (dConsF (dApp (fres (vIxG nN)) (dCons (dVarF 1) (dCons (dC (.int 1)) dNil))) (dConsF (dApp (vFldF aC_Reading ⟨⟨[110, 97, 109, 101, 100, 95, 109, 101, 116, 114, 101, 115]⟩⟩) (dCons (dVarF 0) dNil)) dNil)))) (dTest (dApp vIs (dCons (dVarF 2) (dCons (dC .non) dNil)))))) (sRetF (dC (.bl false))) sNil) (sSeqF (sAsgF (dVarF 2) (gItemG nN (dApp (vFldF aC_Reading ⟨⟨[110, 97, 109, 101, 100, 95, 109, 101, 116, 114, 101, 115]⟩⟩) (dCons (dVarF 0) dNil)) (dApp (fres (vIxG nN)) (dCons (dVarF 1) (dCons (dC (.int 1)) dNil))))) (sRetF (dC (.bl true)))))))
noncomputable def mL_Reading_take_metre : VF := fnBodyF 2 3 bL_Reading_take_metre
theorem l_Reading_take_metre : mL_Reading_take_metre = mP_Reading_take_metre := by
  unfold mL_Reading_take_metre mP_Reading_take_metre bL_Reading_take_metre bP_Reading_take_metre
  simp only [sSeqF_eq, sForF_eq, sAsgF_eq, sRetF_eq, dLc2F_eq, dLcF_eq, dVarF_eq, fnBodyF_eq, vApartF_eq, sFldSetF_eq, fres_eq, fmut_eq, dres_eq, dConsF_eq, vFldF_eq, dMethF_eq, vMakeF_eq, vNameOkF_eq, l_is_name, l_metre_parts]
theorem q_Reading_take_metre {ν : Nat → List Nat} (N : Nam ν nN) (h_is_name : ∀ i μ, vApart m_is_name [.str ⟨⟨ν i⟩⟩] μ = .ok (.bl true) μ) : QF ν mP_Reading_take_metre m_Reading_take_metre := show QF ν (fnBody 2 3 bP_Reading_take_metre) (fnBody 2 3 b_Reading_take_metre) from qBody (show QS ν bP_Reading_take_metre b_Reading_take_metre from (qsSeq (qsIf (qOr (qTest (qApp q_vLt (qCons (qApp q_vLen (qCons qVar qNil)) (qCons qCi qNil)))) (qOr (qTest (qApp (q_vEq N) (qCons (qApp q_vLen (qCons (qApp qFld (qCons qVar qNil)) qNil)) (qCons qCi qNil)))) (qTest (qApp (q_vEq N) (qCons (qApp qFld (qCons qVar qNil)) (qCons qNewD qNil)))))) (qsRet qCb) qsNil) (qsSeq (qsAsg (qApp (q_metre_parts N h_is_name) (qCons (qCut qVar (qPart qCi) qNoPart) qNil)) qgSet) (qsSeq (qsIf (qOr (qNot (qTru (qApp (qNameOk h_is_name (q_is_name N h_is_name)) (qCons (qApp (q_vIx N) (qCons qVar (qCons qCi qNil))) qNil)))) (qOr (qTest (qApp (q_vIn N) (qCons (qApp (q_vIx N) (qCons qVar (qCons qCi qNil))) (qCons (qApp qFld (qCons qVar qNil)) qNil)))) (qTest (qApp q_vIs (qCons qVar (qCons qCn qNil)))))) (qsRet qCb) qsNil) (qsSeq (qsAsg qVar (qgItem N (qApp qFld (qCons qVar qNil)) (qApp (q_vIx N) (qCons qVar (qCons qCi qNil))))) (qsRet qCb))))))
noncomputable def bP_Reading_take_word : DS := (sSeq (sAsg (dOrVG (dApp (vNeG nN) (dCons (dApp (vFld aC_Reading ⟨⟨[110, 97, 109, 101, 100, 95, 106, 111, 105, 110, 116, 115]⟩⟩) (dCons (dVar 0) dNil)) (dCons dNewD dNil))) (dApp (vNeG nN) (dCons (dApp (vFld aC_Reading ⟨⟨[110, 97, 109, 101, 100, 95, 109, 101, 116, 114, 101, 115]⟩⟩) (dCons (dVar 0) dNil)) (dCons dNewD dNil)))) (gSet 2)) (sSeq (sIf (dOr (dTest (dApp (vNeG nN) (dCons (dApp vLenG (dCons (dVar 1) dNil)) (dCons (dC (.int 5)) dNil)))) (dOr (dTest (dApp (vEqG nN) (dCons (dApp vLenG (dCons (dApp (vFld aC_Reading ⟨⟨[110, 97, 109, 101, 100, 95, 119, 111, 114, 100, 115]⟩⟩) (dCons (dVar 0) dNil)) dNil)) (dCons (dC (.int 6)) dNil)))) (dTruG (dVar 2)))) (sRet (dC (.bl false))) sNil) (sSeq (sAsg (dCutG (dVar 1) (dPart (dC (.int 1))) dNoPart) (gTupA 4 (gCons' (gSet 3) (gCons' (gSet 4) (gCons' (gSet 5) (gCons' (gSet 6) gNil')))))) (sSeq (sIf (dOr (dNot (dTruG (dApp (vNameOk mP_is_name) (dCons (dVar 3) dNil)))) (dOr (dTest (dApp (vInG nN) (dCons (dVar 3) (dCons (dApp (vFld aC_Reading ⟨⟨[110, 97, 109, 101, 100, 95, 119, 111, 114, 100, 115]⟩⟩) (dCons (dVar 0) dNil)) dNil)))) (dOr (dTest (dApp (vNotInG nN) (dCons (dVar 4) (dCons (dApp vTupleG (dCons (dC (.str ⟨⟨[97, 98, 99, 100, 101, 102, 103, 104, 105, 106, 107, 108, 109, 110, 111, 112, 113, 114, 115, 116, 117, 118, 119, 120, 121, 122]⟩⟩)) dNil)) dNil)))) (dTest (dApp (vNotInG nN) (dCons (dVar 6) (dCons (dApp vTupleG (dCons (dC (.str ⟨⟨[97, 98, 99, 100, 101, 102, 103, 104, 105, 106, 107, 108, 109, 110, 111, 112, 113, 114, 115, 116, 117, 118, 119, 120, 121, 122]⟩⟩)) dNil)) dNil))))))) (sRet (dC (.bl false))) sNil) (sSeq (sIf (dOr (dNot (dTruG (dApp (vApart mP_is_made_of) (dCons (dVar 5) (dCons (dApp vTup (dCons (dC (.str ⟨⟨[45]⟩⟩)) (dCons (dC (.str ⟨⟨[117]⟩⟩)) (dCons (dC (.str ⟨⟨[63]⟩⟩)) dNil)))) dNil))))) (dTest (dApp vGt (dCons (dApp vLenG (dCons (dVar 5) dNil)) (dCons (dC (.int 4)) dNil))))) (sRet (dC (.bl false))) sNil) (sSeq (sAsg (dApp vSum (dCons (dLc (dValsF (dApp (vFld aC_Reading ⟨⟨[110, 97, 109, 101, 100, 95, 119, 111, 114, 100, 115]⟩⟩) (dCons (dVar 0) dNil))) (gSet 8) tYes' (dM isStrP vCountG (dApp (vIxG nN) (dCons (dVar 8) (dCons (dC (.int 1)) dNil))) (dCons (dC (.str ⟨⟨[63]⟩⟩)) dNil)) [8]) dNil)) (gSet 7)) (sSeq (sIf (dTest (dApp vGt (dCons (dApp vAddG (dCons (dVar 7) (dCons (dM isStrP vCountG (dVar 5) (dCons (dC (.str ⟨⟨[63]⟩⟩)) dNil)) dNil))) (dCons (dC (.int 6)) dNil)))) (sRet (dC (.bl false))) sNil) (sSeq (sAsg (dApp vTup (dCons (dVar 4) (dCons (dVar 5) (dCons (dVar 6) dNil)))) (gItemG nN (dApp (vFld aC_Reading ⟨⟨[110, 97, 109, 101, 100, 95, 119, 111, 114, 100, 115]⟩⟩) (dCons (dVar 0) dNil)) (dVar 3))) (sRet (dC (.bl true)))))))))))
noncomputable def mP_Reading_take_word : VF := fnBody 2 9 bP_Reading_take_word
noncomputable def bL_Reading_take_word : DS := (sSeqF (sAsgF (dOrVG (dApp (vNeG nN) (dConsF (dApp (vFldF aC_Reading ⟨⟨[110, 97, 109, 101, 100, 95, 106, 111, 105, 110, 116, 115]⟩⟩) (dCons (dVarF 0) dNil)) (dConsF (dres dNewD) dNil))) (dApp (vNeG nN) (dConsF (dApp (vFldF aC_Reading ⟨⟨[110, 97, 109, 101, 100, 95, 109, 101, 116, 114, 101, 115]⟩⟩) (dCons (dVarF 0) dNil)) (dConsF (dres dNewD) dNil)))) (gSet 2)) (sSeqF (sIf (dOr (dTest (dApp (vNeG nN) (dConsF (dApp vLenG (dCons (dVarF 1) dNil)) (dCons (dC (.int 5)) dNil)))) (dOr (dTest (dApp (vEqG nN) (dConsF (dApp vLenG (dConsF (dApp (vFldF aC_Reading ⟨⟨[110, 97, 109, 101, 100, 95, 119, 111, 114, 100, 115]⟩⟩) (dCons (dVarF 0) dNil)) dNil)) (dCons (dC (.int 6)) dNil)))) (dTruG (dVarF 2)))) (sRetF (dC (.bl false))) sNil) (sSeqF (sAsgF (dres (dCutG (dVarF 1) (dPart (dC (.int 1))) dNoPart)) (gTupA 4 (gCons' (gSet 3) (gCons' (gSet 4) (gCons' (gSet 5) (gCons' (gSet 6) gNil')))))) (sSeqF (sIf (dOr (dNot (dTruG (dApp (vNameOkF mL_is_name) (dCons (dVarF 3) dNil)))) (dOr (dTest (dApp (vInG nN) (dCons (dVarF 3) (dConsF (dApp (vFldF aC_Reading ⟨⟨[110, 97, 109, 101, 100, 95, 119, 111, 114, 100, 115]⟩⟩) (dCons (dVarF 0) dNil)) dNil)))) (dOr (dTest (dApp (vNotInG nN) (dCons (dVarF 4) (dConsF (dApp (fres vTupleG) (dCons (dC (.str ⟨⟨[97, 98, 99, 100, 101, 102, 103, 104, 105, 106, 107, 108, 109, 110, 111, 112, 113, 114, 115, 116, 117, 118, 119, 120, 121, 122]⟩⟩)) dNil)) dNil)))) (dTest (dApp (vNotInG nN) (dCons (dVarF 6) (dConsF (dApp (fres vTupleG) (dCons (dC (.str ⟨⟨[97, 98, 99, 100, 101, 102, 103, 104, 105, 106, 107, 108, 109, 110, 111, 112, 113, 114, 115, 116, 117, 118, 119, 120, 121, 122]⟩⟩)) dNil)) dNil))))))) (sRetF (dC (.bl false))) sNil) (sSeqF (sIf (dOr (dNot (dTruG (dApp (vApartF mL_is_made_of) (dCons (dVarF 5) (dConsF (dApp vTup (dCons (dC (.str ⟨⟨[45]⟩⟩)) (dCons (dC (.str ⟨⟨[117]⟩⟩)) (dCons (dC (.str ⟨⟨[63]⟩⟩)) dNil)))) dNil))))) (dTest (dApp vGt (dConsF (dApp vLenG (dCons (dVarF 5) dNil)) (dCons (dC (.int 4)) dNil))))) (sRetF (dC (.bl false))) sNil) (sSeqF (sAsgF (dApp vSum (dConsF (dLcF (dValsF (dApp (vFldF aC_Reading ⟨⟨[110, 97, 109, 101, 100, 95, 119, 111, 114, 100, 115]⟩⟩) (dCons (dVarF 0) dNil))) (gSet 8) tYes' (dM isStrP (fres vCountG) (dApp (fres (vIxG nN)) (dCons (dVarF 8) (dCons (dC (.int 1)) dNil))) (dCons (dC (.str ⟨⟨[63]⟩⟩)) dNil)) [8]) dNil)) (gSet 7)) (sSeqF (sIf (dTest (dApp vGt (dConsF (dApp (fres vAddG) (dCons (dVarF 7) (dConsF (dM isStrP (fres vCountG) (dVarF 5) (dCons (dC (.str ⟨⟨[63]⟩⟩)) dNil)) dNil))) (dCons (dC (.int 6)) dNil)))) (sRetF (dC (.bl false))) sNil) (sSeqF (sAsgF (dApp vTup (dCons (dVarF 4) (dCons (dVarF 5) (dCons (dVarF 6) dNil)))) (gItemG nN (dApp (vFldF aC_Reading ⟨⟨[110, 97, 109, 101, 100, 95, 119, 111, 114, 100, 115]⟩⟩) (dCons (dVarF 0) dNil)) (dVarF 3))) (sRetF (dC (.bl true)))))))))))
noncomputable def mL_Reading_take_word : VF := fnBodyF 2 9 bL_Reading_take_word
theorem l_Reading_take_word : mL_Reading_take_word = mP_Reading_take_word := by
  unfold mL_Reading_take_word mP_Reading_take_word bL_Reading_take_word bP_Reading_take_word
  simp only [sSeqF_eq, sForF_eq, sAsgF_eq, sRetF_eq, dLc2F_eq, dLcF_eq, dVarF_eq, fnBodyF_eq, vApartF_eq, sFldSetF_eq, fres_eq, fmut_eq, dres_eq, dConsF_eq, vFldF_eq, dMethF_eq, vMakeF_eq, vNameOkF_eq, l_is_made_of, l_is_name]
theorem q_Reading_take_word {ν : Nat → List Nat} (N : Nam ν nN) (h_is_name : ∀ i μ, vApart m_is_name [.str ⟨⟨ν i⟩⟩] μ = .ok (.bl true) μ) : QF ν mP_Reading_take_word m_Reading_take_word := show QF ν (fnBody 2 9 bP_Reading_take_word) (fnBody 2 9 b_Reading_take_word) from qBody (show QS ν bP_Reading_take_word b_Reading_take_word from (qsSeq (qsAsg (qOrV (qApp (q_vNe N) (qCons (qApp qFld (qCons qVar qNil)) (qCons qNewD qNil))) (qApp (q_vNe N) (qCons (qApp qFld (qCons qVar qNil)) (qCons qNewD qNil)))) qgSet) (qsSeq (qsIf (qOr (qTest (qApp (q_vNe N) (qCons (qApp q_vLen (qCons qVar qNil)) (qCons qCi qNil)))) (qOr (qTest (qApp (q_vEq N) (qCons (qApp q_vLen (qCons (qApp qFld (qCons qVar qNil)) qNil)) (qCons qCi qNil)))) (qTru qVar))) (qsRet qCb) qsNil) (qsSeq (qsAsg (qCut qVar (qPart qCi) qNoPart) (qgTup (qgCons qgSet (qgCons qgSet (qgCons qgSet (qgCons qgSet qgNil)))))) (qsSeq (qsIf (qOr (qNot (qTru (qApp (qNameOk h_is_name (q_is_name N h_is_name)) (qCons qVar qNil)))) (qOr (qTest (qApp (q_vIn N) (qCons qVar (qCons (qApp qFld (qCons qVar qNil)) qNil)))) (qOr (qTest (qApp (q_vNotIn N) (qCons qVar (qCons (qApp q_vTuple (qCons (qCs (by kernel_rfl) (by kernel_rfl)) qNil)) qNil)))) (qTest (qApp (q_vNotIn N) (qCons qVar (qCons (qApp q_vTuple (qCons (qCs (by kernel_rfl) (by kernel_rfl)) qNil)) qNil))))))) (qsRet qCb) qsNil) (qsSeq (qsIf (qOr (qNot (qTru (qApp (qApart (q_is_made_of N h_is_name)) (qCons qVar (qCons (qApp q_vTup (qCons (qCs (by kernel_rfl) (by kernel_rfl)) (qCons (qCs (by kernel_rfl) (by kernel_rfl)) (qCons (qCs (by kernel_rfl) (by kernel_rfl)) qNil)))) qNil))))) (qTest (qApp q_vGt (qCons (qApp q_vLen (qCons qVar qNil)) (qCons qCi qNil))))) (qsRet qCb) qsNil) (qsSeq (qsAsg (qApp q_vSum (qCons (qLc (qVals (qApp qFld (qCons qVar qNil))) qgSet qYes (qM t_str q_vCount (qApp (q_vIx N) (qCons qVar (qCons qCi qNil))) (qCons (qCs (by kernel_rfl) (by kernel_rfl)) qNil))) qNil)) qgSet) (qsSeq (qsIf (qTest (qApp q_vGt (qCons (qApp (q_vAdd N) (qCons qVar (qCons (qM t_str q_vCount qVar (qCons (qCs (by kernel_rfl) (by kernel_rfl)) qNil)) qNil))) (qCons qCi qNil)))) (qsRet qCb) qsNil) (qsSeq (qsAsg (qApp q_vTup (qCons qVar (qCons qVar (qCons qVar qNil)))) (qgItem N (qApp qFld (qCons qVar qNil)) qVar)) (qsRet qCb))))))))))
noncomputable def bP_Reading_take : DS := (sSeq (sAsg (dM isStrP vSplitG (dVar 1) (dCons (dC (.str ⟨⟨[32]⟩⟩)) dNil)) (gSet 2)) (sSeq (sIf (dTest (dApp (vInG nN) (dCons (dC (.str ⟨⟨[]⟩⟩)) (dCons (dVar 2) dNil)))) (sRet (dC (.bl false))) sNil) (sSeq (sIf (dTest (dApp (vEqG nN) (dCons (dApp (vIxG nN) (dCons (dVar 2) (dCons (dC (.int 0)) dNil))) (dCons (dC (.str ⟨⟨[119, 111, 114, 100]⟩⟩)) dNil)))) (sRet (dMeth aC_Reading ⟨⟨[116, 97, 107, 101, 95, 119, 111, 114, 100]⟩⟩ mP_Reading_take_word (dVar 0) (dCons (dVar 2) dNil))) sNil) (sSeq (sIf (dTest (dApp (vEqG nN) (dCons (dApp (vIxG nN) (dCons (dVar 2) (dCons (dC (.int 0)) dNil))) (dCons (dC (.str ⟨⟨[106, 111, 105, 110, 116]⟩⟩)) dNil)))) (sRet (dMeth aC_Reading ⟨⟨[116, 97, 107, 101, 95, 106, 111, 105, 110, 116]⟩⟩ mP_Reading_take_joint (dVar 0) (dCons (dVar 2) dNil))) sNil) (sRet (dAndVG (dApp (vEqG nN) (dCons (dApp (vIxG nN) (dCons (dVar 2) (dCons (dC (.int 0)) dNil))) (dCons (dC (.str ⟨⟨[109, 101, 116, 114, 101]⟩⟩)) dNil))) (dMeth aC_Reading ⟨⟨[116, 97, 107, 101, 95, 109, 101, 116, 114, 101]⟩⟩ mP_Reading_take_metre (dVar 0) (dCons (dVar 2) dNil))))))))
noncomputable def mP_Reading_take : VF := fnBody 2 3 bP_Reading_take
noncomputable def bL_Reading_take : DS := (sSeqF (sAsgF (dM isStrP (fres vSplitG) (dVarF 1) (dCons (dC (.str ⟨⟨[32]⟩⟩)) dNil)) (gSet 2)) (sSeqF (sIf (dTest (dApp (vInG nN) (dCons (dC (.str ⟨⟨[]⟩⟩)) (dCons (dVarF 2) dNil)))) (sRetF (dC (.bl false))) sNil) (sSeqF (sIf (dTest (dApp (vEqG nN) (dConsF (dApp (fres (vIxG nN)) (dCons (dVarF 2) (dCons (dC (.int 0)) dNil))) (dCons (dC (.str ⟨⟨[119, 111, 114, 100]⟩⟩)) dNil)))) (sRetF (dMethF aC_Reading ⟨⟨[116, 97, 107, 101, 95, 119, 111, 114, 100]⟩⟩ mL_Reading_take_word (dVarF 0) (dCons (dVarF 2) dNil))) sNil) (sSeqF (sIf (dTest (dApp (vEqG nN) (dConsF (dApp (fres (vIxG nN)) (dCons (dVarF 2) (dCons (dC (.int 0)) dNil))) (dCons (dC (.str ⟨⟨[106, 111, 105, 110, 116]⟩⟩)) dNil)))) (sRetF (dMethF aC_Reading ⟨⟨[116, 97, 107, 101, 95, 106, 111, 105, 110, 116]⟩⟩ mL_Reading_take_joint (dVarF 0) (dCons (dVarF 2) dNil))) sNil) (sRetF (dAndVG (dApp (vEqG nN) (dConsF (dApp (fres (vIxG nN)) (dCons (dVarF 2) (dCons (dC (.int 0)) dNil))) (dCons (dC (.str ⟨⟨[109, 101, 116, 114, 101]⟩⟩)) dNil))) (dMethF aC_Reading ⟨⟨[116, 97, 107, 101, 95, 109, 101, 116, 114, 101]⟩⟩ mL_Reading_take_metre (dVarF 0) (dCons (dVarF 2) dNil))))))))
noncomputable def mL_Reading_take : VF := fnBodyF 2 3 bL_Reading_take
theorem l_Reading_take : mL_Reading_take = mP_Reading_take := by
  unfold mL_Reading_take mP_Reading_take bL_Reading_take bP_Reading_take
  simp only [sSeqF_eq, sForF_eq, sAsgF_eq, sRetF_eq, dLc2F_eq, dLcF_eq, dVarF_eq, fnBodyF_eq, vApartF_eq, sFldSetF_eq, fres_eq, fmut_eq, dres_eq, dConsF_eq, vFldF_eq, dMethF_eq, vMakeF_eq, vNameOkF_eq, l_Reading_take_joint, l_Reading_take_metre, l_Reading_take_word]
theorem q_Reading_take {ν : Nat → List Nat} (N : Nam ν nN) (h_is_name : ∀ i μ, vApart m_is_name [.str ⟨⟨ν i⟩⟩] μ = .ok (.bl true) μ) : QF ν mP_Reading_take m_Reading_take := show QF ν (fnBody 2 3 bP_Reading_take) (fnBody 2 3 b_Reading_take) from qBody (show QS ν bP_Reading_take b_Reading_take from (qsSeq (qsAsg (qM t_str (q_vSplit N) qVar (qCons (qCs (by kernel_rfl) (by kernel_rfl)) qNil)) qgSet) (qsSeq (qsIf (qTest (qApp (q_vIn N) (qCons (qCs (by kernel_rfl) (by kernel_rfl)) (qCons qVar qNil)))) (qsRet qCb) qsNil) (qsSeq (qsIf (qTest (qApp (q_vEq N) (qCons (qApp (q_vIx N) (qCons qVar (qCons qCi qNil))) (qCons (qCs (by kernel_rfl) (by kernel_rfl)) qNil)))) (qsRet (qMeth (q_Reading_take_word N h_is_name) qVar (qCons qVar qNil))) qsNil) (qsSeq (qsIf (qTest (qApp (q_vEq N) (qCons (qApp (q_vIx N) (qCons qVar (qCons qCi qNil))) (qCons (qCs (by kernel_rfl) (by kernel_rfl)) qNil)))) (qsRet (qMeth (q_Reading_take_joint N h_is_name) qVar (qCons qVar qNil))) qsNil) (qsRet (qAndV (qApp (q_vEq N) (qCons (qApp (q_vIx N) (qCons qVar (qCons qCi qNil))) (qCons (qCs (by kernel_rfl) (by kernel_rfl)) qNil))) (qMeth (q_Reading_take_metre N h_is_name) qVar (qCons qVar qNil)))))))))
noncomputable def bP_read_lines : DS := (sSeq (sIf (dNot (dTruG (dApp (vIsi (isiB .str [])) (dCons (dVar 0) dNil)))) sBad sNil) (sSeq (sPar 1 2 (dCons (dM isStrP vSplitG (dVar 0) (dCons (dC (.str ⟨⟨[10]⟩⟩)) dNil)) (dCons (dApp (vMake aC_Reading mP_ReadingD_initD) dNil) dNil))) (sSeq (sFor (dEnumG (dVar 1)) (gTupA 2 (gCons' (gSet 3) (gCons' (gSet 4) gNil'))) (sIf (dNot (dTruG (dMeth aC_Reading ⟨⟨[116, 97, 107, 101]⟩⟩ mP_Reading_take (dVar 2) (dCons (dVar 4) dNil)))) sBad sNil)) (sSeq (sIf (dTest (dApp (vEqG nN) (dCons (dApp (vFld aC_Reading ⟨⟨[110, 97, 109, 101, 100, 95, 109, 101, 116, 114, 101, 115]⟩⟩) (dCons (dVar 2) dNil)) (dCons dNewD dNil)))) sBad sNil) (sRet (dVar 2))))))
noncomputable def mP_read_lines : VF := fnBody 1 5 bP_read_lines
noncomputable def bL_read_lines : DS := (sSeqF (sIf (dNot (dTruG (dApp (vIsi (isiB .str [])) (dCons (dVarF 0) dNil)))) sBad sNil) (sSeqF (sPar 1 2 (dConsF (dM isStrP (fres vSplitG) (dVarF 0) (dCons (dC (.str ⟨⟨[10]⟩⟩)) dNil)) (dConsF (dApp (vMakeF aC_Reading mL_ReadingD_initD) dNil) dNil))) (sSeqF (sForF (dEnumG (dVarF 1)) (gTupA 2 (gCons' (gSet 3) (gCons' (gSet 4) gNil'))) (sIf (dNot (dTruG (dMethF aC_Reading ⟨⟨[116, 97, 107, 101]⟩⟩ mL_Reading_take (dVarF 2) (dCons (dVarF 4) dNil)))) sBad sNil)) (sSeqF (sIf (dTest (dApp (vEqG nN) (dConsF (dApp (vFldF aC_Reading ⟨⟨[110, 97, 109, 101, 100, 95, 109, 101, 116, 114, 101, 115]⟩⟩) (dCons (dVarF 2) dNil)) (dConsF (dres dNewD) dNil)))) sBad sNil) (sRetF (dVarF 2))))))
noncomputable def mL_read_lines : VF := fnBodyF 1 5 bL_read_lines
theorem l_read_lines : mL_read_lines = mP_read_lines := by
  unfold mL_read_lines mP_read_lines bL_read_lines bP_read_lines
  simp only [sSeqF_eq, sForF_eq, sAsgF_eq, sRetF_eq, dLc2F_eq, dLcF_eq, dVarF_eq, fnBodyF_eq, vApartF_eq, sFldSetF_eq, fres_eq, fmut_eq, dres_eq, dConsF_eq, vFldF_eq, dMethF_eq, vMakeF_eq, vNameOkF_eq, l_ReadingD_initD, l_Reading_take]
theorem q_read_lines {ν : Nat → List Nat} (N : Nam ν nN) (h_is_name : ∀ i μ, vApart m_is_name [.str ⟨⟨ν i⟩⟩] μ = .ok (.bl true) μ) : QF ν mP_read_lines m_read_lines := show QF ν (fnBody 1 5 bP_read_lines) (fnBody 1 5 b_read_lines) from qBody (show QS ν bP_read_lines b_read_lines from (qsSeq (qsIf (qNot (qTru (qApp q_vIsi (qCons qVar qNil)))) qsBad qsNil) (qsSeq (qsPar (qCons (qM t_str (q_vSplit N) qVar (qCons (qCs (by kernel_rfl) (by kernel_rfl)) qNil)) (qCons (qApp (qMake (q_ReadingD_initD N h_is_name)) qNil) qNil))) (qsSeq (qsFor (qEnum qVar) (qgTup (qgCons qgSet (qgCons qgSet qgNil))) (qsIf (qNot (qTru (qMeth (q_Reading_take N h_is_name) qVar (qCons qVar qNil)))) qsBad qsNil)) (qsSeq (qsIf (qTest (qApp (q_vEq N) (qCons (qApp qFld (qCons qVar qNil)) (qCons qNewD qNil)))) qsBad qsNil) (qsRet qVar))))))
noncomputable def bP_TongueD_initD : DS := (sSeq (sAsg (dApp mP_read_lines (dCons (dVar 1) dNil)) (gSet 2)) (sSeq (sFldSet aC_Tongue ⟨⟨[111, 119, 110, 95, 116, 101, 120, 116]⟩⟩ (dVar 0) (dVar 1)) (sSeq (sFldSet aC_Tongue ⟨⟨[111, 119, 110, 95, 119, 111, 114, 100, 115]⟩⟩ (dVar 0) (dApp (vFld aC_Reading ⟨⟨[110, 97, 109, 101, 100, 95, 119, 111, 114, 100, 115]⟩⟩) (dCons (dVar 2) dNil))) (sSeq (sFldSet aC_Tongue ⟨⟨[111, 119, 110, 95, 110, 97, 109, 101, 115]⟩⟩ (dVar 0) (dApp vTupleG (dCons (dApp vListG (dCons (dApp (vFld aC_Reading ⟨⟨[110, 97, 109, 101, 100, 95, 119, 111, 114, 100, 115]⟩⟩) (dCons (dVar 2) dNil)) dNil)) dNil))) (sSeq (sFldSet aC_Tongue ⟨⟨[111, 119, 110, 95, 106, 111, 105, 110, 116, 115]⟩⟩ (dVar 0) (dApp (vFld aC_Reading ⟨⟨[110, 97, 109, 101, 100, 95, 106, 111, 105, 110, 116, 115]⟩⟩) (dCons (dVar 2) dNil))) (sSeq (sFldSet aC_Tongue ⟨⟨[111, 119, 110, 95, 109, 101, 116, 114, 101, 115]⟩⟩ (dVar 0) (dApp (vFld aC_Reading ⟨⟨[110, 97, 109, 101, 100, 95, 109, 101, 116, 114, 101, 115]⟩⟩) (dCons (dVar 2) dNil))) (sSeq (sAsg (dApp vLst dNil) (gSet 3)) (sSeq (sFor (dItemsF (dApp (vFld aC_Reading ⟨⟨[110, 97, 109, 101, 100, 95, 119, 111, 114, 100, 115]⟩⟩) (dCons (dVar 2) dNil))) (gTupA 2 (gCons' (gSet 4) (gCons' (gSet 5) gNil'))) (sExpr (dM isLstP vExtend (dVar 3) (dCons (dLc (dEnumG (dApp (vIxG nN) (dCons (dVar 5) (dCons (dC (.int 1)) dNil)))) (gTupA 2 (gCons' (gSet 6) (gCons' (gSet 7) gNil'))) (dTest (dApp (vEqG nN) (dCons (dVar 7) (dCons (dC (.str ⟨⟨[63]⟩⟩)) dNil)))) (dApp vTup (dCons (dVar 4) (dCons (dVar 6) dNil))) [6, 7]) dNil)))) (sFldSet aC_Tongue ⟨⟨[111, 119, 110, 95, 117, 110, 107, 110, 111, 119, 110]⟩⟩ (dVar 0) (dApp vTupleG (dCons (dVar 3) dNil)))))))))))
noncomputable def mP_TongueD_initD : VF := fnBody 2 8 bP_TongueD_initD
noncomputable def bL_TongueD_initD : DS := (sSeqF (sAsgF (dApp mL_read_lines (dCons (dVarF 1) dNil)) (gSet 2)) (sSeqF (sFldSetF aC_Tongue ⟨⟨[111, 119, 110, 95, 116, 101, 120, 116]⟩⟩ (dVarF 0) (dVarF 1)) (sSeqF (sFldSetF aC_Tongue ⟨⟨[111, 119, 110, 95, 119, 111, 114, 100, 115]⟩⟩ (dVarF 0) (dApp (vFldF aC_Reading ⟨⟨[110, 97, 109, 101, 100, 95, 119, 111, 114, 100, 115]⟩⟩) (dCons (dVarF 2) dNil))) (sSeqF (sFldSetF aC_Tongue ⟨⟨[111, 119, 110, 95, 110, 97, 109, 101, 115]⟩⟩ (dVarF 0) (dApp (fres vTupleG) (dConsF (dApp (fres vListG) (dConsF (dApp (vFldF aC_Reading ⟨⟨[110, 97, 109, 101, 100, 95, 119, 111, 114, 100, 115]⟩⟩) (dCons (dVarF 2) dNil)) dNil)) dNil))) (sSeqF (sFldSetF aC_Tongue ⟨⟨[111, 119, 110, 95, 106, 111, 105, 110, 116, 115]⟩⟩ (dVarF 0) (dApp (vFldF aC_Reading ⟨⟨[110, 97, 109, 101, 100, 95, 106, 111, 105, 110, 116, 115]⟩⟩) (dCons (dVarF 2) dNil))) (sSeqF (sFldSetF aC_Tongue ⟨⟨[111, 119, 110, 95, 109, 101, 116, 114, 101, 115]⟩⟩ (dVarF 0) (dApp (vFldF aC_Reading ⟨⟨[110, 97, 109, 101, 100, 95, 109, 101, 116, 114, 101, 115]⟩⟩) (dCons (dVarF 2) dNil))) (sSeqF (sAsgF (dApp (fres vLst) dNil) (gSet 3)) (sSeqF (sForF (dItemsF (dApp (vFldF aC_Reading ⟨⟨[110, 97, 109, 101, 100, 95, 119, 111, 114, 100, 115]⟩⟩) (dCons (dVarF 2) dNil))) (gTupA 2 (gCons' (gSet 4) (gCons' (gSet 5) gNil'))) (sExpr (dM isLstP (fmut vExtend) (dVarF 3) (dConsF (dLcF (dEnumG (dApp (fres (vIxG nN)) (dCons (dVarF 5) (dCons (dC (.int 1)) dNil)))) (gTupA 2 (gCons' (gSet 6) (gCons' (gSet 7) gNil'))) (dTest (dApp (vEqG nN) (dCons (dVarF 7) (dCons (dC (.str ⟨⟨[63]⟩⟩)) dNil)))) (dApp vTup (dCons (dVarF 4) (dCons (dVarF 6) dNil))) [6, 7]) dNil)))) (sFldSetF aC_Tongue ⟨⟨[111, 119, 110, 95, 117, 110, 107, 110, 111, 119, 110]⟩⟩ (dVarF 0) (dApp (fres vTupleG) (dCons (dVarF 3) dNil)))))))))))
noncomputable def mL_TongueD_initD : VF := fnBodyF 2 8 bL_TongueD_initD
theorem l_TongueD_initD : mL_TongueD_initD = mP_TongueD_initD := by
  unfold mL_TongueD_initD mP_TongueD_initD bL_TongueD_initD bP_TongueD_initD
  simp only [sSeqF_eq, sForF_eq, sAsgF_eq, sRetF_eq, dLc2F_eq, dLcF_eq, dVarF_eq, fnBodyF_eq, vApartF_eq, sFldSetF_eq, fres_eq, fmut_eq, dres_eq, dConsF_eq, vFldF_eq, dMethF_eq, vMakeF_eq, vNameOkF_eq, l_read_lines]
theorem q_TongueD_initD {ν : Nat → List Nat} (N : Nam ν nN) (h_is_name : ∀ i μ, vApart m_is_name [.str ⟨⟨ν i⟩⟩] μ = .ok (.bl true) μ) : QF ν mP_TongueD_initD m_TongueD_initD := show QF ν (fnBody 2 8 bP_TongueD_initD) (fnBody 2 8 b_TongueD_initD) from qBody (show QS ν bP_TongueD_initD b_TongueD_initD from (qsSeq (qsAsg (qApp (q_read_lines N h_is_name) (qCons qVar qNil)) qgSet) (qsSeq (qsFld qVar qVar) (qsSeq (qsFld qVar (qApp qFld (qCons qVar qNil))) (qsSeq (qsFld qVar (qApp q_vTuple (qCons (qApp q_vList (qCons (qApp qFld (qCons qVar qNil)) qNil)) qNil))) (qsSeq (qsFld qVar (qApp qFld (qCons qVar qNil))) (qsSeq (qsFld qVar (qApp qFld (qCons qVar qNil))) (qsSeq (qsAsg (qApp q_vLst qNil) qgSet) (qsSeq (qsFor (qItems (qApp qFld (qCons qVar qNil))) (qgTup (qgCons qgSet (qgCons qgSet qgNil))) (qsExpr (qM t_lst q_vExtend qVar (qCons (qLc (qEnum (qApp (q_vIx N) (qCons qVar (qCons qCi qNil)))) (qgTup (qgCons qgSet (qgCons qgSet qgNil))) (qTest (qApp (q_vEq N) (qCons qVar (qCons (qCs (by kernel_rfl) (by kernel_rfl)) qNil)))) (qApp q_vTup (qCons qVar (qCons qVar qNil)))) qNil)))) (qsFld qVar (qApp q_vTuple (qCons qVar qNil))))))))))))
noncomputable def bP_is_word : DS := (sRet (dAndVG (dApp (vIsi (isiB .str [])) (dCons (dVar 0) dNil)) (dApp (vInG nN) (dCons (dVar 0) (dCons (dVar 1) dNil)))))
noncomputable def mP_is_word : VF := fnBody 2 2 bP_is_word
noncomputable def bL_is_word : DS := (sRetF (dAndVG (dApp (vIsi (isiB .str [])) (dCons (dVarF 0) dNil)) (dApp (vInG nN) (dCons (dVarF 0) (dCons (dVarF 1) dNil)))))
noncomputable def mL_is_word : VF := fnBodyF 2 2 bL_is_word
theorem l_is_word : mL_is_word = mP_is_word := by
  unfold mL_is_word mP_is_word bL_is_word bP_is_word
  simp only [sSeqF_eq, sForF_eq, sAsgF_eq, sRetF_eq, dLc2F_eq, dLcF_eq, dVarF_eq, fnBodyF_eq, vApartF_eq, sFldSetF_eq, fres_eq, fmut_eq, dres_eq, dConsF_eq, vFldF_eq, dMethF_eq, vMakeF_eq, vNameOkF_eq]
theorem q_is_word {ν : Nat → List Nat} (N : Nam ν nN) (h_is_name : ∀ i μ, vApart m_is_name [.str ⟨⟨ν i⟩⟩] μ = .ok (.bl true) μ) : QF ν mP_is_word m_is_word := show QF ν (fnBody 2 2 bP_is_word) (fnBody 2 2 b_is_word) from qBody (show QS ν bP_is_word b_is_word from (qsRet (qAndV (qApp q_vIsi (qCons qVar qNil)) (qApp (q_vIn N) (qCons qVar (qCons qVar qNil))))))
noncomputable def bP_Tongue_parts : DS := (sSeq (sIf (dNot (dTruG (dApp mP_is_word (dCons (dVar 1) (dCons (dApp (vFld aC_Tongue ⟨⟨[111, 119, 110, 95, 109, 101, 116, 114, 101, 115]⟩⟩) (dCons (dVar 0) dNil)) dNil))))) sBad sNil) (sRet (dApp (vIxG nN) (dCons (dApp (vFld aC_Tongue ⟨⟨[111, 119, 110, 95, 109, 101, 116, 114, 101, 115]⟩⟩) (dCons (dVar 0) dNil)) (dCons (dVar 1) dNil)))))
noncomputable def mP_Tongue_parts : VF := fnBody 2 2 bP_Tongue_parts
noncomputable def bL_Tongue_parts : DS := (sSeqF (sIf (dNot (dTruG (dApp mL_is_word (dCons (dVarF 1) (dConsF (dApp (vFldF aC_Tongue ⟨⟨[111, 119, 110, 95, 109, 101, 116, 114, 101, 115]⟩⟩) (dCons (dVarF 0) dNil)) dNil))))) sBad sNil) (sRetF (dApp (fres (vIxG nN)) (dConsF (dApp (vFldF aC_Tongue ⟨⟨[111, 119, 110, 95, 109, 101, 116, 114, 101, 115]⟩⟩) (dCons (dVarF 0) dNil)) (dCons (dVarF 1) dNil)))))
noncomputable def mL_Tongue_parts : VF := fnBodyF 2 2 bL_Tongue_parts
theorem l_Tongue_parts : mL_Tongue_parts = mP_Tongue_parts := by
  unfold mL_Tongue_parts mP_Tongue_parts bL_Tongue_parts bP_Tongue_parts
  simp only [sSeqF_eq, sForF_eq, sAsgF_eq, sRetF_eq, dLc2F_eq, dLcF_eq, dVarF_eq, fnBodyF_eq, vApartF_eq, sFldSetF_eq, fres_eq, fmut_eq, dres_eq, dConsF_eq, vFldF_eq, dMethF_eq, vMakeF_eq, vNameOkF_eq, l_is_word]
theorem q_Tongue_parts {ν : Nat → List Nat} (N : Nam ν nN) (h_is_name : ∀ i μ, vApart m_is_name [.str ⟨⟨ν i⟩⟩] μ = .ok (.bl true) μ) : QF ν mP_Tongue_parts m_Tongue_parts := show QF ν (fnBody 2 2 bP_Tongue_parts) (fnBody 2 2 b_Tongue_parts) from qBody (show QS ν bP_Tongue_parts b_Tongue_parts from (qsSeq (qsIf (qNot (qTru (qApp (q_is_word N h_is_name) (qCons qVar (qCons (qApp qFld (qCons qVar qNil)) qNil))))) qsBad qsNil) (qsRet (qApp (q_vIx N) (qCons (qApp qFld (qCons qVar qNil)) (qCons qVar qNil))))))
noncomputable def bP_Tongue_check_word : DS := (sIf (dNot (dTruG (dApp mP_is_word (dCons (dVar 1) (dCons (dApp (vFld aC_Tongue ⟨⟨[111, 119, 110, 95, 119, 111, 114, 100, 115]⟩⟩) (dCons (dVar 0) dNil)) dNil))))) sBad sNil)
noncomputable def mP_Tongue_check_word : VF := fnBody 2 2 bP_Tongue_check_word
noncomputable def bL_Tongue_check_word : DS := (sIf (dNot (dTruG (dApp mL_is_word (dCons (dVarF 1) (dConsF (dApp (vFldF aC_Tongue ⟨⟨[111, 119, 110, 95, 119, 111, 114, 100, 115]⟩⟩) (dCons (dVarF 0) dNil)) dNil))))) sBad sNil)
noncomputable def mL_Tongue_check_word : VF := fnBodyF 2 2 bL_Tongue_check_word
theorem l_Tongue_check_word : mL_Tongue_check_word = mP_Tongue_check_word := by
  unfold mL_Tongue_check_word mP_Tongue_check_word bL_Tongue_check_word bP_Tongue_check_word
  simp only [sSeqF_eq, sForF_eq, sAsgF_eq, sRetF_eq, dLc2F_eq, dLcF_eq, dVarF_eq, fnBodyF_eq, vApartF_eq, sFldSetF_eq, fres_eq, fmut_eq, dres_eq, dConsF_eq, vFldF_eq, dMethF_eq, vMakeF_eq, vNameOkF_eq, l_is_word]
theorem q_Tongue_check_word {ν : Nat → List Nat} (N : Nam ν nN) (h_is_name : ∀ i μ, vApart m_is_name [.str ⟨⟨ν i⟩⟩] μ = .ok (.bl true) μ) : QF ν mP_Tongue_check_word m_Tongue_check_word := show QF ν (fnBody 2 2 bP_Tongue_check_word) (fnBody 2 2 b_Tongue_check_word) from qBody (show QS ν bP_Tongue_check_word b_Tongue_check_word from (qsIf (qNot (qTru (qApp (q_is_word N h_is_name) (qCons qVar (qCons (qApp qFld (qCons qVar qNil)) qNil))))) qsBad qsNil))
noncomputable def bP_TongueD_getitemD : DS := (sSeq (sExpr (dMeth aC_Tongue ⟨⟨[99, 104, 101, 99, 107, 95, 119, 111, 114, 100]⟩⟩ mP_Tongue_check_word (dVar 0) (dCons (dVar 1) dNil))) (sRet (dApp (vIxG nN) (dCons (dApp (vFld aC_Tongue ⟨⟨[111, 119, 110, 95, 119, 111, 114, 100, 115]⟩⟩) (dCons (dVar 0) dNil)) (dCons (dVar 1) dNil)))))
noncomputable def mP_TongueD_getitemD : VF := fnBody 2 2 bP_TongueD_getitemD
noncomputable def bL_TongueD_getitemD : DS := (sSeqF (sExpr (dMethF aC_Tongue ⟨⟨[99, 104, 101, 99, 107, 95, 119, 111, 114, 100]⟩⟩ mL_Tongue_check_word (dVarF 0) (dCons (dVarF 1) dNil))) (sRetF (dApp (fres (vIxG nN)) (dConsF (dApp (vFldF aC_Tongue ⟨⟨[111, 119, 110, 95, 119, 111, 114, 100, 115]⟩⟩) (dCons (dVarF 0) dNil)) (dCons (dVarF 1) dNil)))))
noncomputable def mL_TongueD_getitemD : VF := fnBodyF 2 2 bL_TongueD_getitemD
theorem l_TongueD_getitemD : mL_TongueD_getitemD = mP_TongueD_getitemD := by
  unfold mL_TongueD_getitemD mP_TongueD_getitemD bL_TongueD_getitemD bP_TongueD_getitemD
  simp only [sSeqF_eq, sForF_eq, sAsgF_eq, sRetF_eq, dLc2F_eq, dLcF_eq, dVarF_eq, fnBodyF_eq, vApartF_eq, sFldSetF_eq, fres_eq, fmut_eq, dres_eq, dConsF_eq, vFldF_eq, dMethF_eq, vMakeF_eq, vNameOkF_eq, l_Tongue_check_word]
theorem q_TongueD_getitemD {ν : Nat → List Nat} (N : Nam ν nN) (h_is_name : ∀ i μ, vApart m_is_name [.str ⟨⟨ν i⟩⟩] μ = .ok (.bl true) μ) : QF ν mP_TongueD_getitemD m_TongueD_getitemD := show QF ν (fnBody 2 2 bP_TongueD_getitemD) (fnBody 2 2 b_TongueD_getitemD) from qBody (show QS ν bP_TongueD_getitemD b_TongueD_getitemD from (qsSeq (qsExpr (qMeth (q_Tongue_check_word N h_is_name) qVar (qCons qVar qNil))) (qsRet (qApp (q_vIx N) (qCons (qApp qFld (qCons qVar qNil)) (qCons qVar qNil))))))
noncomputable def bP_Tongue_words : DS := (sRet (dApp (vFld aC_Tongue ⟨⟨[111, 119, 110, 95, 110, 97, 109, 101, 115]⟩⟩) (dCons (dVar 0) dNil)))
noncomputable def mP_Tongue_words : VF := fnBody 1 1 bP_Tongue_words
noncomputable def bL_Tongue_words : DS := (sRetF (dApp (vFldF aC_Tongue ⟨⟨[111, 119, 110, 95, 110, 97, 109, 101, 115]⟩⟩) (dCons (dVarF 0) dNil)))
noncomputable def mL_Tongue_words : VF := fnBodyF 1 1 bL_Tongue_words
theorem l_Tongue_words : mL_Tongue_words = mP_Tongue_words := by
  unfold mL_Tongue_words mP_Tongue_words bL_Tongue_words bP_Tongue_words
  simp only [sSeqF_eq, sForF_eq, sAsgF_eq, sRetF_eq, dLc2F_eq, dLcF_eq, dVarF_eq, fnBodyF_eq, vApartF_eq, sFldSetF_eq, fres_eq, fmut_eq, dres_eq, dConsF_eq, vFldF_eq, dMethF_eq, vMakeF_eq, vNameOkF_eq]
theorem q_Tongue_words {ν : Nat → List Nat} (N : Nam ν nN) (h_is_name : ∀ i μ, vApart m_is_name [.str ⟨⟨ν i⟩⟩] μ = .ok (.bl true) μ) : QF ν mP_Tongue_words m_Tongue_words := show QF ν (fnBody 1 1 bP_Tongue_words) (fnBody 1 1 b_Tongue_words) from qBody (show QS ν bP_Tongue_words b_Tongue_words from (qsRet (qApp qFld (qCons qVar qNil))))
noncomputable def bP_spoken : DS := (sSeq (sAsg (dApp vTup (dCons (dApp vListG (dCons (dVar 1) dNil)) (dCons dNewD dNil))) (gTupA 2 (gCons' (gSet 2) (gCons' (gSet 3) gNil')))) (sSeq (sFor (dItAG (dApp (vProp aC_Tongue mP_Tongue_words) (dCons (dVar 0) dNil))) (gSet 4) (sSeq (sAsg (dLc (dItAG (dApp (vIxG nN) (dCons (dApp (vItemO aC_Tongue mP_TongueD_getitemD) (dCons (dVar 0) (dCons (dVar 4) dNil))) (dCons (dC (.int 1)) dNil)))) (gSet 6) tYes' (dIf (dTest (dApp (vEqG nN) (dCons (dVar 6) (dCons (dC (.str ⟨⟨[63]⟩⟩)) dNil)))) (dM isLstP vPop (dVar 2) (dCons (dC (.int 0)) dNil)) (dVar 6)) [6]) (gSet 5)) (sAsg (dM isStrP vJoinG (dC (.str ⟨⟨[]⟩⟩)) (dCons (dVar 5) dNil)) (gItemG nN (dVar 3) (dVar 4))))) (sRet (dVar 3))))
noncomputable def mP_spoken : VF := fnBody 2 7 bP_spoken
noncomputable def bL_spoken : DS := (sSeqF (sAsgF (dApp vTup (dConsF (dApp (fres vListG) (dCons (dVarF 1) dNil)) (dConsF (dres dNewD) dNil))) (gTupA 2 (gCons' (gSet 2) (gCons' (gSet 3) gNil')))) (sSeqF (sForF (dItAG (dApp (vProp aC_Tongue mL_Tongue_words) (dCons (dVarF 0) dNil))) (gSet 4) (sSeqF (sAsgF (dLcF (dItAG (dApp (fres (vIxG nN)) (dConsF (dApp (vItemO aC_Tongue mL_TongueD_getitemD) (dCons (dVarF 0) (dCons (dVarF 4) dNil))) (dCons (dC (.int 1)) dNil)))) (gSet 6) tYes' (dIf (dTest (dApp (vEqG nN) (dCons (dVarF 6) (dCons (dC (.str ⟨⟨[63]⟩⟩)) dNil)))) (dM isLstP (fmut vPop) (dVarF 2) (dCons (dC (.int 0)) dNil)) (dVarF 6)) [6]) (gSet 5)) (sAsgF (dM isStrP (fres vJoinG) (dC (.str ⟨⟨[]⟩⟩)) (dCons (dVarF 5) dNil)) (gItemG nN (dVarF 3) (dVarF 4))))) (sRetF (dVarF 3))))
noncomputable def mL_spoken : VF := fnBodyF 2 7 bL_spoken
theorem l_spoken : mL_spoken = mP_spoken := by
  unfold mL_spoken mP_spoken bL_spoken bP_spoken
  simp only [sSeqF_eq, sForF_eq, sAsgF_eq, sRetF_eq, dLc2F_eq, dLcF_eq, dVarF_eq, fnBodyF_eq, vApartF_eq, sFldSetF_eq, fres_eq, fmut_eq, dres_eq, dConsF_eq, vFldF_eq, dMethF_eq, vMakeF_eq, vNameOkF_eq, l_TongueD_getitemD, l_Tongue_words]
theorem q_spoken {ν : Nat → List Nat} (N : Nam ν nN) (h_is_name : ∀ i μ, vApart m_is_name [.str ⟨⟨ν i⟩⟩] μ = .ok (.bl true) μ) : QF ν mP_spoken m_spoken := show QF ν (fnBody 2 7 bP_spoken) (fnBody 2 7 b_spoken) from qBody (show QS ν bP_spoken b_spoken from (qsSeq (qsAsg (qApp q_vTup (qCons (qApp q_vList (qCons qVar qNil)) (qCons qNewD qNil))) (qgTup (qgCons qgSet (qgCons qgSet qgNil)))) (qsSeq (qsFor (qItA (qApp (qProp (q_Tongue_words N h_is_name)) (qCons qVar qNil))) qgSet (qsSeq (qsAsg (qLc (qItA (qApp (q_vIx N) (qCons (qApp (qItemO (q_TongueD_getitemD N h_is_name)) (qCons qVar (qCons qVar qNil))) (qCons qCi qNil)))) qgSet qYes (qIf (qTest (qApp (q_vEq N) (qCons qVar (qCons (qCs (by kernel_rfl) (by kernel_rfl)) qNil)))) (qM t_lst q_vPop qVar (qCons qCi qNil)) qVar)) qgSet) (qsAsg (qM t_str q_vJoin (qCs (by kernel_rfl) (by kernel_rfl)) (qCons qVar qNil)) (qgItem N qVar qVar)))) (qsRet qVar))))
noncomputable def bP_VoiceD_initD : DS := (sSeq (sFldSet aC_Voice ⟨⟨[111, 119, 110, 95, 116, 111, 110, 103, 117, 101]⟩⟩ (dVar 0) (dVar 1)) (sSeq (sFldSet aC_Voice ⟨⟨[111, 119, 110, 95, 112, 97, 114, 116, 115]⟩⟩ (dVar 0) (dMeth aC_Tongue ⟨⟨[112, 97, 114, 116, 115]⟩⟩ mP_Tongue_parts (dVar 1) (dCons (dVar 3) dNil))) (sFldSet aC_Voice ⟨⟨[111, 119, 110, 95, 115, 97, 105, 100]⟩⟩ (dVar 0) (dApp mP_spoken (dCons (dVar 1) (dCons (dVar 2) dNil))))))
noncomputable def mP_VoiceD_initD : VF := fnBody 4 4 bP_VoiceD_initD
noncomputable def bL_VoiceD_initD : DS := (sSeqF (sFldSetF aC_Voice ⟨⟨[111, 119, 110, 95, 116, 111, 110, 103, 117, 101]⟩⟩ (dVarF 0) (dVarF 1)) (sSeqF (sFldSetF aC_Voice ⟨⟨[111, 119, 110, 95, 112, 97, 114, 116, 115]⟩⟩ (dVarF 0) (dMethF aC_Tongue ⟨⟨[112, 97, 114, 116, 115]⟩⟩ mL_Tongue_parts (dVarF 1) (dCons (dVarF 3) dNil))) (sFldSetF aC_Voice ⟨⟨[111, 119, 110, 95, 115, 97, 105, 100]⟩⟩ (dVarF 0) (dApp mL_spoken (dCons (dVarF 1) (dCons (dVarF 2) dNil))))))
noncomputable def mL_VoiceD_initD : VF := fnBodyF 4 4 bL_VoiceD_initD
theorem l_VoiceD_initD : mL_VoiceD_initD = mP_VoiceD_initD := by
  unfold mL_VoiceD_initD mP_VoiceD_initD bL_VoiceD_initD bP_VoiceD_initD
  simp only [sSeqF_eq, sForF_eq, sAsgF_eq, sRetF_eq, dLc2F_eq, dLcF_eq, dVarF_eq, fnBodyF_eq, vApartF_eq, sFldSetF_eq, fres_eq, fmut_eq, dres_eq, dConsF_eq, vFldF_eq, dMethF_eq, vMakeF_eq, vNameOkF_eq, l_Tongue_parts, l_spoken]
theorem q_VoiceD_initD {ν : Nat → List Nat} (N : Nam ν nN) (h_is_name : ∀ i μ, vApart m_is_name [.str ⟨⟨ν i⟩⟩] μ = .ok (.bl true) μ) : QF ν mP_VoiceD_initD m_VoiceD_initD := show QF ν (fnBody 4 4 bP_VoiceD_initD) (fnBody 4 4 b_VoiceD_initD) from qBody (show QS ν bP_VoiceD_initD b_VoiceD_initD from (qsSeq (qsFld qVar qVar) (qsSeq (qsFld qVar (qMeth (q_Tongue_parts N h_is_name) qVar (qCons qVar qNil))) (qsFld qVar (qApp (q_spoken N h_is_name) (qCons qVar (qCons qVar qNil)))))))
noncomputable def bP_behind : DS := (sSeq (sIf (dTest (dApp (vNeG nN) (dCons (dVar 2) (dCons (dC (.str ⟨⟨[]⟩⟩)) dNil)))) (sRet (dApp vTup (dCons (dVar 1) (dCons (dVar 2) dNil)))) sNil) (sRet (dApp vTup (dCons (dIf (dTest (dApp vIs (dCons (dApp (vIxG nN) (dCons (dApp (vIxG nN) (dCons (dVar 0) (dCons (dVar 1) dNil))) (dCons (dC (.int 0)) dNil))) (dCons (dC (.bl true)) dNil)))) (dVar 1) (dApp vAddG (dCons (dVar 1) (dCons (dC (.int 1)) dNil)))) (dCons (dC (.str ⟨⟨[]⟩⟩)) dNil)))))
noncomputable def mP_behind : VF := fnBody 3 3 bP_behind
noncomputable def bL_behind : DS := (sSeqF (sIf (dTest (dApp (vNeG nN) (dCons (dVarF 2) (dCons (dC (.str ⟨⟨[]⟩⟩)) dNil)))) (sRetF (dApp vTup (dCons (dVarF 1) (dCons (dVarF 2) dNil)))) sNil) (sRetF (dApp vTup (dConsF (dIf (dTest (dApp vIs (dConsF (dApp (fres (vIxG nN)) (dConsF (dApp (fres (vIxG nN)) (dCons (dVarF 0) (dCons (dVarF 1) dNil))) (dCons (dC (.int 0)) dNil))) (dCons (dC (.bl true)) dNil)))) (dVarF 1) (dApp (fres vAddG) (dCons (dVarF 1) (dCons (dC (.int 1)) dNil)))) (dCons (dC (.str ⟨⟨[]⟩⟩)) dNil)))))
noncomputable def mL_behind : VF := fnBodyF 3 3 bL_behind
theorem l_behind : mL_behind = mP_behind := by
  unfold mL_behind mP_behind bL_behind bP_behind
  simp only [sSeqF_eq, sForF_eq, sAsgF_eq, sRetF_eq, dLc2F_eq, dLcF_eq, dVarF_eq, fnBodyF_eq, vApartF_eq, sFldSetF_eq, fres_eq, fmut_eq, dres_eq, dConsF_eq, vFldF_eq, dMethF_eq, vMakeF_eq, vNameOkF_eq]
theorem q_behind {ν : Nat → List Nat} (N : Nam ν nN) (h_is_name : ∀ i μ, vApart m_is_name [.str ⟨⟨ν i⟩⟩] μ = .ok (.bl true) μ) : QF ν mP_behind m_behind := show QF ν (fnBody 3 3 bP_behind) (fnBody 3 3 b_behind) from qBody (show QS ν bP_behind b_behind from (qsSeq (qsIf (qTest (qApp (q_vNe N) (qCons qVar (qCons (qCs (by kernel_rfl) (by kernel_rfl)) qNil)))) (qsRet (qApp q_vTup (qCons qVar (qCons qVar qNil)))) qsNil) (qsRet (qApp q_vTup (qCons (qIf (qTest (qApp q_vIs (qCons (qApp (q_vIx N) (qCons (qApp (q_vIx N) (qCons qVar (qCons qVar qNil))) (qCons qCi qNil))) (qCons qCb qNil)))) qVar (qApp (q_vAdd N) (qCons qVar (qCons qCi qNil)))) (qCons (qCs (by kernel_rfl) (by kernel_rfl)) qNil))))))
noncomputable def bP_feet_begun : DS := (sSeq (sAsg (dVar 1) (gTupA 2 (gCons' (gSet 4) (gCons' (gSet 5) gNil')))) (sSeq (sIf (dTest (dApp (vNeG nN) (dCons (dVar 5) (dCons (dC (.str ⟨⟨[]⟩⟩)) dNil)))) (sRet (dIf (dTest (dApp (vInG nN) (dCons (dApp (vIxG nN) (dCons (dVar 5) (dCons (dC (.int 0)) dNil))) (dCons (dApp vTup (dCons (dVar 2) (dCons (dC (.str ⟨⟨[120]⟩⟩)) dNil))) dNil)))) (dApp vLst (dCons (dApp vTup (dCons (dApp (vApart mP_behind) (dCons (dVar 0) (dCons (dVar 4) (dCons (dCutG (dVar 5) (dPart (dC (.int 1))) dNoPart) dNil)))) (dCons (dC .non) dNil))) dNil)) (dApp vLst dNil))) sNil) (sSeq (sAsg (dApp vLst dNil) (gSet 6)) (sSeq (sFor (dRg2 (dVar 4) (dApp vLenG (dCons (dVar 0) dNil))) (gSet 7) (sSeq (sAsg (dApp (vIxG nN) (dCons (dVar 0) (dCons (dVar 7) dNil))) (gSet 8)) (sIf (dTest (dApp (vInG nN) (dCons (dVar 8) (dCons (dApp vTup (dCons (dC (.str ⟨⟨[124]⟩⟩)) (dCons (dC (.str ⟨⟨[33]⟩⟩)) dNil))) dNil)))) (sIf (dTest (dApp (vNeG nN) (dCons (dApp (vEqG nN) (dCons (dVar 8) (dCons (dC (.str ⟨⟨[124]⟩⟩)) dNil))) (dCons (dVar 3) dNil)))) sBreak sNil) (sSeq (sAsg (dVar 8) (gTupA 2 (gCons' (gSet 9) (gCons' (gSet 10) gNil')))) (sSeq (sAsg (dLc (dItAG (dVar 10)) (gSet 12) (dTest (dApp (vInG nN) (dCons (dApp (vIxG nN) (dCons (dVar 12) (dCons (dC (.int 0)) dNil))) (dCons (dApp vTup (dCons (dVar 2) (dCons (dC (.str ⟨⟨[120]⟩⟩)) dNil))) dNil)))) (dVar 12) [12]) (gSet 11)) (sSeq (sExpr (dM isLstP vExtend (dVar 6) (dCons (dLc (dItAG (dVar 11)) (gSet 12) tYes' (dApp vTup (dCons (dApp (vApart mP_behind) (dCons (dVar 0) (dCons (dVar 7) (dCons (dCutG (dVar 12) (dPart (dC (.int 1))) dNoPart) dNil)))) (dCons (dApp vTup (dCons (dVar 7) (dCons (dVar 12) dNil))) dNil))) [12]) dNil))) (sIf (dNot (dTruG (dVar 9))) sBreak sNil))))))) (sRet (dVar 6))))))
noncomputable def mP_feet_begun : VF := fnBody 4 13 bP_feet_begun
noncomputable def bL_feet_begun : DS := (sSeqF (sAsgF (dVarF 1) (gTupA 2 (gCons' (gSet 4) (gCons' (gSet 5) gNil')))) (sSeqF (sIf (dTest (dApp (vNeG nN) (dCons (dVarF 5) (dCons (dC (.str ⟨⟨[]⟩⟩)) dNil)))) (sRetF (dIf (dTest (dApp (vInG nN) (dConsF (dApp (fres (vIxG nN)) (dCons (dVarF 5) (dCons (dC (.int 0)) dNil))) (dConsF (dApp vTup (dCons (dVarF 2) (dCons (dC (.str ⟨⟨[120]⟩⟩)) dNil))) dNil)))) (dApp (fres vLst) (dConsF (dApp vTup (dConsF (dApp (vApartF mL_behind) (dCons (dVarF 0) (dCons (dVarF 4) (dConsF (dres (dCutG (dVarF 5) (dPart (dC (.int 1))) dNoPart)) dNil)))) (dCons (dC .non) dNil))) dNil)) (dApp (fres vLst) dNil))) sNil) (sSeqF (sAsgF (dApp (fres vLst) dNil) (gSet 6)) (sSeqF (sForF (dRg2 (dVarF 4) (dApp vLenG (dCons (dVarF 0) dNil))) (gSet 7) (sSeqF (sAsgF (dApp (fres (vIxG nN)) (dCons (dVarF 0) (dCons (dVarF 7) dNil))) (gSet 8)) (sIf (dTest (dApp (vInG nN) (dCons (dVarF 8) (dConsF (dApp vTup (dCons (dC (.str ⟨⟨[124]⟩⟩)) (dCons (dC (.str ⟨⟨[33]⟩⟩)) dNil))) dNil)))) (sIf (dTest (dApp (vNeG nN) (dConsF (dApp (vEqG nN) (dCons (dVarF 8) (dCons (dC (.str ⟨⟨[124]⟩⟩)) dNil))) (dCons (dVarF 3) dNil)))) sBreak sNil) (sSeqF (sAsgF (dVarF 8) (gTupA 2 (gCons' (gSet 9) (gCons' (gSet 10) gNil')))) (sSeqF (sAsgF (dLcF (dItAG (dVarF 10)) (gSet 12) (dTest (dApp (vInG nN) (dConsF (dApp (fres (vIxG nN)) (dCons (dVarF 12) (dCons (dC (.int 0)) dNil))) (dConsF (dApp vTup (dCons (dVarF 2) (dCons (dC (.str ⟨⟨[120]⟩⟩)) dNil))) dNil)))) (dVarF 12) [12]) (gSet 11)) (sSeqF (sExpr (dM isLstP (fmut vExtend) (dVarF 6) (dConsF (dLcF (dItAG (dVarF 11)) (gSet 12) tYes' (dApp vTup (dConsF (dApp (vApartF mL_behind) (dCons (dVarF 0) (dCons (dVarF 7) (dConsF (dres (dCutG (dVarF 12) (dPart (dC (.int 1))) dNoPart)) dNil)))) (dConsF (dApp vTup (dCons (dVarF 7) (dCons (dVarF 12) dNil))) dNil))) [12]) dNil))) (sIf (dNot (dTruG (dVarF 9))) sBreak sNil))))))) (sRetF (dVarF 6))))))
noncomputable def mL_feet_begun : VF := fnBodyF 4 13 bL_feet_begun
theorem l_feet_begun : mL_feet_begun = mP_feet_begun := by
  unfold mL_feet_begun mP_feet_begun bL_feet_begun bP_feet_begun
  simp only [sSeqF_eq, sForF_eq, sAsgF_eq, sRetF_eq, dLc2F_eq, dLcF_eq, dVarF_eq, fnBodyF_eq, vApartF_eq, sFldSetF_eq, fres_eq, fmut_eq, dres_eq, dConsF_eq, vFldF_eq, dMethF_eq, vMakeF_eq, vNameOkF_eq, l_behind]
theorem q_feet_begun {ν : Nat → List Nat} (N : Nam ν nN) (h_is_name : ∀ i μ, vApart m_is_name [.str ⟨⟨ν i⟩⟩] μ = .ok (.bl true) μ) : QF ν mP_feet_begun m_feet_begun := show QF ν (fnBody 4 13 bP_feet_begun) (fnBody 4 13 b_feet_begun) from qBody (show QS ν bP_feet_begun b_feet_begun from (qsSeq (qsAsg qVar (qgTup (qgCons qgSet (qgCons qgSet qgNil)))) (qsSeq (qsIf (qTest (qApp (q_vNe N) (qCons qVar (qCons (qCs (by kernel_rfl) (by kernel_rfl)) qNil)))) (qsRet (qIf (qTest (qApp (q_vIn N) (qCons (qApp (q_vIx N) (qCons qVar (qCons qCi qNil))) (qCons (qApp q_vTup (qCons qVar (qCons (qCs (by kernel_rfl) (by kernel_rfl)) qNil))) qNil)))) (qApp q_vLst (qCons (qApp q_vTup (qCons (qApp (qApart (q_behind N h_is_name)) (qCons qVar (qCons qVar (qCons (qCut qVar (qPart qCi) qNoPart) qNil)))) (qCons qCn qNil))) qNil)) (qApp q_vLst qNil))) qsNil) (qsSeq (qsAsg (qApp q_vLst qNil) qgSet) (qsSeq (qsFor (qRg2 qVar (qApp q_vLen (qCons qVar qNil))) qgSet (qsSeq (qsAsg (qApp (q_vIx N) (qCons qVar (qCons qVar qNil))) qgSet) (qsIf (qTest (qApp (q_vIn N) (qCons qVar (qCons (qApp q_vTup (qCons (qCs (by kernel_rfl) (by kernel_rfl)) (qCons (qCs (by kernel_rfl) (by kernel_rfl)) qNil))) qNil)))) (qsIf (qTest (qApp (q_vNe N) (qCons (qApp (q_vEq N) (qCons qVar (qCons (qCs (by kernel_rfl) (by kernel_rfl)) qNil))) (qCons qVar qNil)))) qsBreak qsNil) (qsSeq (qsAsg qVar (qgTup (qgCons qgSet (qgCons qgSet qgNil)))) (qsSeq (qsAsg (qLc (qItA qVar) qgSet (qTest (qApp (q_vIn N) (qCons (qApp (q_vIx N) (qCons qVar (qCons qCi qNil))) (qCons (qApp q_vTup (qCons qVar (qCons (qCs (by kernel_rfl) (by kernel_rfl)) qNil))) qNil)))) qVar) qgSet) (qsSeq (qsExpr (qM t_lst q_vExtend qVar (qCons (qLc (qItA qVar) qgSet qYes (qApp q_vTup (qCons (qApp (qApart (q_behind N h_is_name)) (qCons qVar (qCons qVar (qCons (qCut qVar (qPart qCi) qNoPart) qNil)))) (qCons (qApp q_vTup (qCons qVar (qCons qVar qNil))) qNil)))) qNil))) (qsIf (qNot (qTru qVar)) qsBreak qsNil))))))) (qsRet qVar))))))
noncomputable def bP_stepped : DS := (sSeq (sAsg (dApp vLst dNil) (gSet 4)) (sSeq (sFor (dItAG (dVar 1)) (gSet 5) (sExpr (dM isLstP vExtend (dVar 4) (dCons (dLc (dItAG (dApp mP_feet_begun (dCons (dVar 0) (dCons (dVar 5) (dCons (dVar 2) (dCons (dVar 3) dNil)))))) (gTupA 2 (gCons' (gSet 6) (gCons' (gSet 7) gNil'))) tYes' (dVar 6) [6, 7]) dNil)))) (sRet (dApp vTupleG (dCons (dApp vSortSetG (dCons (dVar 4) dNil)) dNil)))))
noncomputable def mP_stepped : VF := fnBody 4 8 bP_stepped
noncomputable def bL_stepped : DS := (sSeqF (sAsgF (dApp (fres vLst) dNil) (gSet 4)) (sSeqF (sForF (dItAG (dVarF 1)) (gSet 5) (sExpr (dM isLstP (fmut vExtend) (dVarF 4) (dConsF (dLcF (dItAG (dApp mL_feet_begun (dCons (dVarF 0) (dCons (dVarF 5) (dCons (dVarF 2) (dCons (dVarF 3) dNil)))))) (gTupA 2 (gCons' (gSet 6) (gCons' (gSet 7) gNil'))) tYes' (dVarF 6) [6, 7]) dNil)))) (sRetF (dApp (fres vTupleG) (dConsF (dApp (fres vSortSetG) (dCons (dVarF 4) dNil)) dNil)))))
noncomputable def mL_stepped : VF := fnBodyF 4 8 bL_stepped
theorem l_stepped : mL_stepped = mP_stepped := by
  unfold mL_stepped mP_stepped bL_stepped bP_stepped
  simp only [sSeqF_eq, sForF_eq, sAsgF_eq, sRetF_eq, dLc2F_eq, dLcF_eq, dVarF_eq, fnBodyF_eq, vApartF_eq, sFldSetF_eq, fres_eq, fmut_eq, dres_eq, dConsF_eq, vFldF_eq, dMethF_eq, vMakeF_eq, vNameOkF_eq, l_feet_begun]
theorem q_stepped {ν : Nat → List Nat} (N : Nam ν nN) (h_is_name : ∀ i μ, vApart m_is_name [.str ⟨⟨ν i⟩⟩] μ = .ok (.bl true) μ) : QF ν mP_stepped m_stepped := show QF ν (fnBody 4 8 bP_stepped) (fnBody 4 8 b_stepped) from qBody (show QS ν bP_stepped b_stepped from (qsSeq (qsAsg (qApp q_vLst qNil) qgSet) (qsSeq (qsFor (qItA qVar) qgSet (qsExpr (qM t_lst q_vExtend qVar (qCons (qLc (qItA (qApp (q_feet_begun N h_is_name) (qCons qVar (qCons qVar (qCons qVar (qCons qVar qNil)))))) (qgTup (qgCons qgSet (qgCons qgSet qgNil))) qYes qVar) qNil)))) (qsRet (qApp q_vTuple (qCons (qApp q_vSortSet (qCons qVar qNil)) qNil))))))
noncomputable def bP_Voice_led_in : DS := (sSeq (sFor (dEnumG (dCutG (dApp (vIxG nN) (dCons (dApp (vFld aC_Voice ⟨⟨[111, 119, 110, 95, 115, 97, 105, 100]⟩⟩) (dCons (dVar 0) dNil)) (dCons (dVar 2) dNil))) dNoPart (dPart (dApp vNeg (dCons (dC (.int 1)) dNil))))) (gTupA 2 (gCons' (gSet 3) (gCons' (gSet 4) gNil'))) (sAsg (dApp (vApart mP_stepped) (dCons (dApp (vFld aC_Voice ⟨⟨[111, 119, 110, 95, 112, 97, 114, 116, 115]⟩⟩) (dCons (dVar 0) dNil)) (dCons (dVar 1) (dCons (dVar 4) (dCons (dApp (vEqG nN) (dCons (dVar 3) (dCons (dC (.int 0)) dNil))) dNil))))) (gSet 1))) (sRet (dVar 1)))
noncomputable def mP_Voice_led_in : VF := fnBody 3 5 bP_Voice_led_in
noncomputable def bL_Voice_led_in : DS := (sSeqF (sForF (dEnumG (dres (dCutG (dApp (fres (vIxG nN)) (dConsF (dApp (vFldF aC_Voice ⟨⟨[111, 119, 110, 95, 115, 97, 105, 100]⟩⟩) (dCons (dVarF 0) dNil)) (dCons (dVarF 2) dNil))) dNoPart (dPart (dApp vNeg (dCons (dC (.int 1)) dNil)))))) (gTupA 2 (gCons' (gSet 3) (gCons' (gSet 4) gNil'))) (sAsgF (dApp (vApartF mL_stepped) (dConsF (dApp (vFldF aC_Voice ⟨⟨[111, 119, 110, 95, 112, 97, 114, 116, 115]⟩⟩) (dCons (dVarF 0) dNil)) (dCons (dVarF 1) (dCons (dVarF 4) (dConsF (dApp (vEqG nN) (dCons (dVarF 3) (dCons (dC (.int 0)) dNil))) dNil))))) (gSet 1))) (sRetF (dVarF 1)))
noncomputable def mL_Voice_led_in : VF := fnBodyF 3 5 bL_Voice_led_in
theorem l_Voice_led_in : mL_Voice_led_in = mP_Voice_led_in := by
  unfold mL_Voice_led_in mP_Voice_led_in bL_Voice_led_in bP_Voice_led_in
  simp only [sSeqF_eq, sForF_eq, sAsgF_eq, sRetF_eq, dLc2F_eq, dLcF_eq, dVarF_eq, fnBodyF_eq, vApartF_eq, sFldSetF_eq, fres_eq, fmut_eq, dres_eq, dConsF_eq, vFldF_eq, dMethF_eq, vMakeF_eq, vNameOkF_eq, l_stepped]
theorem q_Voice_led_in {ν : Nat → List Nat} (N : Nam ν nN) (h_is_name : ∀ i μ, vApart m_is_name [.str ⟨⟨ν i⟩⟩] μ = .ok (.bl true) μ) : QF ν mP_Voice_led_in m_Voice_led_in := show QF ν (fnBody 3 5 bP_Voice_led_in) (fnBody 3 5 b_Voice_led_in) from qBody (show QS ν bP_Voice_led_in b_Voice_led_in from (qsSeq (qsFor (qEnum (qCut (qApp (q_vIx N) (qCons (qApp qFld (qCons qVar qNil)) (qCons qVar qNil))) qNoPart (qPart (qApp q_vNeg (qCons qCi qNil))))) (qgTup (qgCons qgSet (qgCons qgSet qgNil))) (qsAsg (qApp (qApart (q_stepped N h_is_name)) (qCons (qApp qFld (qCons qVar qNil)) (qCons qVar (qCons qVar (qCons (qApp (q_vEq N) (qCons qVar (qCons qCi qNil))) qNil))))) qgSet)) (qsRet qVar)))
noncomputable def bP_Voice_first : DS := (sRet (dMeth aC_Voice ⟨⟨[108, 101, 100, 95, 105, 110]⟩⟩ mP_Voice_led_in (dVar 0) (dCons (dApp vTup (dCons (dC (.tup [.int 0, .str ⟨⟨[]⟩⟩])) dNil)) (dCons (dVar 1) dNil))))
noncomputable def mP_Voice_first : VF := fnBody 2 2 bP_Voice_first
noncomputable def bL_Voice_first : DS := (sRetF (dMethF aC_Voice ⟨⟨[108, 101, 100, 95, 105, 110]⟩⟩ mL_Voice_led_in (dVarF 0) (dConsF (dApp vTup (dCons (dC (.tup [.int 0, .str ⟨⟨[]⟩⟩])) dNil)) (dCons (dVarF 1) dNil))))
noncomputable def mL_Voice_first : VF := fnBodyF 2 2 bL_Voice_first
theorem l_Voice_first : mL_Voice_first = mP_Voice_first := by
  unfold mL_Voice_first mP_Voice_first bL_Voice_first bP_Voice_first
  simp only [sSeqF_eq, sForF_eq, sAsgF_eq, sRetF_eq, dLc2F_eq, dLcF_eq, dVarF_eq, fnBodyF_eq, vApartF_eq, sFldSetF_eq, fres_eq, fmut_eq, dres_eq, dConsF_eq, vFldF_eq, dMethF_eq, vMakeF_eq, vNameOkF_eq, l_Voice_led_in]
theorem q_Voice_first {ν : Nat → List Nat} (N : Nam ν nN) (h_is_name : ∀ i μ, vApart m_is_name [.str ⟨⟨ν i⟩⟩] μ = .ok (.bl true) μ) : QF ν mP_Voice_first m_Voice_first := show QF ν (fnBody 2 2 bP_Voice_first) (fnBody 2 2 b_Voice_first) from qBody (show QS ν bP_Voice_first b_Voice_first from (qsRet (qMeth (q_Voice_led_in N h_is_name) qVar (qCons (qApp q_vTup (qCons (qCp (by kernel_rfl) (by kernel_rfl)) qNil)) (qCons qVar qNil)))))
noncomputable def bP_Tongue_joint : DS := (sSeq (sExpr (dMeth aC_Tongue ⟨⟨[99, 104, 101, 99, 107, 95, 119, 111, 114, 100]⟩⟩ mP_Tongue_check_word (dVar 0) (dCons (dVar 1) dNil))) (sSeq (sExpr (dMeth aC_Tongue ⟨⟨[99, 104, 101, 99, 107, 95, 119, 111, 114, 100]⟩⟩ mP_Tongue_check_word (dVar 0) (dCons (dVar 2) dNil))) (sRet (dM isDctP (vDGetG nN) (dApp (vFld aC_Tongue ⟨⟨[111, 119, 110, 95, 106, 111, 105, 110, 116, 115]⟩⟩) (dCons (dVar 0) dNil)) (dCons (dApp vTup (dCons (dApp (vIxG nN) (dCons (dApp (vIxG nN) (dCons (dApp (vFld aC_Tongue ⟨⟨[111, 119, 110, 95, 119, 111, 114, 100, 115]⟩⟩) (dCons (dVar 0) dNil)) (dCons (dVar 1) dNil))) (dCons (dApp vNeg (dCons (dC (.int 1)) dNil)) dNil))) (dCons (dApp (vIxG nN) (dCons (dApp (vIxG nN) (dCons (dApp (vFld aC_Tongue ⟨⟨[111, 119, 110, 95, 119, 111, 114, 100, 115]⟩⟩) (dCons (dVar 0) dNil)) (dCons (dVar 2) dNil))) (dCons (dC (.int 0)) dNil))) dNil))) (dCons (dC (.str ⟨⟨[]⟩⟩)) dNil))))))
noncomputable def mP_Tongue_joint : VF := fnBody 3 3 bP_Tongue_joint
noncomputable def bL_Tongue_joint : DS := (sSeqF (sExpr (dMethF aC_Tongue ⟨⟨[99, 104, 101, 99, 107, 95, 119, 111, 114, 100]⟩⟩ mL_Tongue_check_word (dVarF 0) (dCons (dVarF 1) dNil))) (sSeqF (sExpr (dMethF aC_Tongue ⟨⟨[99, 104, 101, 99, 107, 95, 119, 111, 114, 100]⟩⟩ mL_Tongue_check_word (dVarF 0) (dCons (dVarF 2) dNil))) (sRetF (dM isDctP (vDGetG nN) (dApp (vFldF aC_Tongue ⟨⟨[111, 119, 110, 95, 106, 111, 105, 110, 116, 115]⟩⟩) (dCons (dVarF 0) dNil)) (dConsF (dApp vTup (dConsF (dApp (fres (vIxG nN)) (dConsF (dApp (fres (vIxG nN)) (dConsF (dApp (vFldF aC_Tongue ⟨⟨[111, 119, 110, 95, 119, 111, 114, 100, 115]⟩⟩) (dCons (dVarF 0) dNil)) (dCons (dVarF 1) dNil))) (dConsF (dApp vNeg (dCons (dC (.int 1)) dNil)) dNil))) (dConsF (dApp (fres (vIxG nN)) (dConsF (dApp (fres (vIxG nN)) (dConsF (dApp (vFldF aC_Tongue ⟨⟨[111, 119, 110, 95, 119, 111, 114, 100, 115]⟩⟩) (dCons (dVarF 0) dNil)) (dCons (dVarF 2) dNil))) (dCons (dC (.int 0)) dNil))) dNil))) (dCons (dC (.str ⟨⟨[]⟩⟩)) dNil))))))
noncomputable def mL_Tongue_joint : VF := fnBodyF 3 3 bL_Tongue_joint
theorem l_Tongue_joint : mL_Tongue_joint = mP_Tongue_joint := by
  unfold mL_Tongue_joint mP_Tongue_joint bL_Tongue_joint bP_Tongue_joint
  simp only [sSeqF_eq, sForF_eq, sAsgF_eq, sRetF_eq, dLc2F_eq, dLcF_eq, dVarF_eq, fnBodyF_eq, vApartF_eq, sFldSetF_eq, fres_eq, fmut_eq, dres_eq, dConsF_eq, vFldF_eq, dMethF_eq, vMakeF_eq, vNameOkF_eq, l_Tongue_check_word]
theorem q_Tongue_joint {ν : Nat → List Nat} (N : Nam ν nN) (h_is_name : ∀ i μ, vApart m_is_name [.str ⟨⟨ν i⟩⟩] μ = .ok (.bl true) μ) : QF ν mP_Tongue_joint m_Tongue_joint := show QF ν (fnBody 3 3 bP_Tongue_joint) (fnBody 3 3 b_Tongue_joint) from qBody (show QS ν bP_Tongue_joint b_Tongue_joint from (qsSeq (qsExpr (qMeth (q_Tongue_check_word N h_is_name) qVar (qCons qVar qNil))) (qsSeq (qsExpr (qMeth (q_Tongue_check_word N h_is_name) qVar (qCons qVar qNil))) (qsRet (qM t_dct (q_vDGet N) (qApp qFld (qCons qVar qNil)) (qCons (qApp q_vTup (qCons (qApp (q_vIx N) (qCons (qApp (q_vIx N) (qCons (qApp qFld (qCons qVar qNil)) (qCons qVar qNil))) (qCons (qApp q_vNeg (qCons qCi qNil)) qNil))) (qCons (qApp (q_vIx N) (qCons (qApp (q_vIx N) (qCons (qApp qFld (qCons qVar qNil)) (qCons qVar qNil))) (qCons qCi qNil))) qNil))) (qCons (qCs (by kernel_rfl) (by kernel_rfl)) qNil)))))))
noncomputable def bP_Voice_last_step : DS := (sRet (dApp (vApart mP_stepped) (dCons (dApp (vFld aC_Voice ⟨⟨[111, 119, 110, 95, 112, 97, 114, 116, 115]⟩⟩) (dCons (dVar 0) dNil)) (dCons (dVar 1) (dCons (dVar 3) (dCons (dApp (vEqG nN) (dCons (dApp vLenG (dCons (dApp (vIxG nN) (dCons (dApp (vFld aC_Voice ⟨⟨[111, 119, 110, 95, 115, 97, 105, 100]⟩⟩) (dCons (dVar 0) dNil)) (dCons (dVar 2) dNil))) dNil)) (dCons (dC (.int 1)) dNil))) dNil))))))
noncomputable def mP_Voice_last_step : VF := fnBody 4 4 bP_Voice_last_step
noncomputable def bL_Voice_last_step : DS := (sRetF (dApp (vApartF mL_stepped) (dConsF (dApp (vFldF aC_Voice ⟨⟨[111, 119, 110, 95, 112, 97, 114, 116, 115]⟩⟩) (dCons (dVarF 0) dNil)) (dCons (dVarF 1) (dCons (dVarF 3) (dConsF (dApp (vEqG nN) (dConsF (dApp vLenG (dConsF (dApp (fres (vIxG nN)) (dConsF (dApp (vFldF aC_Voice ⟨⟨[111, 119, 110, 95, 115, 97, 105, 100]⟩⟩) (dCons (dVarF 0) dNil)) (dCons (dVarF 2) dNil))) dNil)) (dCons (dC (.int 1)) dNil))) dNil))))))
noncomputable def mL_Voice_last_step : VF := fnBodyF 4 4 bL_Voice_last_step
theorem l_Voice_last_step : mL_Voice_last_step = mP_Voice_last_step := by
  unfold mL_Voice_last_step mP_Voice_last_step bL_Voice_last_step bP_Voice_last_step
  simp only [sSeqF_eq, sForF_eq, sAsgF_eq, sRetF_eq, dLc2F_eq, dLcF_eq, dVarF_eq, fnBodyF_eq, vApartF_eq, sFldSetF_eq, fres_eq, fmut_eq, dres_eq, dConsF_eq, vFldF_eq, dMethF_eq, vMakeF_eq, vNameOkF_eq, l_stepped]
theorem q_Voice_last_step {ν : Nat → List Nat} (N : Nam ν nN) (h_is_name : ∀ i μ, vApart m_is_name [.str ⟨⟨ν i⟩⟩] μ = .ok (.bl true) μ) : QF ν mP_Voice_last_step m_Voice_last_step := show QF ν (fnBody 4 4 bP_Voice_last_step) (fnBody 4 4 b_Voice_last_step) from qBody (show QS ν bP_Voice_last_step b_Voice_last_step from (qsRet (qApp (qApart (q_stepped N h_is_name)) (qCons (qApp qFld (qCons qVar qNil)) (qCons qVar (qCons qVar (qCons (qApp (q_vEq N) (qCons (qApp q_vLen (qCons (qApp (q_vIx N) (qCons (qApp qFld (qCons qVar qNil)) (qCons qVar qNil))) qNil)) (qCons qCi qNil))) qNil)))))))
noncomputable def bP_Voice_led : DS := (sSeq (sAsg (dMeth aC_Tongue ⟨⟨[106, 111, 105, 110, 116]⟩⟩ mP_Tongue_joint (dApp (vFld aC_Voice ⟨⟨[111, 119, 110, 95, 116, 111, 110, 103, 117, 101]⟩⟩) (dCons (dVar 0) dNil)) (dCons (dVar 2) (dCons (dVar 3) dNil))) (gSet 4)) (sSeq (sIf (dTest (dApp (vEqG nN) (dCons (dVar 4) (dCons (dC (.str ⟨⟨[100, 114, 111, 112]⟩⟩)) dNil)))) (sRet (dMeth aC_Voice ⟨⟨[108, 101, 100, 95, 105, 110]⟩⟩ mP_Voice_led_in (dVar 0) (dCons (dVar 1) (dCons (dVar 3) dNil)))) sNil) (sSeq (sAsg (dMeth aC_Voice ⟨⟨[108, 97, 115, 116, 95, 115, 116, 101, 112]⟩⟩ mP_Voice_last_step (dVar 0) (dCons (dVar 1) (dCons (dVar 2) (dCons (dIf (dTest (dApp (vEqG nN) (dCons (dVar 4) (dCons (dC (.str ⟨⟨[108, 111, 110, 103]⟩⟩)) dNil)))) (dC (.str ⟨⟨[45]⟩⟩)) (dApp (vIxG nN) (dCons (dApp (vIxG nN) (dCons (dApp (vFld aC_Voice ⟨⟨[111, 119, 110, 95, 115, 97, 105, 100]⟩⟩) (dCons (dVar 0) dNil)) (dCons (dVar 2) dNil))) (dCons (dApp vNeg (dCons (dC (.int 1)) dNil)) dNil)))) dNil)))) (gSet 5)) (sSeq (sIf (dTest (dApp (vEqG nN) (dCons (dVar 4) (dCons (dC (.str ⟨⟨[109, 97, 121]⟩⟩)) dNil)))) (sAsg (dApp vTupleG (dCons (dApp vSortSetG (dCons (dApp vLst (dStar (dVar 5) (dStar (dVar 1) dNil))) dNil)) dNil)) (gSet 5)) sNil) (sRet (dMeth aC_Voice ⟨⟨[108, 101, 100, 95, 105, 110]⟩⟩ mP_Voice_led_in (dVar 0) (dCons (dVar 5) (dCons (dVar 3) dNil))))))))
noncomputable def mP_Voice_led : VF := fnBody 4 6 bP_Voice_led
noncomputable def bL_Voice_led : DS := (sSeqF (sAsgF (dMethF aC_Tongue ⟨⟨[106, 111, 105, 110, 116]⟩⟩ mL_Tongue_joint (dApp (vFldF aC_Voice ⟨⟨[111, 119, 110, 95, 116, 111, 110, 103, 117, 101]⟩⟩) (dCons (dVarF 0) dNil)) (dCons (dVarF 2) (dCons (dVarF 3) dNil))) (gSet 4)) (sSeqF (sIf (dTest (dApp (vEqG nN) (dCons (dVarF 4) (dCons (dC (.str ⟨⟨[100, 114, 111, 112]⟩⟩)) dNil)))) (sRetF (dMethF aC_Voice ⟨⟨[108, 101, 100, 95, 105, 110]⟩⟩ mL_Voice_led_in (dVarF 0) (dCons (dVarF 1) (dCons (dVarF 3) dNil)))) sNil) (sSeqF (sAsgF (dMethF aC_Voice ⟨⟨[108, 97, 115, 116, 95, 115, 116, 101, 112]⟩⟩ mL_Voice_last_step (dVarF 0) (dCons (dVarF 1) (dCons (dVarF 2) (dConsF (dIf (dTest (dApp (vEqG nN) (dCons (dVarF 4) (dCons (dC (.str ⟨⟨[108, 111, 110, 103]⟩⟩)) dNil)))) (dC (.str ⟨⟨[45]⟩⟩)) (dApp (fres (vIxG nN)) (dConsF (dApp (fres (vIxG nN)) (dConsF (dApp (vFldF aC_Voice ⟨⟨[111, 119, 110, 95, 115, 97, 105, 100]⟩⟩) (dCons (dVarF 0) dNil)) (dCons (dVarF 2) dNil))) (dConsF (dApp vNeg (dCons (dC (.int 1)) dNil)) dNil)))) dNil)))) (gSet 5)) (sSeqF (sIf (dTest (dApp (vEqG nN) (dCons (dVarF 4) (dCons (dC (.str ⟨⟨[109, 97, 121]⟩⟩)) dNil)))) (sAsgF (dApp (fres vTupleG) (dConsF (dApp (fres vSortSetG) (dConsF (dApp (fres vLst) (dStar (dVarF 5) (dStar (dVarF 1) dNil))) dNil)) dNil)) (gSet 5)) sNil) (sRetF (dMethF aC_Voice ⟨⟨[108, 101, 100, 95, 105, 110]⟩⟩ mL_Voice_led_in (dVarF 0) (dCons (dVarF 5) (dCons (dVarF 3) dNil))))))))
noncomputable def mL_Voice_led : VF := fnBodyF 4 6 bL_Voice_led
theorem l_Voice_led : mL_Voice_led = mP_Voice_led := by
  unfold mL_Voice_led mP_Voice_led bL_Voice_led bP_Voice_led
  simp only [sSeqF_eq, sForF_eq, sAsgF_eq, sRetF_eq, dLc2F_eq, dLcF_eq, dVarF_eq, fnBodyF_eq, vApartF_eq, sFldSetF_eq, fres_eq, fmut_eq, dres_eq, dConsF_eq, vFldF_eq, dMethF_eq, vMakeF_eq, vNameOkF_eq, l_Tongue_joint, l_Voice_last_step, l_Voice_led_in]
theorem q_Voice_led {ν : Nat → List Nat} (N : Nam ν nN) (h_is_name : ∀ i μ, vApart m_is_name [.str ⟨⟨ν i⟩⟩] μ = .ok (.bl true) μ) : QF ν mP_Voice_led m_Voice_led := show QF ν (fnBody 4 6 bP_Voice_led) (fnBody 4 6 b_Voice_led) from qBody (show QS ν bP_Voice_led b_Voice_led from (qsSeq (qsAsg (qMeth (q_Tongue_joint N h_is_name) (qApp qFld (qCons qVar qNil)) (qCons qVar (qCons qVar qNil))) qgSet) (qsSeq (qsIf (qTest (qApp (q_vEq N) (qCons qVar (qCons (qCs (by kernel_rfl) (by kernel_rfl)) qNil)))) (qsRet (qMeth (q_Voice_led_in N h_is_name) qVar (qCons qVar (qCons qVar qNil)))) qsNil) (qsSeq (qsAsg (qMeth (q_Voice_last_step N h_is_name) qVar (qCons qVar (qCons qVar (qCons (qIf (qTest (qApp (q_vEq N) (qCons qVar (qCons (qCs (by kernel_rfl) (by kernel_rfl)) qNil)))) (qCs (by kernel_rfl) (by kernel_rfl)) (qApp (q_vIx N) (qCons (qApp (q_vIx N) (qCons (qApp qFld (qCons qVar qNil)) (qCons qVar qNil))) (qCons (qApp q_vNeg (qCons qCi qNil)) qNil)))) qNil)))) qgSet) (qsSeq (qsIf (qTest (qApp (q_vEq N) (qCons qVar (qCons (qCs (by kernel_rfl) (by kernel_rfl)) qNil)))) (qsAsg (qApp q_vTuple (qCons (qApp q_vSortSet (qCons (qApp q_vLst (qStar qVar (qStar qVar qNil))) qNil)) qNil)) qgSet) qsNil) (qsRet (qMeth (q_Voice_led_in N h_is_name) qVar (qCons qVar (qCons qVar qNil)))))))))
noncomputable def bP_Voice_standing : DS := (sSeq (sAsg (dMeth aC_Voice ⟨⟨[102, 105, 114, 115, 116]⟩⟩ mP_Voice_first (dVar 0) (dCons (dApp (vIxG nN) (dCons (dVar 1) (dCons (dC (.int 0)) dNil))) dNil)) (gSet 2)) (sSeq (sFor (dZipG (dVar 1) (dCutG (dVar 1) (dPart (dC (.int 1))) dNoPart)) (gTupA 2 (gCons' (gSet 3) (gCons' (gSet 4) gNil'))) (sAsg (dMeth aC_Voice ⟨⟨[108, 101, 100]⟩⟩ mP_Voice_led (dVar 0) (dCons (dVar 2) (dCons (dVar 3) (dCons (dVar 4) dNil)))) (gSet 2))) (sRet (dVar 2))))
noncomputable def mP_Voice_standing : VF := fnBody 2 5 bP_Voice_standing
noncomputable def bL_Voice_standing : DS := (sSeqF (sAsgF (dMethF aC_Voice ⟨⟨[102, 105, 114, 115, 116]⟩⟩ mL_Voice_first (dVarF 0) (dConsF (dApp (fres (vIxG nN)) (dCons (dVarF 1) (dCons (dC (.int 0)) dNil))) dNil)) (gSet 2)) (sSeqF (sForF (dZipG (dVarF 1) (dres (dCutG (dVarF 1) (dPart (dC (.int 1))) dNoPart))) (gTupA 2 (gCons' (gSet 3) (gCons' (gSet 4) gNil'))) (sAsgF (dMethF aC_Voice ⟨⟨[108, 101, 100]⟩⟩ mL_Voice_led (dVarF 0) (dCons (dVarF 2) (dCons (dVarF 3) (dCons (dVarF 4) dNil)))) (gSet 2))) (sRetF (dVarF 2))))
noncomputable def mL_Voice_standing : VF := fnBodyF 2 5 bL_Voice_standing
theorem l_Voice_standing : mL_Voice_standing = mP_Voice_standing := by
  unfold mL_Voice_standing mP_Voice_standing bL_Voice_standing bP_Voice_standing
  simp only [sSeqF_eq, sForF_eq, sAsgF_eq, sRetF_eq, dLc2F_eq, dLcF_eq, dVarF_eq, fnBodyF_eq, vApartF_eq, sFldSetF_eq, fres_eq, fmut_eq, dres_eq, dConsF_eq, vFldF_eq, dMethF_eq, vMakeF_eq, vNameOkF_eq, l_Voice_first, l_Voice_led]
theorem q_Voice_standing {ν : Nat → List Nat} (N : Nam ν nN) (h_is_name : ∀ i μ, vApart m_is_name [.str ⟨⟨ν i⟩⟩] μ = .ok (.bl true) μ) : QF ν mP_Voice_standing m_Voice_standing := show QF ν (fnBody 2 5 bP_Voice_standing) (fnBody 2 5 b_Voice_standing) from qBody (show QS ν bP_Voice_standing b_Voice_standing from (qsSeq (qsAsg (qMeth (q_Voice_first N h_is_name) qVar (qCons (qApp (q_vIx N) (qCons qVar (qCons qCi qNil))) qNil)) qgSet) (qsSeq (qsFor (qZip qVar (qCut qVar (qPart qCi) qNoPart)) (qgTup (qgCons qgSet (qgCons qgSet qgNil))) (qsAsg (qMeth (q_Voice_led N h_is_name) qVar (qCons qVar (qCons qVar (qCons qVar qNil)))) qgSet)) (qsRet qVar))))
noncomputable def bP_Tongue_unknown : DS := (sRet (dApp (vFld aC_Tongue ⟨⟨[111, 119, 110, 95, 117, 110, 107, 110, 111, 119, 110]⟩⟩) (dCons (dVar 0) dNil)))
noncomputable def mP_Tongue_unknown : VF := fnBody 1 1 bP_Tongue_unknown
noncomputable def bL_Tongue_unknown : DS := (sRetF (dApp (vFldF aC_Tongue ⟨⟨[111, 119, 110, 95, 117, 110, 107, 110, 111, 119, 110]⟩⟩) (dCons (dVarF 0) dNil)))
noncomputable def mL_Tongue_unknown : VF := fnBodyF 1 1 bL_Tongue_unknown
theorem l_Tongue_unknown : mL_Tongue_unknown = mP_Tongue_unknown := by
  unfold mL_Tongue_unknown mP_Tongue_unknown bL_Tongue_unknown bP_Tongue_unknown
  simp only [sSeqF_eq, sForF_eq, sAsgF_eq, sRetF_eq, dLc2F_eq, dLcF_eq, dVarF_eq, fnBodyF_eq, vApartF_eq, sFldSetF_eq, fres_eq, fmut_eq, dres_eq, dConsF_eq, vFldF_eq, dMethF_eq, vMakeF_eq, vNameOkF_eq]
theorem q_Tongue_unknown {ν : Nat → List Nat} (N : Nam ν nN) (h_is_name : ∀ i μ, vApart m_is_name [.str ⟨⟨ν i⟩⟩] μ = .ok (.bl true) μ) : QF ν mP_Tongue_unknown m_Tongue_unknown := show QF ν (fnBody 1 1 bP_Tongue_unknown) (fnBody 1 1 b_Tongue_unknown) from qBody (show QS ν bP_Tongue_unknown b_Tongue_unknown from (qsRet (qApp qFld (qCons qVar qNil))))
noncomputable def bP_is_measure : DS := (sSeq (sIf (dOr (dNot (dTruG (dApp (vIsi (isiB .str [])) (dCons (dVar 1) dNil)))) (dTest (dApp (vNeG nN) (dCons (dApp vLenG (dCons (dVar 1) dNil)) (dCons (dApp vLenG (dCons (dApp (vProp aC_Tongue mP_Tongue_unknown) (dCons (dVar 0) dNil)) dNil)) dNil))))) (sRet (dC (.bl false))) sNil) (sRet (dOrVG (dApp (vEqG nN) (dCons (dVar 1) (dCons (dC (.str ⟨⟨[]⟩⟩)) dNil))) (dApp (vApart mP_is_made_of) (dCons (dVar 1) (dCons (dApp vTup (dCons (dC (.str ⟨⟨[45]⟩⟩)) (dCons (dC (.str ⟨⟨[117]⟩⟩)) dNil))) dNil))))))
noncomputable def mP_is_measure : VF := fnBody 2 2 bP_is_measure
noncomputable def bL_is_measure : DS := (sSeqF (sIf (dOr (dNot (dTruG (dApp (vIsi (isiB .str [])) (dCons (dVarF 1) dNil)))) (dTest (dApp (vNeG nN) (dConsF (dApp vLenG (dCons (dVarF 1) dNil)) (dConsF (dApp vLenG (dConsF (dApp (vProp aC_Tongue mL_Tongue_unknown) (dCons (dVarF 0) dNil)) dNil)) dNil))))) (sRetF (dC (.bl false))) sNil) (sRetF (dOrVG (dApp (vEqG nN) (dCons (dVarF 1) (dCons (dC (.str ⟨⟨[]⟩⟩)) dNil))) (dApp (vApartF mL_is_made_of) (dCons (dVarF 1) (dConsF (dApp vTup (dCons (dC (.str ⟨⟨[45]⟩⟩)) (dCons (dC (.str ⟨⟨[117]⟩⟩)) dNil))) dNil))))))
noncomputable def mL_is_measure : VF := fnBodyF 2 2 bL_is_measure
theorem l_is_measure : mL_is_measure = mP_is_measure := by
  unfold mL_is_measure mP_is_measure bL_is_measure bP_is_measure
  simp only [sSeqF_eq, sForF_eq, sAsgF_eq, sRetF_eq, dLc2F_eq, dLcF_eq, dVarF_eq, fnBodyF_eq, vApartF_eq, sFldSetF_eq, fres_eq, fmut_eq, dres_eq, dConsF_eq, vFldF_eq, dMethF_eq, vMakeF_eq, vNameOkF_eq, l_Tongue_unknown, l_is_made_of]
theorem q_is_measure {ν : Nat → List Nat} (N : Nam ν nN) (h_is_name : ∀ i μ, vApart m_is_name [.str ⟨⟨ν i⟩⟩] μ = .ok (.bl true) μ) : QF ν mP_is_measure m_is_measure := show QF ν (fnBody 2 2 bP_is_measure) (fnBody 2 2 b_is_measure) from qBody (show QS ν bP_is_measure b_is_measure from (qsSeq (qsIf (qOr (qNot (qTru (qApp q_vIsi (qCons qVar qNil)))) (qTest (qApp (q_vNe N) (qCons (qApp q_vLen (qCons qVar qNil)) (qCons (qApp q_vLen (qCons (qApp (qProp (q_Tongue_unknown N h_is_name)) (qCons qVar qNil)) qNil)) qNil))))) (qsRet qCb) qsNil) (qsRet (qOrV (qApp (q_vEq N) (qCons qVar (qCons (qCs (by kernel_rfl) (by kernel_rfl)) qNil))) (qApp (qApart (q_is_made_of N h_is_name)) (qCons qVar (qCons (qApp q_vTup (qCons (qCs (by kernel_rfl) (by kernel_rfl)) (qCons (qCs (by kernel_rfl) (by kernel_rfl)) qNil))) qNil)))))))
noncomputable def bP_check_measure : DS := (sIf (dNot (dTruG (dApp mP_is_measure (dCons (dVar 0) (dCons (dVar 1) dNil))))) sBad sNil)
noncomputable def mP_check_measure : VF := fnBody 2 2 bP_check_measure
noncomputable def bL_check_measure : DS := (sIf (dNot (dTruG (dApp mL_is_measure (dCons (dVarF 0) (dCons (dVarF 1) dNil))))) sBad sNil)
noncomputable def mL_check_measure : VF := fnBodyF 2 2 bL_check_measure
theorem l_check_measure : mL_check_measure = mP_check_measure := by
  unfold mL_check_measure mP_check_measure bL_check_measure bP_check_measure
  simp only [sSeqF_eq, sForF_eq, sAsgF_eq, sRetF_eq, dLc2F_eq, dLcF_eq, dVarF_eq, fnBodyF_eq, vApartF_eq, sFldSetF_eq, fres_eq, fmut_eq, dres_eq, dConsF_eq, vFldF_eq, dMethF_eq, vMakeF_eq, vNameOkF_eq, l_is_measure]
theorem q_check_measure {ν : Nat → List Nat} (N : Nam ν nN) (h_is_name : ∀ i μ, vApart m_is_name [.str ⟨⟨ν i⟩⟩] μ = .ok (.bl true) μ) : QF ν mP_check_measure m_check_measure := show QF ν (fnBody 2 2 bP_check_measure) (fnBody 2 2 b_check_measure) from qBody (show QS ν bP_check_measure b_check_measure from (qsIf (qNot (qTru (qApp (q_is_measure N h_is_name) (qCons qVar (qCons qVar qNil))))) qsBad qsNil))
noncomputable def bP_TongueD_containsD : DS := (sRet (dApp mP_is_word (dCons (dVar 1) (dCons (dApp (vFld aC_Tongue ⟨⟨[111, 119, 110, 95, 119, 111, 114, 100, 115]⟩⟩) (dCons (dVar 0) dNil)) dNil))))
noncomputable def mP_TongueD_containsD : VF := fnBody 2 2 bP_TongueD_containsD
noncomputable def bL_TongueD_containsD : DS := (sRetF (dApp mL_is_word (dCons (dVarF 1) (dConsF (dApp (vFldF aC_Tongue ⟨⟨[111, 119, 110, 95, 119, 111, 114, 100, 115]⟩⟩) (dCons (dVarF 0) dNil)) dNil))))
noncomputable def mL_TongueD_containsD : VF := fnBodyF 2 2 bL_TongueD_containsD
theorem l_TongueD_containsD : mL_TongueD_containsD = mP_TongueD_containsD := by
  unfold mL_TongueD_containsD mP_TongueD_containsD bL_TongueD_containsD bP_TongueD_containsD
  simp only [sSeqF_eq, sForF_eq, sAsgF_eq, sRetF_eq, dLc2F_eq, dLcF_eq, dVarF_eq, fnBodyF_eq, vApartF_eq, sFldSetF_eq, fres_eq, fmut_eq, dres_eq, dConsF_eq, vFldF_eq, dMethF_eq, vMakeF_eq, vNameOkF_eq, l_is_word]
theorem q_TongueD_containsD {ν : Nat → List Nat} (N : Nam ν nN) (h_is_name : ∀ i μ, vApart m_is_name [.str ⟨⟨ν i⟩⟩] μ = .ok (.bl true) μ) : QF ν mP_TongueD_containsD m_TongueD_containsD := show QF ν (fnBody 2 2 bP_TongueD_containsD) (fnBody 2 2 b_TongueD_containsD) from qBody (show QS ν bP_TongueD_containsD b_TongueD_containsD from (qsRet (qApp (q_is_word N h_is_name) (qCons qVar (qCons (qApp qFld (qCons qVar qNil)) qNil)))))
noncomputable def bP_is_row : DS := (sRet (dAndVG (dApp (vIsi (isiB .tup [])) (dCons (dVar 1) dNil)) (dAndVG (dChain vLe vLe (dC (.int 1)) (dApp vLenG (dCons (dVar 1) dNil)) (dC (.int 2000))) (dApp vAll (dCons (dLc (dItAG (dVar 1)) (gSet 2) tYes' (dApp (vInO aC_Tongue mP_TongueD_containsD) (dCons (dVar 2) (dCons (dVar 0) dNil))) [2]) dNil)))))
noncomputable def mP_is_row : VF := fnBody 2 3 bP_is_row
noncomputable def bL_is_row : DS := (sRetF (dAndVG (dApp (vIsi (isiB .tup [])) (dCons (dVarF 1) dNil)) (dAndVG (dChain vLe vLe (dC (.int 1)) (dApp vLenG (dCons (dVarF 1) dNil)) (dC (.int 2000))) (dApp vAll (dConsF (dLcF (dItAG (dVarF 1)) (gSet 2) tYes' (dApp (vInO aC_Tongue mL_TongueD_containsD) (dCons (dVarF 2) (dCons (dVarF 0) dNil))) [2]) dNil)))))
noncomputable def mL_is_row : VF := fnBodyF 2 3 bL_is_row
theorem l_is_row : mL_is_row = mP_is_row := by
  unfold mL_is_row mP_is_row bL_is_row bP_is_row
  simp only [sSeqF_eq, sForF_eq, sAsgF_eq, sRetF_eq, dLc2F_eq, dLcF_eq, dVarF_eq, fnBodyF_eq, vApartF_eq, sFldSetF_eq, fres_eq, fmut_eq, dres_eq, dConsF_eq, vFldF_eq, dMethF_eq, vMakeF_eq, vNameOkF_eq, l_TongueD_containsD]
theorem q_is_row {ν : Nat → List Nat} (N : Nam ν nN) (h_is_name : ∀ i μ, vApart m_is_name [.str ⟨⟨ν i⟩⟩] μ = .ok (.bl true) μ) : QF ν mP_is_row m_is_row := show QF ν (fnBody 2 3 bP_is_row) (fnBody 2 3 b_is_row) from qBody (show QS ν bP_is_row b_is_row from (qsRet (qAndV (qApp q_vIsi (qCons qVar qNil)) (qAndV (qChain q_vLe q_vLe qCi (qApp q_vLen (qCons qVar qNil)) qCi) (qApp q_vAll (qCons (qLc (qItA qVar) qgSet qYes (qApp (qInO (q_TongueD_containsD N h_is_name)) (qCons qVar (qCons qVar qNil)))) qNil))))))
noncomputable def bP_check_row : DS := (sIf (dNot (dTruG (dApp mP_is_row (dCons (dVar 0) (dCons (dVar 1) dNil))))) sBad sNil)
noncomputable def mP_check_row : VF := fnBody 2 2 bP_check_row
noncomputable def bL_check_row : DS := (sIf (dNot (dTruG (dApp mL_is_row (dCons (dVarF 0) (dCons (dVarF 1) dNil))))) sBad sNil)
noncomputable def mL_check_row : VF := fnBodyF 2 2 bL_check_row
theorem l_check_row : mL_check_row = mP_check_row := by
  unfold mL_check_row mP_check_row bL_check_row bP_check_row
  simp only [sSeqF_eq, sForF_eq, sAsgF_eq, sRetF_eq, dLc2F_eq, dLcF_eq, dVarF_eq, fnBodyF_eq, vApartF_eq, sFldSetF_eq, fres_eq, fmut_eq, dres_eq, dConsF_eq, vFldF_eq, dMethF_eq, vMakeF_eq, vNameOkF_eq, l_is_row]
theorem q_check_row {ν : Nat → List Nat} (N : Nam ν nN) (h_is_name : ∀ i μ, vApart m_is_name [.str ⟨⟨ν i⟩⟩] μ = .ok (.bl true) μ) : QF ν mP_check_row m_check_row := show QF ν (fnBody 2 2 bP_check_row) (fnBody 2 2 b_check_row) from qBody (show QS ν bP_check_row b_check_row from (qsIf (qNot (qTru (qApp (q_is_row N h_is_name) (qCons qVar (qCons qVar qNil))))) qsBad qsNil))
noncomputable def bP_standing : DS := (sSeq (sExpr (dApp mP_check_measure (dCons (dVar 0) (dCons (dVar 1) dNil)))) (sSeq (sExpr (dMeth aC_Tongue ⟨⟨[112, 97, 114, 116, 115]⟩⟩ mP_Tongue_parts (dVar 0) (dCons (dVar 2) dNil))) (sSeq (sExpr (dApp mP_check_row (dCons (dVar 0) (dCons (dVar 3) dNil)))) (sRet (dMeth aC_Voice ⟨⟨[115, 116, 97, 110, 100, 105, 110, 103]⟩⟩ mP_Voice_standing (dApp (vMake aC_Voice mP_VoiceD_initD) (dCons (dVar 0) (dCons (dVar 1) (dCons (dVar 2) dNil)))) (dCons (dVar 3) dNil))))))
noncomputable def mP_standing : VF := fnBody 4 4 bP_standing
noncomputable def bL_standing : DS := (sSeqF (sExpr (dApp mL_check_measure (dCons (dVarF 0) (dCons (dVarF 1) dNil)))) (sSeqF (sExpr (dMethF aC_Tongue ⟨⟨[112, 97, 114, 116, 115]⟩⟩ mL_Tongue_parts (dVarF 0) (dCons (dVarF 2) dNil))) (sSeqF (sExpr (dApp mL_check_row (dCons (dVarF 0) (dCons (dVarF 3) dNil)))) (sRetF (dMethF aC_Voice ⟨⟨[115, 116, 97, 110, 100, 105, 110, 103]⟩⟩ mL_Voice_standing (dApp (vMakeF aC_Voice mL_VoiceD_initD) (dCons (dVarF 0) (dCons (dVarF 1) (dCons (dVarF 2) dNil)))) (dCons (dVarF 3) dNil))))))
noncomputable def mL_standing : VF := fnBodyF 4 4 bL_standing
theorem l_standing : mL_standing = mP_standing := by
  unfold mL_standing mP_standing bL_standing bP_standing
  simp only [sSeqF_eq, sForF_eq, sAsgF_eq, sRetF_eq, dLc2F_eq, dLcF_eq, dVarF_eq, fnBodyF_eq, vApartF_eq, sFldSetF_eq, fres_eq, fmut_eq, dres_eq, dConsF_eq, vFldF_eq, dMethF_eq, vMakeF_eq, vNameOkF_eq, l_Tongue_parts, l_VoiceD_initD, l_Voice_standing, l_check_measure, l_check_row]
theorem q_standing {ν : Nat → List Nat} (N : Nam ν nN) (h_is_name : ∀ i μ, vApart m_is_name [.str ⟨⟨ν i⟩⟩] μ = .ok (.bl true) μ) : QF ν mP_standing m_standing := show QF ν (fnBody 4 4 bP_standing) (fnBody 4 4 b_standing) from qBody (show QS ν bP_standing b_standing from (qsSeq (qsExpr (qApp (q_check_measure N h_is_name) (qCons qVar (qCons qVar qNil)))) (qsSeq (qsExpr (qMeth (q_Tongue_parts N h_is_name) qVar (qCons qVar qNil))) (qsSeq (qsExpr (qApp (q_check_row N h_is_name) (qCons qVar (qCons qVar qNil)))) (qsRet (qMeth (q_Voice_standing N h_is_name) (qApp (qMake (q_VoiceD_initD N h_is_name)) (qCons qVar (qCons qVar (qCons qVar qNil)))) (qCons qVar qNil)))))))
noncomputable def bP__law_right : DS := (sSeq (sAsg (dApp vAddG (dCons (dApp vAddG (dCons (dApp vAddG (dCons (dApp vAddG (dCons (dC (.str ⟨⟨[119, 111, 114, 100, 32]⟩⟩)) (dCons (dVar 0) dNil))) (dCons (dC (.str ⟨⟨[32, 97, 32, 117, 32, 97, 10, 119, 111, 114, 100, 32]⟩⟩)) dNil))) (dCons (dVar 1) dNil))) (dCons (dC (.str ⟨⟨[32, 98, 32, 45, 117, 63, 32, 98, 10, 106, 111, 105, 110, 116, 32, 97, 32, 98, 32, 109, 97, 121]⟩⟩)) dNil))) (gSet 2)) (sSeq (sAsg (dApp vAddG (dCons (dVar 2) (dCons (dC (.str ⟨⟨[10, 109, 101, 116, 114, 101, 32, 109, 32, 42, 45, 117, 47, 117, 32, 45, 32, 120, 10, 109, 101, 116, 114, 101, 32, 110, 32, 45, 117, 32, 124, 32, 33, 32, 117, 117]⟩⟩)) dNil))) (gSet 2)) (sSeq (sAsg (dApp (vMake aC_Tongue mP_TongueD_initD) (dCons (dVar 2) dNil)) (gSet 3)) (sSeq (sAsg (dApp vLst (dCons (dApp vTup (dCons (dC (.str ⟨⟨[45]⟩⟩)) (dCons (dC (.str ⟨⟨[109]⟩⟩)) (dCons (dApp vTup (dCons (dVar 0) dNil)) (dCons (dApp vTup (dCons (dApp vTup (dCons (dC (.int 0)) (dCons (dC (.str ⟨⟨[]⟩⟩)) dNil))) dNil)) dNil))))) (dCons (dApp vTup (dCons (dC (.str ⟨⟨[45]⟩⟩)) (dCons (dC (.str ⟨⟨[110]⟩⟩)) (dCons (dApp vTup (dCons (dVar 1) dNil)) (dCons (dApp vTup (dCons (dApp vTup (dCons (dC (.int 1)) (dCons (dC (.str ⟨⟨[]⟩⟩)) dNil))) dNil)) dNil))))) (dCons (dApp vTup (dCons (dC (.str ⟨⟨[45]⟩⟩)) (dCons (dC (.str ⟨⟨[110]⟩⟩)) (dCons (dApp vTup (dCons (dVar 1) (dCons (dVar 1) dNil))) (dCons (dApp vTup dNil) dNil))))) dNil)))) (gSet 4)) (sSeq (sExpr (dM isLstP vAppend (dVar 4) (dCons (dApp vTup (dCons (dC (.str ⟨⟨[45]⟩⟩)) (dCons (dC (.str ⟨⟨[109]⟩⟩)) (dCons (dApp vTup (dCons (dVar 1) dNil)) (dCons (dApp vTup (dCons (dApp vTup (dCons (dC (.int 0)) (dCons (dC (.str ⟨⟨[]⟩⟩)) dNil))) (dCons (dApp vTup (dCons (dC (.int 3)) (dCons (dC (.str ⟨⟨[]⟩⟩)) dNil))) dNil))) dNil))))) dNil))) (sSeq (sExpr (dM isLstP vAppend (dVar 4) (dCons (dApp vTup (dCons (dC (.str ⟨⟨[117]⟩⟩)) (dCons (dC (.str ⟨⟨[109]⟩⟩)) (dCons (dApp vTup (dCons (dVar 0) (dCons (dVar 1) dNil))) (dCons (dApp vTup (dCons (dApp vTup (dCons (dC (.int 0)) (dCons (dC (.str ⟨⟨[]⟩⟩)) dNil))) (dCons (dApp vTup (dCons (dC (.int 3)) (dCons (dC (.str ⟨⟨[]⟩⟩)) dNil))) dNil))) dNil))))) dNil))) (sSeq (sExpr (dM isLstP vAppend (dVar 4) (dCons (dApp vTup (dCons (dC (.str ⟨⟨[45]⟩⟩)) (dCons (dC (.str ⟨⟨[109]⟩⟩)) (dCons (dApp vTup (dCons (dVar 1) (dCons (dVar 0) dNil))) (dCons (dApp vTup (dCons (dApp vTup (dCons (dC (.int 0)) (dCons (dC (.str ⟨⟨[117]⟩⟩)) dNil))) (dCons (dApp vTup (dCons (dC (.int 2)) (dCons (dC (.str ⟨⟨[]⟩⟩)) dNil))) dNil))) dNil))))) dNil))) (sSeq (sExpr (dM isLstP vAppend (dVar 4) (dCons (dApp vTup (dCons (dC (.str ⟨⟨[117]⟩⟩)) (dCons (dC (.str ⟨⟨[109]⟩⟩)) (dCons (dApp vTup (dCons (dVar 1) (dCons (dVar 0) dNil))) (dCons (dApp vTup (dCons (dApp vTup (dCons (dC (.int 0)) (dCons (dC (.str ⟨⟨[]⟩⟩)) dNil))) dNil)) dNil))))) dNil))) (sSeq (sExpr (dM isLstP vAppend (dVar 4) (dCons (dApp vTup (dCons (dC (.str ⟨⟨[45]⟩⟩)) (dCons (dC (.str ⟨⟨[109]⟩⟩)) (dCons (dApp vTup (dCons (dVar 0) (dCons (dVar 0) dNil))) (dCons (dApp vTup (dCons (dApp vTup (dCons (dC (.int 0)) (dCons (dC (.str ⟨⟨[]⟩⟩)) dNil))) dNil)) dNil))))) dNil))) (sSeq (sExpr (dM isLstP vAppend (dVar 4) (dCons (dApp vTup (dCons (dC (.str ⟨⟨[117]⟩⟩)) (dCons (dC (.str ⟨⟨[110]⟩⟩)) (dCons (dApp vTup (dCons (dVar 0) dNil)) (dCons (dApp vTup (dCons (dApp vTup (dCons (dC (.int 0)) (dCons (dC (.str ⟨⟨[]⟩⟩)) dNil))) dNil)) dNil))))) dNil))) (sSeq (sExpr (dM isLstP vAppend (dVar 4) (dCons (dApp vTup (dCons (dC (.str ⟨⟨[117]⟩⟩)) (dCons (dC (.str ⟨⟨[110]⟩⟩)) (dCons (dApp vTup (dCons (dVar 0) (dCons (dVar 0) dNil))) (dCons (dApp vTup dNil) dNil))))) dNil))) (sRet (dApp vAll (dCons (dLc (dItAG (dVar 4)) (gTupA 4 (gCons' (gSet 5) (gCons' (gSet 6) (gCons' (gSet 7) (gCons' (gSet 8) gNil'))))) tYes' (dApp (vEqG nN) (dCons (dApp vReprG (dCons (dApp mP_standing (dCons (dVar 3) (dCons (dVar 5) (dCons (dVar 6) (dCons (dVar 7) dNil))))) dNil)) (dCons (dApp vReprG (dCons (dVar 8) dNil)) dNil))) [5, 6, 7, 8]) dNil))))))))))))))
noncomputable def mP__law_right : VF := fnBody 2 9 bP__law_right
noncomputable def bL__law_right : DS := (sSeqF (sAsgF (dApp (fres vAddG) (dConsF (dApp (fres vAddG) (dConsF (dApp (fres vAddG) (dConsF (dApp (fres vAddG) (dCons (dC (.str ⟨⟨[119, 111, 114, 100, 32]⟩⟩)) (dCons (dVarF 0) dNil))) (dCons (dC (.str ⟨⟨[32, 97, 32, 117, 32, 97, 10, 119, 111, 114, 100, 32]⟩⟩)) dNil))) (dCons (dVarF 1) dNil))) (dCons (dC (.str ⟨⟨[32, 98, 32, 45, 117, 63, 32, 98, 10, 106, 111, 105, 110, 116, 32, 97, 32, 98, 32, 109, 97, 121]⟩⟩)) dNil))) (gSet 2)) (sSeqF (sAsgF (dApp (fres vAddG) (dCons (dVarF 2) (dCons (dC (.str ⟨⟨[10, 109, 101, 116, 114, 101, 32, 109, 32, 42, 45, 117, 47, 117, 32, 45, 32, 120, 10, 109, 101, 116, 114, 101, 32, 110, 32, 45, 117, 32, 124, 32, 33, 32, 117, 117]⟩⟩)) dNil))) (gSet 2)) (sSeqF (sAsgF (dApp (vMakeF aC_Tongue mL_TongueD_initD) (dCons (dVarF 2) dNil)) (gSet 3)) (sSeqF (sAsgF (dApp (fres vLst) (dConsF (dApp vTup (dCons (dC (.str ⟨⟨[45]⟩⟩)) (dCons (dC (.str ⟨⟨[109]⟩⟩)) (dConsF (dApp vTup (dCons (dVarF 0) dNil)) (dConsF (dApp vTup (dConsF (dApp vTup (dCons (dC (.int 0)) (dCons (dC (.str ⟨⟨[]⟩⟩)) dNil))) dNil)) dNil))))) (dConsF (dApp vTup (dCons (dC (.str ⟨⟨[45]⟩⟩)) (dCons (dC (.str ⟨⟨[110]⟩⟩)) (dConsF (dApp vTup (dCons (dVarF 1) dNil)) (dConsF (dApp vTup (dConsF (dApp vTup (dCons (dC (.int 1)) (dCons (dC (.str ⟨⟨[]⟩⟩)) dNil))) dNil)) dNil))))) (dConsF (dApp vTup (dCons (dC (.str ⟨⟨[45]⟩⟩)) (dCons (dC (.str ⟨⟨[110]⟩⟩)) (dConsF (dApp vTup (dCons (dVarF 1) (dCons (dVarF 1) dNil))) (dConsF (dApp vTup dNil) dNil))))) dNil)))) (gSet 4)) (sSeqF (sExpr (dM isLstP (fmut vAppend) (dVarF 4) (dConsF (dApp vTup (dCons (dC (.str ⟨⟨[45]⟩⟩)) (dCons (dC (.str ⟨⟨[109]⟩⟩)) (dConsF (dApp vTup (dCons (dVarF 1) dNil)) (dConsF (dApp vTup (dConsF (dApp vTup (dCons (dC (.int 0)) (dCons (dC (.str ⟨⟨[]⟩⟩)) dNil))) (dConsF (dApp vTup (dCons (dC (.int 3)) (dCons (dC (.str ⟨⟨[]⟩⟩)) dNil))) dNil))) dNil))))) dNil))) (sSeqF (sExpr (dM isLstP (fmut vAppend) (dVarF 4) (dConsF (dApp vTup (dCons (dC (.str ⟨⟨[117]⟩⟩)) (dCons (dC (.str ⟨⟨[109]⟩⟩)) (dConsF (dApp vTup (dCons (dVarF 0) (dCons (dVarF 1) dNil))) (dConsF (dApp vTup (dConsF (dApp vTup (dCons (dC (.int 0)) (dCons (dC (.str ⟨⟨[]⟩⟩)) dNil))) (dConsF (dApp vTup (dCons (dC (.int 3)) (dCons (dC (.str ⟨⟨[]⟩⟩)) dNil))) dNil))) dNil))))) dNil))) (sSeqF (sExpr (dM isLstP (fmut vAppend) (dVarF 4) (dConsF (dApp vTup (dCons (dC (.str ⟨⟨[45]⟩⟩)) (dCons (dC (.str ⟨⟨[109]⟩⟩)) (dConsF (dApp vTup (dCons (dVarF 1) (dCons (dVarF 0) dNil))) (dConsF (dApp vTup (dConsF (dApp vTup (dCons (dC (.int 0)) (dCons (dC (.str ⟨⟨[117]⟩⟩)) dNil))) (dConsF (dApp vTup (dCons (dC (.int 2)) (dCons (dC (.str ⟨⟨[]⟩⟩)) dNil))) dNil))) dNil))))) dNil))) (sSeqF (sExpr (dM isLstP (fmut vAppend) (dVarF 4) (dConsF (dApp vTup (dCons (dC (.str ⟨⟨[117]⟩⟩)) (dCons (dC (.str ⟨⟨[109]⟩⟩)) (dConsF (dApp vTup (dCons (dVarF 1) (dCons (dVarF 0) dNil))) (dConsF (dApp vTup (dConsF (dApp vTup (dCons (dC (.int 0)) (dCons (dC (.str ⟨⟨[]⟩⟩)) dNil))) dNil)) dNil))))) dNil))) (sSeqF (sExpr (dM isLstP (fmut vAppend) (dVarF 4) (dConsF (dApp vTup (dCons (dC (.str ⟨⟨[45]⟩⟩)) (dCons (dC (.str ⟨⟨[109]⟩⟩)) (dConsF (dApp vTup (dCons (dVarF 0) (dCons (dVarF 0) dNil))) (dConsF (dApp vTup (dConsF (dApp vTup (dCons (dC (.int 0)) (dCons (dC (.str ⟨⟨[]⟩⟩)) dNil))) dNil)) dNil))))) dNil))) (sSeqF (sExpr (dM isLstP (fmut vAppend) (dVarF 4) (dConsF (dApp vTup (dCons (dC (.str ⟨⟨[117]⟩⟩)) (dCons (dC (.str ⟨⟨[110]⟩⟩)) (dConsF (dApp vTup (dCons (dVarF 0) dNil)) (dConsF (dApp vTup (dConsF (dApp vTup (dCons (dC (.int 0)) (dCons (dC (.str ⟨⟨[]⟩⟩)) dNil))) dNil)) dNil))))) dNil))) (sSeqF (sExpr (dM isLstP (fmut vAppend) (dVarF 4) (dConsF (dApp vTup (dCons (dC (.str ⟨⟨[117]⟩⟩)) (dCons (dC (.str ⟨⟨[110]⟩⟩)) (dConsF (dApp vTup (dCons (dVarF 0) (dCons (dVarF 0) dNil))) (dConsF (dApp vTup dNil) dNil))))) dNil))) (sRetF (dApp vAll (dConsF (dLcF (dItAG (dVarF 4)) (gTupA 4 (gCons' (gSet 5) (gCons' (gSet 6) (gCons' (gSet 7) (gCons' (gSet 8) gNil'))))) tYes' (dApp (vEqG nN) (dConsF (dApp vReprG (dConsF (dApp mL_standing (dCons (dVarF 3) (dCons (dVarF 5) (dCons (dVarF 6) (dCons (dVarF 7) dNil))))) dNil)) (dConsF (dApp vReprG (dCons (dVarF 8) dNil)) dNil))) [5, 6, 7, 8]) dNil))))))))))))))
noncomputable def mL__law_right : VF := fnBodyF 2 9 bL__law_right
theorem l__law_right : mL__law_right = mP__law_right := by
  unfold mL__law_right mP__law_right bL__law_right bP__law_right
  simp only [sSeqF_eq, sForF_eq, sAsgF_eq, sRetF_eq, dLc2F_eq, dLcF_eq, dVarF_eq, fnBodyF_eq, vApartF_eq, sFldSetF_eq, fres_eq, fmut_eq, dres_eq, dConsF_eq, vFldF_eq, dMethF_eq, vMakeF_eq, vNameOkF_eq, l_TongueD_initD, l_standing]
theorem q__law_right {ν : Nat → List Nat} (N : Nam ν nN) (h_is_name : ∀ i μ, vApart m_is_name [.str ⟨⟨ν i⟩⟩] μ = .ok (.bl true) μ) : QF ν mP__law_right m__law_right := show QF ν (fnBody 2 9 bP__law_right) (fnBody 2 9 b__law_right) from qBody (show QS ν bP__law_right b__law_right from (qsSeq (qsAsg (qApp (q_vAdd N) (qCons (qApp (q_vAdd N) (qCons (qApp (q_vAdd N) (qCons (qApp (q_vAdd N) (qCons (qCs (by kernel_rfl) (by kernel_rfl)) (qCons qVar qNil))) (qCons (qCs (by kernel_rfl) (by kernel_rfl)) qNil))) (qCons qVar qNil))) (qCons (qCs (by kernel_rfl) (by kernel_rfl)) qNil))) qgSet) (qsSeq (qsAsg (qApp (q_vAdd N) (qCons qVar (qCons (qCs (by kernel_rfl) (by kernel_rfl)) qNil))) qgSet) (qsSeq (qsAsg (qApp (qMake (q_TongueD_initD N h_is_name)) (qCons qVar qNil)) qgSet) (qsSeq (qsAsg (qApp q_vLst (qCons (qApp q_vTup (qCons (qCs (by kernel_rfl) (by kernel_rfl)) (qCons (qCs (by kernel_rfl) (by kernel_rfl)) (qCons (qApp q_vTup (qCons qVar qNil)) (qCons (qApp q_vTup (qCons (qApp q_vTup (qCons qCi (qCons (qCs (by kernel_rfl) (by kernel_rfl)) qNil))) qNil)) qNil))))) (qCons (qApp q_vTup (qCons (qCs (by kernel_rfl) (by kernel_rfl)) (qCons (qCs (by kernel_rfl) (by kernel_rfl)) (qCons (qApp q_vTup (qCons qVar qNil)) (qCons (qApp q_vTup (qCons (qApp q_vTup (qCons qCi (qCons (qCs (by kernel_rfl) (by kernel_rfl)) qNil))) qNil)) qNil))))) (qCons (qApp q_vTup (qCons (qCs (by kernel_rfl) (by kernel_rfl)) (qCons (qCs (by kernel_rfl) (by kernel_rfl)) (qCons (qApp q_vTup (qCons qVar (qCons qVar qNil))) (qCons (qApp q_vTup qNil) qNil))))) qNil)))) qgSet) (qsSeq (qsExpr (qM t_lst q_vAppend qVar (qCons (qApp q_vTup (qCons (qCs (by kernel_rfl) (by kernel_rfl)) (qCons (qCs (by kernel_rfl) (by kernel_rfl)) (qCons (qApp q_vTup (qCons qVar qNil)) (qCons (qApp q_vTup (qCons (qApp q_vTup (qCons qCi (qCons (qCs (by kernel_rfl) (by kernel_rfl)) qNil))) (qCons (qApp q_vTup (qCons qCi (qCons (qCs (by kernel_rfl) (by kernel_rfl)) qNil))) qNil))) qNil))))) qNil))) (qsSeq (qsExpr (qM t_lst q_vAppend qVar (qCons (qApp q_vTup (qCons (qCs (by kernel_rfl) (by kernel_rfl)) (qCons (qCs (by kernel_rfl) (by kernel_rfl)) (qCons (qApp q_vTup (qCons qVar (qCons qVar qNil))) (qCons (qApp q_vTup (qCons (qApp q_vTup (qCons qCi (qCons (qCs (by kernel_rfl) (by kernel_rfl)) qNil))) (qCons (qApp q_vTup (qCons qCi (qCons (qCs (by kernel_rfl) (by kernel_rfl)) qNil))) qNil))) qNil))))) qNil))) (qsSeq (qsExpr (qM t_lst q_vAppend qVar (qCons (qApp q_vTup (qCons (qCs (by kernel_rfl) (by kernel_rfl)) (qCons (qCs (by kernel_rfl) (by kernel_rfl)) (qCons (qApp q_vTup (qCons qVar (qCons qVar qNil))) (qCons (qApp q_vTup (qCons (qApp q_vTup (qCons qCi (qCons (qCs (by kernel_rfl) (by kernel_rfl)) qNil))) (qCons (qApp q_vTup (qCons qCi (qCons (qCs (by kernel_rfl) (by kernel_rfl)) qNil))) qNil))) qNil))))) qNil))) (qsSeq (qsExpr (qM t_lst q_vAppend qVar (qCons (qApp q_vTup (qCons (qCs (by kernel_rfl) (by kernel_rfl)) (qCons (qCs (by kernel_rfl) (by kernel_rfl)) (qCons (qApp q_vTup (qCons qVar (qCons qVar qNil))) (qCons (qApp q_vTup (qCons (qApp q_vTup (qCons qCi (qCons (qCs (by kernel_rfl) (by kernel_rfl)) qNil))) qNil)) qNil))))) qNil))) (qsSeq (qsExpr (qM t_lst q_vAppend qVar (qCons (qApp q_vTup (qCons (qCs (by kernel_rfl) (by kernel_rfl)) (qCons (qCs (by kernel_rfl) (by kernel_rfl)) (qCons (qApp q_vTup (qCons qVar (qCons qVar qNil))) (qCons (qApp q_vTup (qCons (qApp q_vTup (qCons qCi (qCons (qCs (by kernel_rfl) (by kernel_rfl)) qNil))) qNil)) qNil))))) qNil))) (qsSeq (qsExpr (qM t_lst q_vAppend qVar (qCons (qApp q_vTup (qCons (qCs (by kernel_rfl) (by kernel_rfl)) (qCons (qCs (by kernel_rfl) (by kernel_rfl)) (qCons (qApp q_vTup (qCons qVar qNil)) (qCons (qApp q_vTup (qCons (qApp q_vTup (qCons qCi (qCons (qCs (by kernel_rfl) (by kernel_rfl)) qNil))) qNil)) qNil))))) qNil))) (qsSeq (qsExpr (qM t_lst q_vAppend qVar (qCons (qApp q_vTup (qCons (qCs (by kernel_rfl) (by kernel_rfl)) (qCons (qCs (by kernel_rfl) (by kernel_rfl)) (qCons (qApp q_vTup (qCons qVar (qCons qVar qNil))) (qCons (qApp q_vTup qNil) qNil))))) qNil))) (qsRet (qApp q_vAll (qCons (qLc (qItA qVar) (qgTup (qgCons qgSet (qgCons qgSet (qgCons qgSet (qgCons qgSet qgNil))))) qYes (qApp (q_vEq N) (qCons (qApp q_vRepr (qCons (qApp (q_standing N h_is_name) (qCons qVar (qCons qVar (qCons qVar (qCons qVar qNil))))) qNil)) (qCons (qApp q_vRepr (qCons qVar qNil)) qNil)))) qNil)))))))))))))))
end G
namespace G
open PySem PySem.Spec PyProof.Rows L2 DL
theorem pows : ∃ A B C : Int, 0 < B ∧ (∀ μ, vPow [.int 10, .int 60] μ = .ok (.int A) μ) ∧ (∀ μ, vPow [.int A, .int 5] μ = .ok (.int B) μ) ∧ ∀ μ, vPow [.int 10, .int 18] μ = .ok (.int C) μ :=
  ⟨10 ^ 60, (10 ^ 60) ^ 5, 10 ^ 18, by decide, fun μ => by kernel_rfl, fun μ => by kernel_rfl, fun μ => by kernel_rfl⟩
theorem pot_cell {μ : Sto} {ns : List Int} {j : Nat} (h : seqAt μ 0 = some (ns.map .int)) (hd : dctAt μ 0 = none) (hj : j < 3) : ∃ c : Int, (dIf (dTest (dApp vLt (dCons (dVar 1) (dCons (dApp vLen (dCons (dVar 0) dNil)) dNil)))) (dApp vIx (dCons (dVar 0) (dCons (dVar 1) dNil))) (dApp vAdd (dCons (dApp vMulA (dCons (dC (.int 125)) (dCons (dVar 1) dNil))) (dCons (dC (.int 85)) dNil)))) [some (.ref 0), some (.int j), none, none, none] μ = .ok (.int c) μ := by
  by_cases c : j < ns.length
  · refine ⟨ns[j], ?_⟩
    simp [dIf, dTest, dApp, dCons, dVar, dNil, len_0 h hd, lt_i, c]
    rw [ix_0 h hd (p := .int ns[j])]
    simp [L2.atI, L2.ixN, c]
  · refine ⟨125 * j + 85, ?_⟩
    simp [dIf, dTest, dApp, dCons, dVar, dC, dNil, len_0 h hd, lt_i, c]
    rw [mul_l (by omega)]
    simp [add_i]
theorem pot_ok {μ : Sto} {ns : List Int} {j : Nat} (h : seqAt μ 0 = some (ns.map .int)) (hd : dctAt μ 0 = none) (hj : j < 3) :
    ∃ own mix : Int, 0 ≤ own ∧ 0 ≤ mix ∧ mix < 2305843009213693921 ∧ m__law_pot [.ref 0, .int j] μ = .ok (.ref μ.length) (μ ++ [.lst [.int own, .int mix, .int 0]]) := by
  obtain ⟨c, hc⟩ := pot_cell h hd hj
  obtain ⟨A, B, C, hB, p1, p2, p3⟩ := pows
  generalize ha : (if c < 0 then -c else c) = a at *
  refine ⟨a % B * (if decide (C ≤ a) then 1 else 0), (c % 2305843009213693951 * 80313 + 8329 * j * j + 113) % 2305843009213693921, ?_, by omega, by omega, ?_⟩
  · refine Int.mul_nonneg (Int.emod_nonneg _ (by omega)) ?_
    split <;> omega
  · unfold m__law_pot b__law_pot fnBody
    simp only [List.length_cons, List.length_nil, Nat.reduceAdd, if_true, List.map_cons, List.map_nil, sSeq, sAsg, sRet, List.cons_append, List.nil_append, Nat.reduceSub, List.replicate]
    rw [hc]
    simp only [bindOk, gSet, List.set, dApp, dCons, dVar, dC, dNil, List.getElem?_cons_zero, List.getElem?_cons_succ, abs_i, int_i, int_b, p1, p2, p3, ge_i, ha]
    rw [mod_p hB]
    simp only [bindOk]
    rw [mul_r (by split <;> omega)]
    simp only [bindOk, List.set, List.getElem?_cons_zero, List.getElem?_cons_succ, int_i]
    rw [mod_p (by omega)]
    simp only [bindOk, List.set, List.getElem?_cons_zero, List.getElem?_cons_succ, int_i]
    rw [mul_r (by omega)]
    simp only [bindOk]
    rw [mul_l (by omega)]
    simp only [bindOk, List.getElem?_cons_zero, List.getElem?_cons_succ]
    rw [mul_r (by omega)]
    simp only [bindOk, add_i, int_i]
    rw [mod_p (by omega)]
    simp only [bindOk]
    rw [lst_k (by simp)]
    simp only [bindOk]
/-- a pot of draws stands at i, from which so many were taken at most -/
def PotAt (μ : Sto) (i : Nat) (c : Int) : Prop := ∃ own mix cnt : Int, μ[i]? = some (.lst [.int own, .int mix, .int cnt]) ∧ 0 ≤ own ∧ 0 ≤ mix ∧ mix < 2305843009213693921 ∧ 0 ≤ cnt ∧ cnt ≤ c
/-- all but i stands as it was -/
def Fr (i : Nat) (μ μ' : Sto) : Prop := μ.length ≤ μ'.length ∧ ∀ j, j < μ.length → j ≠ i → μ'[j]? = μ[j]?
theorem Fr.refl {i : Nat} {μ : Sto} : Fr i μ μ := ⟨Nat.le_refl _, fun _ _ _ => rfl⟩
theorem Fr.trans {i : Nat} {μ μ1 μ2 : Sto} (a : Fr i μ μ1) (b : Fr i μ1 μ2) : Fr i μ μ2 := ⟨Nat.le_trans a.1 b.1, fun j h n => (b.2 j (Nat.lt_of_lt_of_le h a.1) n).trans (a.2 j h n)⟩
theorem Fr.app {i : Nat} {μ more : Sto} : Fr i μ (μ ++ more) := ⟨by simp, fun j h _ => List.getElem?_append_left h⟩
theorem Fr.set {i : Nat} {μ : Sto} {o : MObj} : Fr i μ (μ.set i o) := ⟨by simp, fun j _ n => List.getElem?_set_ne (Ne.symm n)⟩
theorem lt_of_get {μ : Sto} {i : Nat} {o : MObj} (h : μ[i]? = some o) : i < μ.length := (List.getElem?_eq_some_iff.mp h).1
theorem vix3 {μ : Sto} {i : Nat} {a b c : PV} (h : μ[i]? = some (.lst [a, b, c])) : vIx [.ref i, .int 0] μ = .ok a μ ∧ vIx [.ref i, .int 1] μ = .ok b μ ∧ vIx [.ref i, .int 2] μ = .ok c μ := ⟨ix_l h rfl, ix_l h rfl, ix_l h rfl⟩
theorem take_ok {μ : Sto} {i : Nat} {c u : Int} (h : PotAt μ i c) (hc : c ≤ 1000) (hu : 0 < u) (hu2 : u ≤ 1000) :
    ∃ (d : Nat) (μ' : Sto), (d : Int) < u ∧ PotAt μ' i (c + 1) ∧ Fr i μ μ' ∧ m__law_take [.ref i, .int u] μ = .ok (.int d) μ' := by
  obtain ⟨own, mix, cnt, h1, h2, h3, h4, h5, h6⟩ := h
  obtain ⟨x0, x1, x2⟩ := vix3 h1
  by_cases co : 0 < own
  · refine ⟨(own % u).toNat, μ.set i (.lst [.int (own / u), .int mix, .int cnt]), ?_, ⟨own / u, mix, cnt, ?_, ?_, h3, h4, h5, by omega⟩, Fr.set, ?_⟩
    · have := Int.emod_nonneg own (show u ≠ 0 by omega)
      have := Int.emod_lt_of_pos own hu
      omega
    · rw [List.getElem?_set_self (lt_of_get h1)]
    · exact Int.ediv_nonneg h2 (by omega)
    · have e : (((own % u).toNat : Nat) : Int) = own % u := Int.toNat_of_nonneg (Int.emod_nonneg own (by omega))
      rw [e]
      unfold m__law_take b__law_take fnBody
      simp only [List.length_cons, List.length_nil, Nat.reduceAdd, if_true, List.map_cons, List.map_nil, sSeq, sIf, dTest, dApp, dCons, dVar, dC, dNil, List.cons_append, List.nil_append, Nat.reduceSub, List.replicate, List.getElem?_cons_zero, bindOk, x0, gt_i, decide_eq_true co, sAsg, int_i,
        List.getElem?_cons_succ, mod_p hu, gSet, List.set, div_p hu (by omega), gItem, st_l h1 (z := 0) (n := 0) rfl, sRet]
  · have e0 : decide (0 < own) = false := decide_eq_false co
    have y1 : (μ.set i (.lst [.int own, .int mix, .int (cnt + 1)]))[i]? = some (.lst [.int own, .int mix, .int (cnt + 1)]) := List.getElem?_set_self (lt_of_get h1)
    obtain ⟨z0, z1, z2⟩ := vix3 y1
    generalize hμ1 : μ.set i (.lst [.int own, .int mix, .int (cnt + 1)]) = μ1 at *
    have fr1 : Fr i μ μ1 := by rw [← hμ1]; exact Fr.set
    have y2 : (μ1 ++ [MObj.lst [.int 2147483647, .int 2147483629, .int 2147483587, .int 2147483579, .int 2147483563]])[i]? = some (.lst [.int own, .int mix, .int (cnt + 1)]) := by rw [List.getElem?_append_left (lt_of_get y1)]; exact y1
    have y3 : (μ1 ++ [MObj.lst [.int 2147483647, .int 2147483629, .int 2147483587, .int 2147483579, .int 2147483563]])[μ1.length]? = some (.lst [.int 2147483647, .int 2147483629, .int 2147483587, .int 2147483579, .int 2147483563]) := by rw [List.getElem?_append_right (Nat.le_refl _), Nat.sub_self]; rfl
    have fr2 : Fr i μ1 (μ1 ++ [MObj.lst [.int 2147483647, .int 2147483629, .int 2147483587, .int 2147483579, .int 2147483563]]) := Fr.app
    generalize hμ2 : μ1 ++ [MObj.lst [.int 2147483647, .int 2147483629, .int 2147483587, .int 2147483579, .int 2147483563]] = μ2 at *
    obtain ⟨w0, w1, w2⟩ := vix3 y2
    have pr : ∃ p : Int, 2147483563 ≤ p ∧ p ≤ 2147483647 ∧ L2.atI [PV.int 2147483647, .int 2147483629, .int 2147483587, .int 2147483579, .int 2147483563] ((cnt + 1) % 5) = some (.int p) := by
      have h1 := Int.emod_nonneg (cnt + 1) (show (5 : Int) ≠ 0 by omega)
      have h2 := Int.emod_lt_of_pos (cnt + 1) (show (0 : Int) < 5 by omega)
      generalize (cnt + 1) % 5 = r at *
      have : r = 0 ∨ r = 1 ∨ r = 2 ∨ r = 3 ∨ r = 4 := by omega
      rcases this with e | e | e | e | e <;> subst e
      · exact ⟨2147483647, by omega, by omega, rfl⟩
      · exact ⟨2147483629, by omega, by omega, rfl⟩
      · exact ⟨2147483587, by omega, by omega, rfl⟩
      · exact ⟨2147483579, by omega, by omega, rfl⟩
      · exact ⟨2147483563, by omega, by omega, rfl⟩
    obtain ⟨p, p1, p2, hp⟩ := pr
    generalize hb : mix + 95195 * (cnt + 1) * (cnt + 1) + 111 = b
    have hb1 : b.natAbs < 2 ^ 80 := by
      have s1 : (cnt + 1) * (cnt + 1) ≤ 1001 * 1001 := Int.mul_le_mul (by omega) (by omega) (by omega) (by omega)
      have s2 : 0 ≤ (cnt + 1) * (cnt + 1) := Int.mul_nonneg (by omega) (by omega)
      have s3 : 95195 * (cnt + 1) * (cnt + 1) = 95195 * ((cnt + 1) * (cnt + 1)) := Int.mul_assoc ..
      omega
    have q1 := Int.emod_nonneg (b ^ 3) (show p ≠ 0 by omega)
    have q2 := Int.emod_lt_of_pos (b ^ 3) (show 0 < p by omega)
    generalize hq : b ^ 3 % p = q at *
    generalize hr : q * (q % 10039 + 91 * (cnt + 1)) / 131 = r
    have t1 := Int.emod_nonneg r (show u ≠ 0 by omega)
    have t2 := Int.emod_lt_of_pos r hu
    refine ⟨(r % u).toNat, μ2, by omega, ⟨own, mix, cnt + 1, y2, h2, h3, h4, by omega, by omega⟩, fr1.trans fr2, ?_⟩
    have e : (((r % u).toNat : Nat) : Int) = r % u := Int.toNat_of_nonneg t1
    rw [e]
    unfold m__law_take b__law_take fnBody
    simp only [List.length_cons, List.length_nil, Nat.reduceAdd, if_true, List.map_cons, List.map_nil, sSeq, sIf, dTest, dApp, dCons, dVar, dC, dNil, List.cons_append, List.nil_append, Nat.reduceSub, List.replicate, List.getElem?_cons_zero, bindOk, x0, x2, gt_i, e0, sAsg, int_i, sNil, Bool.false_eq_true, if_false,
        List.getElem?_cons_succ, gSet, List.set, gItem, add_i, st_l h1 (z := 2) (n := 2) rfl, hμ1]
    rw [lst_k (by simp)]
    simp only [bindOk, hμ2, w2, int_i, mod_p (show (0 : Int) < 5 by omega), ix_l y3 hp, List.set, List.getElem?_cons_zero, List.getElem?_cons_succ, w1, mul_l (show -(2 ^ 64) < (95195 : Int) ∧ (95195 : Int) < 2 ^ 64 by omega)]
    rw [mul_r (show -(2 ^ 64) < cnt + 1 ∧ cnt + 1 < 2 ^ 64 by omega)]
    simp only [dApp, dCons, dVar, dC, dNil, bindOk, add_i, hb, int_i, cube hb1, mod_p (show 0 < p by omega), hq, List.set, List.getElem?_cons_zero, List.getElem?_cons_succ, sRet, mod_p (show (0 : Int) < 10039 by omega), w2, mul_l (show -(2 ^ 64) < (91 : Int) ∧ (91 : Int) < 2 ^ 64 by omega)]
    rw [mul_l (show -(2 ^ 64) < q ∧ q < 2 ^ 64 by omega)]
    simp only [bindOk, div_p (show (0 : Int) < 131 by omega) (by omega), hr, int_i, mod_p hu]
theorem some_ok {μ : Sto} {i q : Nat} {pool : List PV} (h : PotAt μ i 100) (hq : μ[q]? = some (.lst pool)) (hqi : q ≠ i) (h1 : 2 ≤ pool.length) (h2 : pool.length ≤ 100) :
    ∃ (a b : Nat) (ha : a < pool.length) (hb : b < (pool.eraseIdx a).length) (r : Nat) (μ' : Sto), m__law_some [.ref i, .ref q, .int 2] μ = .ok (.ref r) μ' ∧ Fr i μ μ' ∧ μ.length ≤ r ∧ μ'[r]? = some (.lst [pool[a], (pool.eraseIdx a)[b]]) := by
  have lb := listB_l hq
  have iL : i < μ.length := by obtain ⟨_, _, _, e, _⟩ := h; exact lt_of_get e
  -- the two lists: what is left, what is found
  have hμ1 : (μ ++ [MObj.lst pool] ++ [MObj.lst []])[μ.length]? = some (.lst pool) := by simp
  have hμ2 : (μ ++ [MObj.lst pool] ++ [MObj.lst []])[μ.length + 1]? = some (.lst []) := by simp
  have hp1 : PotAt (μ ++ [MObj.lst pool] ++ [MObj.lst []]) i 100 := by
    obtain ⟨own, mix, cnt, e, r⟩ := h
    exact ⟨own, mix, cnt, by rw [List.append_assoc, List.getElem?_append_left iL]; exact e, r⟩
  have fr1 : Fr i μ (μ ++ [MObj.lst pool] ++ [MObj.lst []]) := Fr.app.trans Fr.app
  have hl : (μ ++ [MObj.lst pool]).length = μ.length + 1 := by simp
  generalize hm1 : μ ++ [MObj.lst pool] ++ [MObj.lst []] = μ1 at *
  have L1 : μ1.length = μ.length + 2 := by rw [← hm1]; simp
  -- first draw
  obtain ⟨a, μ2, da, pa, fa, ea⟩ := take_ok (u := (pool.length : Int)) hp1 (by omega) (by omega) (by omega)
  have a' : a < pool.length := by omega
  have g1 : μ2[μ.length]? = some (.lst pool) := by rw [fa.2 _ (by omega) (by omega)]; exact hμ1
  have g2 : μ2[μ.length + 1]? = some (.lst []) := by rw [fa.2 _ (by omega) (by omega)]; exact hμ2
  have pp1 := pop_l g1 a' (by omega)
  have k1 : (μ2.set μ.length (.lst (pool.eraseIdx a)))[μ.length + 1]? = some (.lst []) := by rw [List.getElem?_set_ne (by omega)]; exact g2
  have ap1 := app_l (p := pool[a]) k1 (by simp)
  generalize hm3 : (μ2.set μ.length (.lst (pool.eraseIdx a))).set (μ.length + 1) (.lst ([] ++ [pool[a]])) = μ3 at *
  have L2 : μ2.length ≥ μ.length + 2 := by have := fa.1; omega
  have L3 : μ3.length = μ2.length := by rw [← hm3]; simp
  have g3 : μ3[μ.length]? = some (.lst (pool.eraseIdx a)) := by rw [← hm3, List.getElem?_set_ne (by omega), List.getElem?_set_self (by omega)]
  have g4 : μ3[μ.length + 1]? = some (.lst [pool[a]]) := by rw [← hm3, List.getElem?_set_self (by rw [List.length_set]; omega)]; rfl
  have p3 : PotAt μ3 i 101 := by
    obtain ⟨own, mix, cnt, e, r⟩ := pa
    exact ⟨own, mix, cnt, by rw [← hm3, List.getElem?_set_ne (by omega), List.getElem?_set_ne (by omega)]; exact e, r⟩
  -- second draw
  have len2 : (pool.eraseIdx a).length = pool.length - 1 := by rw [List.length_eraseIdx]; simp [a']
  obtain ⟨b, μ4, db, pb, fb, eb⟩ := take_ok (u := ((pool.eraseIdx a).length : Int)) p3 (by omega) (by omega) (by omega)
  have b' : b < (pool.eraseIdx a).length := by omega
  have g5 : μ4[μ.length]? = some (.lst (pool.eraseIdx a)) := by rw [fb.2 _ (by omega) (by omega)]; exact g3
  have g6 : μ4[μ.length + 1]? = some (.lst [pool[a]]) := by rw [fb.2 _ (by omega) (by omega)]; exact g4
  have pp2 := pop_l g5 b' (by omega)
  have k2 : (μ4.set μ.length (.lst ((pool.eraseIdx a).eraseIdx b)))[μ.length + 1]? = some (.lst [pool[a]]) := by rw [List.getElem?_set_ne (by omega)]; exact g6
  have ap2 := app_l (p := (pool.eraseIdx a)[b]) k2 (by simp)
  have L4 : μ4.length ≥ μ.length + 2 := by have := fb.1; omega
  refine ⟨a, b, a', b', μ.length + 1, (μ4.set μ.length (.lst ((pool.eraseIdx a).eraseIdx b))).set (μ.length + 1) (.lst ([pool[a]] ++ [(pool.eraseIdx a)[b]])), ?_, ?_, by omega, ?_⟩
  · have e0 : m__law_some [.ref i, .ref q, .int 2] μ = .ok (.ref (μ.length + 1)) ((μ4.set μ.length (.lst ((pool.eraseIdx a).eraseIdx b))).set (μ.length + 1) (.lst ([pool[a]] ++ [(pool.eraseIdx a)[b]]))) := by
      unfold m__law_some b__law_some fnBody
      simp only [List.length_cons, List.length_nil, Nat.reduceAdd, if_true, List.map_cons, List.map_nil, sSeq, sPar, dCons, dApp, dVar, dC, dNil, List.cons_append, List.nil_append, Nat.reduceSub, List.replicate, List.getElem?_cons_zero, List.getElem?_cons_succ, bindOk, lb]
      rw [lst_k (by simp)]
      have rg : dRg1 (dVar 2) [some (.ref i), some (.ref q), some (.int 2), some (.ref μ.length), some (.ref (μ.length + 1)), none] μ1 = .ok (([.int 0, .int 1] : List PV), fun _ => true) μ1 := by kernel_rfl
      simp only [bindOk, List.set, hl, hm1, sFor, rg, forGo, gSet, if_true, sExpr, dM, List.getElem?_cons_zero, List.getElem?_cons_succ, islp hμ2, islp hμ1, len_l hμ1, ea, islp g2, pp1, ap1, dVar, dCons, dApp, dNil]
      simp only [List.cons_append, List.nil_append] at ap2
      simp only [islp g4, islp g3, len_l g3, eb, islp g5, pp2, ap2, if_true, bindOk, sRet, dVar, List.getElem?_cons_zero, List.getElem?_cons_succ, List.cons_append, List.nil_append]
    exact e0
  · refine ⟨by rw [List.length_set, List.length_set]; omega, fun j hj hn => ?_⟩
    rw [List.getElem?_set_ne (by omega), List.getElem?_set_ne (by omega), fb.2 j (by omega) hn, ← hm3, List.getElem?_set_ne (by omega), List.getElem?_set_ne (by omega), fa.2 j (by omega) hn, fr1.2 j hj hn]
  · rw [List.getElem?_set_self (by rw [List.length_set]; omega)]; rfl
def poolS : List Str := ["am", "ko", "ta", "word", "joint", "metre", "notes", "goes", "find", "drop", "long", "zzzzzzzz", "x", "u"]
theorem erase_map {α β : Type} (f : α → β) : ∀ (l : List α) (a : Nat), (l.map f).eraseIdx a = (l.eraseIdx a).map f
  | [], _ => rfl
  | x :: xs, 0 => rfl
  | x :: xs, a + 1 => by
    show f x :: (xs.map f).eraseIdx a = f x :: (xs.eraseIdx a).map f
    rw [erase_map f xs a]
theorem names_ok {μ : Sto} {i : Nat} (h : PotAt μ i 100) :
    ∃ (a b : Nat) (ha : a < poolS.length) (hb : b < (poolS.eraseIdx a).length) (r : Nat) (μ' : Sto), m__law_names [.ref i, .int 2] μ = .ok (.ref r) μ' ∧ Fr i μ μ' ∧ μ.length ≤ r ∧ μ'[r]? = some (.lst [.str poolS[a], .str (poolS.eraseIdx a)[b]]) := by
  have iL : i < μ.length := by obtain ⟨_, _, _, e, _⟩ := h; exact lt_of_get e
  have g0 : (μ ++ [MObj.lst (poolS.map PV.str)])[μ.length]? = some (.lst (poolS.map PV.str)) := by simp
  have h1 : PotAt (μ ++ [MObj.lst (poolS.map PV.str)]) i 100 := by
    obtain ⟨own, mix, cnt, e, r⟩ := h
    exact ⟨own, mix, cnt, by rw [List.getElem?_append_left iL]; exact e, r⟩
  obtain ⟨a, b, ha, hb, r, μ', e, fr, hr, g⟩ := some_ok h1 g0 (by omega) (by decide) (by decide)
  have ha' : a < poolS.length := by simpa using ha
  have hb' : b < (poolS.eraseIdx a).length := by
    rw [List.length_eraseIdx] at hb ⊢
    simpa using hb
  refine ⟨a, b, ha', hb', r, μ', ?_, Fr.app.trans fr, ?_, ?_⟩
  · unfold m__law_names b__law_names fnBody
    simp only [List.length_cons, List.length_nil, Nat.reduceAdd, if_true, List.map_cons, List.map_nil, sSeq, sAsg, dCons, dApp, dVar, dC, dNil, List.cons_append, List.nil_append, Nat.reduceSub, List.replicate, List.getElem?_cons_zero, List.getElem?_cons_succ, bindOk]
    rw [lst_k (by simp)]
    simp only [bindOk, gSet, List.set, sRet, List.getElem?_cons_zero, List.getElem?_cons_succ]
    have e2 : m__law_some [.ref i, .ref μ.length, .int 2] (μ ++ [MObj.lst [.str "am", .str "ko", .str "ta", .str "word", .str "joint", .str "metre", .str "notes", .str "goes", .str "find", .str "drop", .str "long", .str "zzzzzzzz", .str "x", .str "u"]]) = .ok (.ref r) μ' := e
    simp only [dApp, dCons, dVar, dNil, List.getElem?_cons_zero, List.getElem?_cons_succ, bindOk, e2]
  · simp at hr; omega
  · rw [g]
    simp only [erase_map, List.getElem_map]
/-- the places that are looked at -/
theorem places_ok {μ : Sto} {ns : List Int} (h : seqAt μ 0 = some (ns.map .int)) (hd : dctAt μ 0 = none) : ∃ m : Nat, m ≤ 3 ∧ m__law_places [.ref 0, .int 3] μ = .ok (.ref μ.length) (μ ++ [.lst ((List.range m).map fun i => PV.int (i : Nat))]) := by
  have go : ∀ n : Int, n ≤ 3 → 1 ≤ n → ∃ m : Nat, m ≤ 3 ∧ (n = (m : Int)) := fun n a b => ⟨n.toNat, by omega, by omega⟩
  have hmx : ∀ n : Int, (rg1 rgL (.int n) μ) = if rgFit 0 n = true then .ok (.ref μ.length) (μ ++ [.lst (rgP 0 n)]) else .bad := fun n => rfl
  have e1 : ∃ n : Int, n ≤ 3 ∧ 1 ≤ n ∧ m__law_places [.ref 0, .int 3] μ = rg1 rgL (.int n) μ := by
    refine ⟨if (if ((ns.length : Nat) : Int) < 3 then ((ns.length : Nat) : Int) else 3) > 1 then (if ((ns.length : Nat) : Int) < 3 then ((ns.length : Nat) : Int) else 3) else 1, by split <;> (try split) <;> omega, by split <;> omega, ?_⟩
    unfold m__law_places b__law_places fnBody
    simp only [List.length_cons, List.length_nil, Nat.reduceAdd, if_true, List.map_cons, List.map_nil, sRet, dLstRg1, dCons, dApp, dVar, dC, dNil, List.cons_append, List.nil_append, Nat.reduceSub, List.replicate, List.getElem?_cons_zero, List.getElem?_cons_succ, bindOk, len_0 h hd, vMin2, vMax2, List.length_map]
    generalize (if (if ((ns.length : Nat) : Int) < 3 then ((ns.length : Nat) : Int) else 3) > 1 then (if ((ns.length : Nat) : Int) < 3 then ((ns.length : Nat) : Int) else 3) else 1) = n
    rw [hmx]
    by_cases c : rgFit 0 n = true
    · rw [if_pos c]; rfl
    · rw [if_neg c]; rfl
  obtain ⟨n, n1, n2, e⟩ := e1
  obtain ⟨m, m1, rfl⟩ := go n n1 n2
  refine ⟨m, m1, ?_⟩
  rw [e, hmx, if_pos (by simp [rgFit]; omega)]
  simp [rgP]
theorem src_l {μ : Sto} {i : Nat} {ps : List PV} (h : μ[i]? = some (.lst ps)) : srcK (.ref i) μ = some (ps, fun μ' => sameSeq μ' i ps) := by
  simp only [srcK, srcOf, dct_l h, seq_l h]
theorem same_l {μ : Sto} {i : Nat} {ps : List PV} (h : μ[i]? = some (.lst ps)) : sameSeq μ i ps = true := by
  simp only [sameSeq, seq_l h, PV.beqs_self]
/-- what is right: of any two names of the pool -/
def Right : Prop := ∀ (a b : Nat) (ha : a < poolS.length) (hb : b < (poolS.eraseIdx a).length) (μ : Sto), vApart m__law_right [.str poolS[a], .str (poolS.eraseIdx a)[b]] μ = .ok (.bl true) μ
theorem loop_ok (R : Right) {ns : List Int} {q : Nat} {its0 : List PV} : ∀ (its : List Nat) (η : Env') (μ : Sto), (∀ i ∈ its, i < 3) → seqAt μ 0 = some (ns.map .int) → dctAt μ 0 = none → 0 < μ.length → μ[q]? = some (.lst its0) → η.length = 4 → η[0]? = some (some (.ref 0)) →
    ∃ η' μ', forGo (fun μ' => sameSeq μ' q its0) (gSet 1) (sSeq (sAsg (dApp m__law_names (dCons (dApp m__law_pot (dCons (dVar 0) (dCons (dVar 1) dNil))) (dCons (dC (.int 2)) dNil))) (gTupA 2 (gCons' (gSet 2) (gCons' (gSet 3) gNil')))) (sIf (dNot (dTru (dApp (vApart m__law_right) (dCons (dVar 2) (dCons (dVar 3) dNil))))) (sRet (dC (.bl false))) sNil)) (its.map fun i => PV.int (i : Nat)) η μ = .ok (.nx, η') μ'
  | [], η, μ, _, _, _, _, hq, _, _ => ⟨η, μ, by simp only [List.map_nil, forGo, same_l hq, if_true]⟩
  | i :: its, η, μ, hi, h0, hd, h00, hq, he, he0 => by
    obtain ⟨x0, x1, x2, x3, rfl⟩ : ∃ x0 x1 x2 x3, η = [x0, x1, x2, x3] := by
      match η, he with
      | [a, b, c, d], _ => exact ⟨a, b, c, d, rfl⟩
    obtain rfl : x0 = some (.ref 0) := by simpa using he0
    obtain ⟨own, mix, p1, p2, p3, ep⟩ := pot_ok h0 hd (hi i (by simp))
    have gp : (μ ++ [MObj.lst [.int own, .int mix, .int 0]])[μ.length]? = some (.lst [.int own, .int mix, .int 0]) := by simp
    obtain ⟨a, b, ha, hb, r, μ2, en, fr, hr, g⟩ := names_ok (i := μ.length) ⟨own, mix, 0, gp, p1, p2, p3, by omega, by omega⟩
    have keep : ∀ j, j < μ.length → μ2[j]? = μ[j]? := fun j hj => by rw [fr.2 j (by simp; omega) (by omega), List.getElem?_append_left hj]
    have ss : seqAt μ2 0 = some (ns.map .int) := by
      unfold seqAt at h0 ⊢
      rw [keep 0 h00]
      exact h0
    have sd : dctAt μ2 0 = none := by
      unfold dctAt at hd ⊢
      rw [keep 0 h00]
      exact hd
    have sq : μ2[q]? = some (.lst its0) := by rw [keep q (lt_of_get hq)]; exact hq
    have it : items (.ref r) μ2 = some [.str poolS[a], .str (poolS.eraseIdx a)[b]] := seq_l g
    have R1 := R a b ha hb μ2
    have hl : 0 < μ2.length := by have := fr.1; simp at this; omega
    obtain ⟨η', μ', e⟩ := loop_ok R its [some (.ref 0), some (.int (i : Nat)), some (.str poolS[a]), some (.str (poolS.eraseIdx a)[b])] μ2 (fun j hj => hi j (by simp [hj])) ss sd hl sq rfl rfl
    refine ⟨η', μ', ?_⟩
    rw [← e]
    simp only [List.map_cons, forGo, same_l hq, if_true, gSet, bindOk, List.set, sSeq, sAsg, sIf, dNot, dTru, dApp, dCons, dVar, dC, dNil, List.getElem?_cons_zero, List.getElem?_cons_succ, ep, en, gTupA, it, List.length_cons, List.length_nil, Nat.reduceAdd, gCons', gNil', R1, truth, Bool.not_true, Bool.false_eq_true, if_false, sNil]
theorem law_ok (R : Right) (ns : List Int) (o : MObj) (ho : o = .rol (ns.map .int) ∨ o = .lst (ns.map .int)) : ∃ μ', m_law [.ref 0] [o] = .ok (.bl true) μ' := by
  have h0 : seqAt [o] 0 = some (ns.map .int) := by rcases ho with e | e <;> subst e <;> rfl
  have hd : dctAt [o] 0 = none := by rcases ho with e | e <;> subst e <;> rfl
  obtain ⟨m, hm, ep⟩ := places_ok h0 hd
  have g : ([o] ++ [MObj.lst ((List.range m).map fun i => PV.int (i : Nat))])[1]? = some (.lst ((List.range m).map fun i => PV.int (i : Nat))) := rfl
  obtain ⟨η', μ', e⟩ := loop_ok R (ns := ns) (List.range m) [some (.ref 0), none, none, none] ([o] ++ [MObj.lst ((List.range m).map fun i => PV.int (i : Nat))]) (fun i hi => by have := List.mem_range.mp hi; omega) (by exact h0) (by exact hd) (by simp) g rfl rfl
  refine ⟨μ', ?_⟩
  unfold m_law b_law fnBody
  have ep2 : m__law_places [.ref 0, .int 3] [o] = .ok (.ref 1) ([o] ++ [MObj.lst ((List.range m).map fun i => PV.int (i : Nat))]) := ep
  have sr := src_l g
  generalize hm1 : [o] ++ [MObj.lst ((List.range m).map fun i => PV.int (i : Nat))] = μ1 at *
  simp only [List.length_cons, List.length_nil, Nat.reduceAdd, if_true, List.map_cons, List.map_nil, sSeq, sFor, dItA, dApp, dCons, dVar, dC, dNil, List.cons_append, List.nil_append, Nat.reduceSub, List.replicate, List.getElem?_cons_zero, List.getElem?_cons_succ, bindOk, ep2, sr, sRet] at e ⊢
  rw [e]
  simp only [bindOk]
end G
namespace G
open PySem PySem.Spec PyProof.Rows L2 DL
theorem letters : isT (mL__law_right [.str ⟨⟨[1114112]⟩⟩, .str ⟨⟨[1114113]⟩⟩] []) = true := by kernel_rfl
theorem pool_names : allS nameS poolS = true := by kernel_rfl
theorem pool_dif : difS2 poolS = true := by kernel_rfl
theorem pool_are : allS (fun x => isT (mF_is_name [.str x] [])) poolS = true := by kernel_rfl
theorem right : Right := fun a b ha hb μ => two_names (f := mP__law_right) (h := m_is_name) pool_names pool_dif (fun x hx μ => by
    obtain ⟨μ1, e⟩ := isT_of (allS_iff.mp pool_are x hx)
    rw [e_is_name] at e
    unfold vApart
    rw [if_pos (by simp [bareL, bareP]), e]
    exact if_pos (by simp [bareP])) (fun ν N h => q__law_right N h) (by rw [← l__law_right]; exact letters) a b ha hb μ
end G
namespace G
open PySem PySem.W PySem.Calls PyProof.Rows DL
abbrev R : OpenRow := OpenLaw.row PySem.Challenge.rw_lostmetres_k14_standings_by_hand
abbrev qv : Program := view R.prog [71]
def names0 : List PySem.Str := ["_wall", "MetreError", "BadTongue", "NoWord", "NoMetre", "BadMeasure", "BadRow", "LETTERS", "FIGURES", "BLANK", "FEED", "MOST_SIGNS", "LONG", "SHORT", "UNKNOWN", "EITHER", "is_word", "is_made_of", "is_name", "WORD", "JOINT", "METRE", "DROP", "MAY", "STRETCH", "ENDS", "AMID", "SLASH", "STAR", "MOST_WORDS"]
def names1 : List PySem.Str := ["MOST_SYLLABLES", "MOST_UNKNOWN", "MOST_JOINTS", "MOST_METRES", "MOST_PARTS", "MOST_DRAWN_OUT", "MOST_FORMS", "WORD_SIZE", "JOINT_SIZE", "METRE_SIZE", "forms_in", "parts_in", "metre_parts", "Reading", "read_lines", "Tongue", "BEGIN", "behind", "feet_begun", "stepped", "spoken", "Voice", "MOST_IN_ROW", "is_measure", "check_measure", "is_row", "check_row", "standing", "_law_pot", "_law_take"]
def names2 : List PySem.Str := ["_law_some", "_law_places", "_law_names", "_law_right"]
def names : List PySem.Str := names0 ++ names1 ++ names2
def adrs : List Addr := List.range 476
theorem run (w : World) : HandSHeadRun.RunEq R qv (hookN adrs exs fns) (obN adrs exs fns) 5000 names w := by
  intro os
  kernel_rfl
end G
namespace G
open PySem PySem.Spec PyProof.Rows L2 DL
/-- the start: the script's list at the first number -/
theorem start_of {P : Program} {w : World} {K : PySem.W.Frag} {H : Hp} {a : Addr} {ns : List Int} {F : VF} (nl : NoLst K) (only : Only H) (sq : SqL K H a (ns.map V.int))
    (h : ∀ o : MObj, o = .rol (ns.map .int) ∨ o = .lst (ns.map .int) → ∃ μ', F [.ref 0] [o] = .ok (.bl true) μ') : spD P w K 1 F [.ref a] H (fun v _ => v = .bl true) fun _ _ _ => False := by
  have rv : ∀ l : List Int, RVs K [a] H (l.map PV.int) (l.map V.int) := fun l => by
    induction l with
    | nil => exact .nil
    | cons x xs ih => exact .cons (.int x) ih
  have fin : ∀ o : MObj, o = .rol (ns.map .int) ∨ o = .lst (ns.map .int) → ObjR P w K [a] H a o → spD P w K 1 F [.ref a] H (fun v _ => v = .bl true) fun _ _ _ => False := fun o ho hr => by
    obtain ⟨μ', e⟩ := h o ho
    refine ⟨rfl, [a], [o], [.ref 0], .cons (.ref rfl) .nil, ⟨rfl, by simp, fun i b x hb hx => ?_⟩, ?_⟩
    · match i, hb, hx with
      | 0, hb, hx =>
        cases hb
        cases hx
        exact hr
      | i + 1, hb, hx => simp at hb
    · rw [e]
      intro ρ' x H' st r t
      cases r with
      | bl b => rfl
  rcases sq with (h1 | ⟨o, h1⟩) | ⟨o, its, n, h1, h2, _⟩
  · exact fin _ (.inr rfl) ⟨_, h1, rv ns⟩
  · exact fin _ (.inl rfl) ⟨o, _, h1, rv ns⟩
  · exact absurd h2 (nl a o h1)
end G
open PySem PySem.W PyProof.Rows
theorem PySem.Challenge.cw_lostmetres_k14_standings_by_hand_holds : PySem.Challenge.rw_lostmetres_k14_standings_by_hand.Holds := by
  w_on; o_law
  refine HandSHeadRun.head_any (r := OpenLaw.row PySem.Challenge.rw_lostmetres_k14_standings_by_hand) (q := G.qv) (H := DL.hookN G.adrs G.exs G.fns) (ob := DL.obN G.adrs G.exs G.fns) (M := 5000) (loose := G.names) (d := HandSHeadRun.topDef (OpenLaw.row PySem.Challenge.rw_lostmetres_k14_standings_by_hand).prog 71) (kwd := []) DL.obN_eq
    (by kernel_rfl) (fun s => by kernel_rfl) G.run (by kernel_rfl) (by kernel_rfl) (by kernel_rfl) (by rfl) (by first | assumption | decide +kernel) (by decide +kernel) ⟨rfl, rfl, rfl, rfl, rfl, by decide +kernel⟩ ?hw ?hc
  case hw => w_witness2
  case hc =>
    refine DL.walk_ofG (l := PySem.Challenge.rw_lostmetres_k14_standings_by_hand) (n := 63) (k := 11) (x := "_law_script") rfl (by decide) (by kernel_rfl) ⟨rfl, by decide, by decide⟩ ?F
    intro w mg fa h Y G0 hmg0
    obtain ⟨K, KX, nl, c⟩ := Y
    have hmg : mg ("law" : PySem.Str) = some (.ref fa) := by
      have e : (HandSHeadRun.topDef (OpenLaw.row PySem.Challenge.rw_lostmetres_k14_standings_by_hand).prog 71).name = ("law" : PySem.Str) := by kernel_rfl
      rw [← e]
      exact hmg0
    have T := G.fx_of KX G0 c
    have gl := G.glo_law KX G0 c
    have e := hmg.symm.trans gl
    cases e
    obtain ⟨fd, F⟩ := T.d_law
    have b := L2.FunD.bindsA (ps := ["_law_script"]) F fun _ _ _ _ _ _ us hl => match us, hl with | [_], _ => rfl
    exact ⟨K, fd, DL.spD _ w K 1 G.m_law, KX, fun s v => b s [v] rfl, fun H a ns hl only sq => G.start_of nl only sq fun o ho => G.law_ok G.right ns o ho, fun base _ _ => G.ok_law T F⟩
