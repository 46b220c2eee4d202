import PyProof.Rows.All
import Wide.All
import OpenK.AllK
import Wide.FinOn
import HandS.ForMost
import HandS.Flow
import HandS.Conv
import HandS.TupAny
import HandS.TupMul
import HandS.Style
import HandS.Zip
import KE.KeyNested
import KE.KDictKeyed
import HandS.Lambda
import HandS.Star
import HandS.NoneIn
import HandS.Property
import HandS.Wide
import HandS.Deep
import PyProof.Rows.RuleB_pow
import HandS.Dict
import HandS.ReCall
import HandS.TupLen
import KE.KExcIs
import HandS.IsInst
import KE.KDictDisplayH
import KE.GoesNew
import KE.GoesDict
import KE.GoesNewDict
import HandS.Iter
import HandS.TupSets
import KE.SortData
import PyProof.TupleOfStr
import HandS.ExcValue
import OpenK.KMeth
import HandS.Ends
import HandS.HeadEnd
import HandS.HeadNt
import HandS.Head2
import HandS.HeadHook4
import PyProof.ListStr
import KE.IntBitsLaws
import PyProof.StrLawsIn
import PyProof.StrLawsChain
import HandS.OwnEq
import HandS.Defaults
import KE.GoesZip
import KE.KItemsList
import KE.GoesEnum
import HandS.Codes
import PyProof.Rows.RegReprOcc
import KE.KDictPairs
import KE.KDictZip
import KE.GoesMore
import KE.KExcSuper
import HandS.ExcInit
import HandS.ExcIs
import HandS.ExcField
import HandS.EndTab
import HandS.Head0
import HandS.Head1
import KE.KStateDown
import PySem.Challenge.RW_lostmetres_k03_bounds_of_texts
set_option Elab.async false
set_option linter.all false
set_option maxRecDepth 100000
set_option maxHeartbeats 0
namespace DL
open PySem PySem.Spec PyProof.Rows L2
/-- a value: tuples are trees, what may change is told by its number -/
inductive PV where
  | non | bl (b : Bool) | int (i : Int) | str (x : Str) | tup (xs : List PV) | ref (i : Nat) | ty (n : String) | glb (a : Addr) | exc (C : Addr) (v : PV)
  deriving Inhabited
/-- what may change -/
inductive MObj where
  | lst (xs : List PV)
  | rol (xs : List PV)
  | dct (kvs : List (PV × PV))
  | ins (C : Addr) (fs : List (Str × PV))
  deriving Inhabited
abbrev Sto := List MObj
abbrev Env' := List (Option PV)
/-- how a reckoning ends -/
inductive Rz (α : Type) where
  | ok (a : α) (μ : Sto)
  | err (C : Addr) (v : PV) (μ : Sto)
  | bad
namespace Rz
def bind {α β : Type} (r : Rz α) (f : α → Sto → Rz β) : Rz β := match r with
  | .ok a μ => f a μ
  | .err C v μ => .err C v μ
  | .bad => .bad
@[simp] theorem bind_ok {α β : Type} (a : α) (μ : Sto) (f : α → Sto → Rz β) : (Rz.ok a μ).bind f = f a μ := rfl
@[simp] theorem bind_err {α β : Type} (C : Addr) (v : PV) (μ : Sto) (f : α → Sto → Rz β) : (Rz.err C v μ).bind f = Rz.err C v μ := rfl
@[simp] theorem bind_bad {α β : Type} (f : α → Sto → Rz β) : (Rz.bad : Rz α).bind f = Rz.bad := rfl
end Rz
mutual
def bareP : PV → Bool
  | .ref _ => false
  | .tup ps => bareL ps
  | .exc _ v => bareP v
  | _ => true
def bareL : List PV → Bool
  | [] => true
  | p :: ps => bareP p && bareL ps
end
section
variable (K : PySem.W.Frag) (ρ : List Addr) (H : Hp)
mutual
/-- a value of trees lies in the heap as the layer's value -/
inductive RV : PV → V → Prop
  | non : RV .non .non
  | bl (b : Bool) : RV (.bl b) (.bl b)
  | int (i : Int) : RV (.int i) (.int i)
  | str (x : Str) : RV (.str x) (.str x)
  | ty (n : String) : RV (.ty n) (.ty n)
  | glb (a : Addr) : RV (.glb a) (.ref a)
  | ref {i : Nat} {a : Addr} : ρ[i]? = some a → RV (.ref i) (.ref a)
  | tup {ps : List PV} {vs : List V} {a : Addr} : SqT K H a vs → RVs ps vs → RV (.tup ps) (.ref a)
  | exc {C a d : Addr} {oe od : Obj} {fs : Array Value} {p : PV} {x : V} : H a = some (.frz oe (.own a)) → oe.cls = .ref C → oe.dict = some d → oe.data = .fields fs → H d = some (.frz od (.xd [("value", x)])) → RV p x → RV (.exc C p) (.ref a)
inductive RVs : List PV → List V → Prop
  | nil : RVs [] []
  | cons {p : PV} {v : V} {ps : List PV} {vs : List V} : RV p v → RVs ps vs → RVs (p :: ps) (v :: vs)
end
end
mutual
theorem bare_rv {K : PySem.W.Frag} {ρ ρ' : List Addr} {H : Hp} : ∀ {p : PV} {v : V}, bareP p = true → RV K ρ H p v → RV K ρ' H p v
  | _, _, _, .non => .non
  | _, _, _, .bl b => .bl b
  | _, _, _, .int i => .int i
  | _, _, _, .str x => .str x
  | _, _, _, .ty n => .ty n
  | _, _, _, .glb a => .glb a
  | _, _, h, .ref _ => by cases h
  | _, _, h, .tup e r => .tup e (bare_rvs (by rw [bareP] at h; exact h) r)
  | _, _, h, .exc e1 e2 e3 e4 e5 r => .exc e1 e2 e3 e4 e5 (bare_rv (by rw [bareP] at h; exact h) r)
theorem bare_rvs {K : PySem.W.Frag} {ρ ρ' : List Addr} {H : Hp} : ∀ {ps : List PV} {vs : List V}, bareL ps = true → RVs K ρ H ps vs → RVs K ρ' H ps vs
  | _, _, _, .nil => .nil
  | _, _, h, .cons r t => by
    rw [bareL, Bool.and_eq_true] at h
    exact .cons (bare_rv h.1 r) (bare_rvs h.2 t)
end
/-- a dict by its very object -/
abbrev dO (a : Addr) (o : Obj) : HO := .ext fun h => h.get? a = some o
/-- dicts grow, and where they do not, their keys stay -/
def DKeep (H H' : Hp) : Prop := ∀ b o es ep, H b = some (dO b o) → o.data = .dict es ep → ∃ o' es' ep', H' b = some (dO b o') ∧ o'.data = .dict es' ep' ∧ es.size ≤ es'.size ∧ (es'.size = es.size → ep' = ep)
/-- what is written at a is no dict, or the dict grown -/
def DW (H : Hp) (a : Addr) (u : HO) : Prop := ∀ o es ep, H a = some (dO a o) → o.data = .dict es ep → ∃ o' es' ep', u = dO a o' ∧ o'.data = .dict es' ep' ∧ es.size ≤ es'.size ∧ (es'.size = es.size → ep' = ep)
theorem DKeep.refl {H : Hp} : DKeep H H := fun b o es ep h e => ⟨o, es, ep, h, e, Nat.le_refl _, fun _ => rfl⟩
theorem DKeep.trans {H H1 H2 : Hp} (a : DKeep H H1) (b : DKeep H1 H2) : DKeep H H2 := fun x o es ep h e => by
  obtain ⟨o1, es1, ep1, h1, e1, l1, k1⟩ := a x o es ep h e
  obtain ⟨o2, es2, ep2, h2, e2, l2, k2⟩ := b x o1 es1 ep1 h1 e1
  refine ⟨o2, es2, ep2, h2, e2, Nat.le_trans l1 l2, fun z => ?_⟩
  rw [k2 (by omega), k1 (by omega)]
theorem DKeep.upd {H : Hp} {p : Addr} {u : HO} (hd : DW H p u) : DKeep H (upd H p u) := fun b o es ep h e => by
  by_cases c : b = p
  · subst c
    obtain ⟨o', es', ep', h1, h2⟩ := hd o es ep h e
    exact ⟨o', es', ep', by rw [upd_same, h1], h2⟩
  · exact ⟨o, es, ep, by rw [upd_ne c]; exact h, e, Nat.le_refl _, fun _ => rfl⟩
theorem DW.none {H : Hp} {a : Addr} {u : HO} (h : H a = none) : DW H a u := fun o es ep e => by rw [h] at e; cases e
theorem DW.lst {H : Hp} {a : Addr} {u : HO} {vs : List V} (h : H a = some (.lst vs)) : DW H a u := fun o es ep e => by rw [h] at e; cases e
theorem DW.ins {H : Hp} {a C dx : Addr} {u : HO} {gs : List (Str × V)} (h : H a = some (.ins C dx gs)) : DW H a u := fun o es ep e => by rw [h] at e; cases e
/-- the tables of code objects that are left out of the written part: of code for what is made within a def -/
def tabK (K : PySem.W.Frag) (p : Addr × Obj) : Option (Addr × Str) := match p.2.cls, p.2.data with
  | .type t, .fields vs => if t = "code" then match (vs[11]? : Option Value), (vs[1]? : Option Value) with
    | some (Value.ref P), some (Value.str q _) => match K.lookup P with
      | none => some (P, q ++ ".<locals>." ++ "<lambda>")
      | some _ => none
    | _, _ => none
    else none
  | _, _ => none
def tabsK (K : PySem.W.Frag) : List (Addr × Str) := K.filterMap (tabK K)
/-- no table of code objects -/
def NT (o : HO) : Prop := ∀ ps, o ≠ .tbl ps
/-- at P, without a number, stands a table of code objects, all of the name q, none with a number -/
structure TabR (ρ : List Addr) (H : Hp) (P : Addr) (q : Str) : Prop where
  un : P ∉ ρ
  ex : ∃ ps : Array Value, H P = some (.tbl ps) ∧ TriplesOk ps.toList ∧ ∀ (pos : Pos) (cv : Value), codeAmong pos ps.toList = some cv → ∃ c, (cv = .ref c ∧ c ∉ ρ) ∧ H c = some (LamX.CodeO c q)
theorem TabR.to {ρ ρ' : List Addr} {H H' : Hp} {P : Addr} {q : Str} (h : TabR ρ H P q) (n : ∀ x, x ∉ ρ → H x ≠ none → x ∉ ρ') (k : ∀ x o, x ∉ ρ → H x = some o → (o = LamX.CodeO x q ∨ ∃ ps, o = .tbl ps) → H' x = some o) : TabR ρ' H' P q := by
  obtain ⟨un, ps, e, tr, cs⟩ := h
  refine ⟨n P un (by rw [e]; exact fun z => nomatch z), ps, k P _ un e (.inr ⟨ps, rfl⟩), tr, fun pos cv hc => ?_⟩
  obtain ⟨c, ⟨e1, e2⟩, e3⟩ := cs pos cv hc
  exact ⟨c, ⟨e1, n c e2 (by rw [e3]; exact fun z => nomatch z)⟩, k c _ e2 e3 (.inl rfl)⟩
/-- a dict is no code object -/
theorem dO_code {p : Addr} {o : Obj} {q : Str} {es : Array DictEntry} {ep : Nat} (h : o.data = .dict es ep) : dO p o ≠ LamX.CodeO p q := fun z => by
  have z2 : (fun h : Heap => h.get? p = some o) = (fun h => ∃ (oc : Obj) (vs : Array Value) (t : Tok), h.get? p = some oc ∧ oc.data = .fields vs ∧ vs[1]? = some (.str q t)) := HO.ext.inj z
  have g : (⟨Array.replicate (p + 1) o, default⟩ : Heap).get? p = some o := by
    obtain ⟨c, d, dt, sl⟩ := o
    have h : dt = .dict es ep := h
    subst h
    unfold Heap.get?
    rw [Array.getElem?_replicate, if_pos (Nat.lt_succ_self p)]
  obtain ⟨oc, vs, t, e, d, _⟩ := (congrFun z2 _).mp g
  rw [g] at e
  cases e
  rw [h] at d
  cases d
/-- neither a code object nor a table -/
def NC (D : Addr) (o : HO) : Prop := (∀ q, o ≠ LamX.CodeO D q) ∧ NT o
theorem nc_lst {D : Addr} {vs : List V} : NC D (.lst vs) := ⟨fun q z => (by have z' : HO.lst vs = HO.ext _ := z; cases z'), fun _ z => nomatch z⟩
theorem nc_ins {D C dx : Addr} {gs : List (Str × V)} : NC D (.ins C dx gs) := ⟨fun q z => (by have z' : HO.ins C dx gs = HO.ext _ := z; cases z'), fun _ z => nomatch z⟩
theorem nc_frz {D : Addr} {o : Obj} {u : HO} : NC D (.frz o u) := ⟨fun q z => (by have z' : HO.frz o u = HO.ext _ := z; cases z'), fun _ z => nomatch z⟩
theorem nc_dct {D : Addr} {o : Obj} {es : Array DictEntry} {ep : Nat} (h : o.data = .dict es ep) : NC D (dO D o) := ⟨fun _ => dO_code h, fun _ z => nomatch z⟩
theorem NC.code {D : Addr} {o : HO} {H : Hp} (n : NC D o) (h : H D = some o) (q : Str) : H D ≠ some (LamX.CodeO D q) := fun z => n.1 q (Option.some.inj (h.symm.trans z))
theorem TabR.num {ρ : List Addr} {H : Hp} {P D : Addr} {q : Str} {o : HO} (h : TabR ρ H P q) (e : H D = some o) (n : NC D o) : TabR (ρ ++ [D]) H P q := by
  obtain ⟨un, ps, e1, tr, cs⟩ := h
  have out : ∀ x, x ∉ ρ → x ≠ D → x ∉ ρ ++ [D] := fun x h1 h2 hm => (List.mem_append.mp hm).elim h1 fun z => h2 (List.mem_singleton.mp z)
  refine ⟨out P un fun z => n.2 ps (by rw [z, e] at e1; exact Option.some.inj e1), ps, e1, tr, fun pos cv hc => ?_⟩
  obtain ⟨c, ⟨a1, a2⟩, a3⟩ := cs pos cv hc
  exact ⟨c, ⟨a1, out c a2 fun z => n.1 q (by rw [z, e] at a3; exact Option.some.inj a3)⟩, a3⟩
theorem TabR.sub {ρ ρ2 : List Addr} {H : Hp} {P : Addr} {q : Str} (h : TabR ρ H P q) (hs : ∀ x ∈ ρ2, x ∈ ρ) : TabR ρ2 H P q := by
  obtain ⟨un, ps, e1, tr, cs⟩ := h
  refine ⟨fun z => un (hs _ z), ps, e1, tr, fun pos cv hc => ?_⟩
  obtain ⟨c, ⟨a1, a2⟩, a3⟩ := cs pos cv hc
  exact ⟨c, ⟨a1, fun z => a2 (hs _ z)⟩, a3⟩
theorem TabR.renum {ρ ρ2 : List Addr} {H : Hp} {P : Addr} {q : Str} (h : TabR ρ H P q) (hs : ∀ x ∈ ρ2, ∃ u, H x = some u ∧ NC x u) : TabR ρ2 H P q := by
  obtain ⟨un, ps, e1, tr, cs⟩ := h
  refine ⟨fun z => ?_, ps, e1, tr, fun pos cv hc => ?_⟩
  · obtain ⟨u, e, n⟩ := hs _ z
    rw [e1] at e
    exact n.2 ps (Option.some.inj e).symm
  · obtain ⟨c, ⟨a1, a2⟩, a3⟩ := cs pos cv hc
    refine ⟨c, ⟨a1, fun z => ?_⟩, a3⟩
    obtain ⟨u, e, n⟩ := hs _ z
    rw [a3] at e
    exact n.1 q (Option.some.inj e).symm
/-- from one state to a later one -/
structure Step (K : PySem.W.Frag) (ρ : List Addr) (H : Hp) (ρ' : List Addr) (H' : Hp) : Prop where
  ext : ∃ more, ρ' = ρ ++ more ∧ ∀ p ∈ more, ∀ o, H p = some o → ¬ NT o
  keep : ∀ b o, H b = some o → b ∉ ρ → NT o → H' b = some o
  tup : ∀ b xs, SqT K H b xs → SqT K H' b xs
  live : ∀ b o, H b = some o → NT o → ∃ o', H' b = some o' ∧ NT o'
  dct : DKeep H H'
  fz : ∀ b o u, H b = some (.frz o u) → H' b = some (.frz o u)
  tbl : ∀ p ∈ tabsK K, TabR ρ H p.1 p.2 → TabR ρ' H' p.1 p.2
theorem Step.refl {K : PySem.W.Frag} {ρ : List Addr} {H : Hp} : Step K ρ H ρ H :=
  ⟨⟨[], (List.append_nil ρ).symm, fun _ h => by cases h⟩, fun _ _ h _ _ => h, fun _ _ h => h, fun _ o h n => ⟨o, h, n⟩, DKeep.refl, fun _ _ _ h => h, fun _ _ h => h⟩
theorem Step.trans {K : PySem.W.Frag} {ρ ρ1 ρ2 : List Addr} {H H1 H2 : Hp} (a : Step K ρ H ρ1 H1) (b : Step K ρ1 H1 ρ2 H2) : Step K ρ H ρ2 H2 := by
  obtain ⟨m1, e1, f1⟩ := a.ext
  obtain ⟨m2, e2, f2⟩ := b.ext
  refine ⟨⟨m1 ++ m2, by rw [e2, e1, List.append_assoc], fun p hp o ho no => ?_⟩, fun c o h hn nt => ?_, fun c xs h => b.tup c xs (a.tup c xs h), fun c o h n => (let ⟨o1, h1, n1⟩ := a.live c o h n; b.live c o1 h1 n1), a.dct.trans b.dct, fun c o u h => b.fz c o u (a.fz c o u h), fun p hp h => b.tbl p hp (a.tbl p hp h)⟩
  · rcases List.mem_append.mp hp with hp | hp
    · exact f1 p hp o ho no
    · obtain ⟨o1, h1, n1⟩ := a.live p o ho no
      exact f2 p hp o1 h1 n1
  · refine b.keep c o (a.keep c o h hn nt) (fun hc => ?_) nt
    rw [e1] at hc
    rcases List.mem_append.mp hc with hc | hc
    · exact hn hc
    · exact f1 c hc o h nt
theorem Step.get {K : PySem.W.Frag} {ρ ρ' : List Addr} {H H' : Hp} (a : Step K ρ H ρ' H') {i : Nat} {x : Addr} (h : ρ[i]? = some x) : ρ'[i]? = some x := by
  obtain ⟨m, e, _⟩ := a.ext
  rw [e, List.getElem?_append_left (List.getElem?_eq_some_iff.mp h).1]
  exact h
section
variable {K : PySem.W.Frag} {ρ ρ' : List Addr} {H H' : Hp}
/-- what values lean on -/
structure Grow (K : PySem.W.Frag) (ρ : List Addr) (H : Hp) (ρ' : List Addr) (H' : Hp) : Prop where
  get : ∀ (i : Nat) (x : Addr), ρ[i]? = some x → ρ'[i]? = some x
  tup : ∀ b xs, SqT K H b xs → SqT K H' b xs
  dct : DKeep H H'
  fz : ∀ b o u, H b = some (.frz o u) → H' b = some (.frz o u)
theorem Step.grow (st : Step K ρ H ρ' H') : Grow K ρ H ρ' H' := ⟨fun i x h => st.get h, st.tup, st.dct, st.fz⟩
mutual
theorem RV.grow (st : Grow K ρ H ρ' H') : ∀ {p : PV} {v : V}, RV K ρ H p v → RV K ρ' H' p v
  | _, _, .non => .non
  | _, _, .bl b => .bl b
  | _, _, .int i => .int i
  | _, _, .str x => .str x
  | _, _, .ty n => .ty n
  | _, _, .glb a => .glb a
  | _, _, .ref h => .ref (st.get _ _ h)
  | _, _, .tup h r => .tup (st.tup _ _ h) (RVs.grow st r)
  | _, _, .exc e1 e2 e3 e4 e5 r => .exc (st.fz _ _ _ e1) e2 e3 e4 (st.fz _ _ _ e5) (RV.grow st r)
theorem RVs.grow (st : Grow K ρ H ρ' H') : ∀ {ps : List PV} {vs : List V}, RVs K ρ H ps vs → RVs K ρ' H' ps vs
  | _, _, .nil => .nil
  | _, _, .cons r t => .cons (RV.grow st r) (RVs.grow st t)
end
theorem RV.step (st : Step K ρ H ρ' H') {p : PV} {v : V} (h : RV K ρ H p v) : RV K ρ' H' p v := h.grow st.grow
theorem RVs.step (st : Step K ρ H ρ' H') {p : List PV} {v : List V} (h : RVs K ρ H p v) : RVs K ρ' H' p v := h.grow st.grow
theorem RVs.length : ∀ {ps : List PV} {vs : List V}, RVs K ρ H ps vs → ps.length = vs.length
  | _, _, .nil => rfl
  | _, _, .cons _ t => by rw [List.length_cons, List.length_cons, RVs.length t]
theorem RVs.get : ∀ {ps : List PV} {vs : List V} {i : Nat} {p : PV}, RVs K ρ H ps vs → ps[i]? = some p → ∃ v, vs[i]? = some v ∧ RV K ρ H p v
  | _, _, i, p, .nil, e => by simp at e
  | _, _, 0, p, .cons r _, e => by simp at e; subst e; exact ⟨_, rfl, r⟩
  | _, _, i + 1, p, .cons _ t, e => by
    obtain ⟨v, h1, h2⟩ := RVs.get (i := i) (p := p) t (by simpa using e)
    exact ⟨v, by simpa using h1, h2⟩
theorem RVs.append : ∀ {ps qs : List PV} {vs ws : List V}, RVs K ρ H ps vs → RVs K ρ H qs ws → RVs K ρ H (ps ++ qs) (vs ++ ws)
  | _, _, _, _, .nil, s => s
  | _, _, _, _, .cons r t, s => .cons r (RVs.append t s)
theorem RVs.take : ∀ {ps : List PV} {vs : List V} (n : Nat), RVs K ρ H ps vs → RVs K ρ H (ps.take n) (vs.take n)
  | _, _, 0, _ => .nil
  | _, _, _ + 1, .nil => .nil
  | _, _, n + 1, .cons r t => .cons r (RVs.take n t)
theorem RVs.drop : ∀ {ps : List PV} {vs : List V} (n : Nat), RVs K ρ H ps vs → RVs K ρ H (ps.drop n) (vs.drop n)
  | _, _, 0, r => r
  | _, _, _ + 1, .nil => .nil
  | _, _, n + 1, .cons _ t => RVs.drop n t
theorem RVs.set {p : PV} {v : V} (r : RV K ρ H p v) : ∀ {ps : List PV} {vs : List V} (i : Nat), RVs K ρ H ps vs → RVs K ρ H (ps.set i p) (vs.set i v)
  | _, _, _, .nil => .nil
  | _, _, 0, .cons _ t => .cons r t
  | _, _, i + 1, .cons q t => .cons q (RVs.set r i t)
theorem RVs.eraseIdx : ∀ {ps : List PV} {vs : List V} (i : Nat), RVs K ρ H ps vs → RVs K ρ H (ps.eraseIdx i) (vs.eraseIdx i)
  | _, _, _, .nil => .nil
  | _, _, 0, .cons _ t => t
  | _, _, i + 1, .cons q t => .cons q (RVs.eraseIdx i t)
theorem RVs.reverse : ∀ {ps : List PV} {vs : List V}, RVs K ρ H ps vs → RVs K ρ H ps.reverse vs.reverse
  | _, _, .nil => .nil
  | _, _, .cons r t => by
    rw [List.reverse_cons, List.reverse_cons]
    exact RVs.append (RVs.reverse t) (.cons r .nil)
theorem RVs.replicate {ps : List PV} {vs : List V} (r : RVs K ρ H ps vs) : ∀ n : Nat, RVs K ρ H (List.replicate n ps).flatten (List.replicate n vs).flatten
  | 0 => .nil
  | n + 1 => by
    rw [List.replicate_succ, List.replicate_succ, List.flatten_cons, List.flatten_cons]
    exact RVs.append r (RVs.replicate r n)
theorem RVs.dropLast : ∀ {ps : List PV} {vs : List V}, RVs K ρ H ps vs → RVs K ρ H ps.dropLast vs.dropLast
  | _, _, .nil => .nil
  | _, _, .cons r .nil => .nil
  | _, _, .cons r (.cons q t) => by
    rw [List.dropLast_cons₂, List.dropLast_cons₂]
    exact .cons r (RVs.dropLast (.cons q t))
end
/-- a key that is carried by value; a key of trees -/
def pvK : Key → PV
  | .inl i => .int i
  | .inr x => .str x
mutual
def pvN : NestedKey → PV
  | .none => .non
  | .num i => .int i
  | .text x => .str x
  | .tup ks => .tup (pvNs ks)
def pvNs : List NestedKey → List PV
  | [] => []
  | k :: ks => pvN k :: pvNs ks
end
section
variable (P : Program) (w : World) (K : PySem.W.Frag) (ρ : List Addr) (H : Hp)
/-- a value of a dict -/
def RVal (p : PV) (u : Value) : Prop := ∃ v, RelV v u ∧ RV K ρ H p v
/-- the object o is the dict of these pairs: keys by value, or keys that are tuples -/
def DObj (o : Obj) (kvs : List (PV × PV)) : Prop :=
  o.ExactDict ∧ kvs.length ≤ sizeLine ∧ ∃ es ep, o.data = .dict es ep ∧
    ((∃ vs : List (Key × Value), KeysOf (mixKind P w) es ∧ Pairs (mixKind P w) es.toList vs ∧ (vs.map (·.1)).Nodup ∧
        Paired (fun (p : PV × PV) (q : Key × Value) => p.1 = pvK q.1 ∧ RVal K ρ H p.2 q.2) kvs vs) ∨
     (∃ xs : List (NestedKey × Addr × Value), es.toList = xs.map (entryOfKey (nestedKind P w)) ∧ (xs.map (·.1)).Nodup ∧
        Paired (fun (p : PV × PV) (q : NestedKey × Addr × Value) => p.1 = pvN q.1 ∧ q.1.depth ≤ 8 ∧ RV K ρ H p.1 (.ref q.2.1) ∧ RVal K ρ H p.2 q.2.2) kvs xs))
/-- the abstract object lies at a -/
def ObjR (a : Addr) : MObj → Prop
  | .lst ps => ∃ vs, H a = some (.lst vs) ∧ RVs K ρ H ps vs
  | .rol ps => ∃ vs, (H a = some (.lst vs) ∨ ∃ o, H a = some (.frz o (.lst vs))) ∧ RVs K ρ H ps vs ∧ bareL ps = true
  | .dct kvs => ∃ o, H a = some (.ext fun h => h.get? a = some o) ∧ (a == sysModules) = false ∧ DObj P w K ρ H o kvs
  | .ins C fs => ∃ dx gs, H a = some (.ins C dx gs) ∧ gs.map (·.1) = fs.map (·.1) ∧ RVs K ρ H (fs.map (·.2)) (gs.map (·.2))
/-- the store lies in the heap -/
structure RSt (μ : Sto) : Prop where
  len : μ.length = ρ.length
  nd : ρ.Nodup
  obj : ∀ (i : Nat) (a : Addr) (o : MObj), ρ[i]? = some a → μ[i]? = some o → ObjR P w K ρ H a o
  tab : ∀ p ∈ tabsK K, TabR ρ H p.1 p.2
/-- the frame's slots hold these -/
def REnv (η : Env') (σ : L2.St) : Prop := η.length = σ.length ∧ ∀ (i : Nat) (p : PV), η[i]? = some (some p) → ∃ v, σ[i]? = some (some v) ∧ RV K ρ H p v
end
section
variable {P : Program} {w : World} {K : PySem.W.Frag} {ρ ρ' : List Addr} {H H' : Hp}
theorem RVal.step (st : Grow K ρ H ρ' H') {p : PV} {u : Value} (h : RVal K ρ H p u) : RVal K ρ' H' p u :=
  let ⟨v, r, q⟩ := h
  ⟨v, r, q.grow st⟩
theorem DObj.step (st : Grow K ρ H ρ' H') {o : Obj} {kvs : List (PV × PV)} (h : DObj P w K ρ H o kvs) : DObj P w K ρ' H' o kvs := by
  obtain ⟨x, z, es, ep, e, h⟩ := h
  refine ⟨x, z, es, ep, e, ?_⟩
  rcases h with ⟨vs, a, b, c, d⟩ | ⟨xs, a, b, d⟩
  · exact .inl ⟨vs, a, b, c, Paired.mapP d fun p q h => ⟨h.1, h.2.step st⟩⟩
  · exact .inr ⟨xs, a, b, Paired.mapP d fun p q h => ⟨h.1, h.2.1, h.2.2.1.grow st, h.2.2.2.step st⟩⟩
theorem ObjR.step (st : Grow K ρ H ρ' H') {a : Addr} {o : MObj} (e : ∀ u, H a = some u → H' a = some u) (h : ObjR P w K ρ H a o) : ObjR P w K ρ' H' a o := by
  cases o with
  | lst ps =>
    obtain ⟨vs, h1, h2⟩ := h
    exact ⟨vs, e _ h1, h2.grow st⟩
  | rol ps =>
    obtain ⟨vs, h1, h2, h3⟩ := h
    exact ⟨vs, h1.imp (e _) fun ⟨o, h⟩ => ⟨o, e _ h⟩, h2.grow st, h3⟩
  | dct kvs =>
    obtain ⟨o, h1, h2, h3⟩ := h
    exact ⟨o, e _ h1, h2, h3.step st⟩
  | ins C fs =>
    obtain ⟨dx, gs, h1, h2, h3⟩ := h
    exact ⟨dx, gs, e _ h1, h2, h3.grow st⟩
theorem ObjR.there {a : Addr} {o : MObj} (h : ObjR P w K ρ H a o) : H a ≠ none := by
  intro z
  cases o with
  | lst ps =>
    obtain ⟨vs, h1, h2⟩ := h
    rw [z] at h1; cases h1
  | rol ps =>
    obtain ⟨vs, h1 | ⟨o, h1⟩, h2⟩ := h
    · rw [z] at h1; cases h1
    · rw [z] at h1; cases h1
  | dct kvs =>
    obtain ⟨o, h1, h2, h3⟩ := h
    rw [z] at h1; cases h1
  | ins C fs =>
    obtain ⟨dx, gs, h1, h2, h3⟩ := h
    rw [z] at h1; cases h1
theorem REnv.grow (st : Grow K ρ H ρ' H') {η : Env'} {σ : L2.St} (h : REnv K ρ H η σ) : REnv K ρ' H' η σ :=
  ⟨h.1, fun i p e =>
    let ⟨v, e1, r⟩ := h.2 i p e
    ⟨v, e1, r.grow st⟩⟩
theorem REnv.step (st : Step K ρ H ρ' H') {η : Env'} {σ : L2.St} (h : REnv K ρ H η σ) : REnv K ρ' H' η σ := h.grow st.grow
theorem REnv.set {η : Env'} {σ : L2.St} (h : REnv K ρ H η σ) {p : PV} {v : V} (r : RV K ρ H p v) (i : Nat) : REnv K ρ H (η.set i (some p)) (σ.set i (some v)) := by
  refine ⟨by rw [List.length_set, List.length_set]; exact h.1, fun j q e => ?_⟩
  by_cases hj : i = j
  · subst hj
    by_cases hl : i < η.length
    · rw [List.getElem?_set_self hl] at e
      cases e
      exact ⟨v, List.getElem?_set_self (h.1 ▸ hl), r⟩
    · rw [List.getElem?_eq_none (by rw [List.length_set]; exact Nat.le_of_not_lt hl)] at e
      cases e
  · rw [List.getElem?_set_ne hj] at e ⊢
    exact h.2 j q e
/-- a tuple is laid -/
theorem Step.tupNew {p : Addr} {vs : List V} (hp : H p = none) : Step K ρ H ρ (upd H p (.tup vs)) := by
  have ne : ∀ b o, H b = some o → b ≠ p := fun b o h => ne_of_none h hp
  refine ⟨⟨[], (List.append_nil ρ).symm, fun _ h => by cases h⟩, fun b o h _ _ => ?_, fun b xs h => ?_, fun b o h no => ?_, DKeep.upd (DW.none hp), fun b o u h => by rw [upd_ne (ne b _ h)]; exact h, fun q _ h => h.to (fun x hx hn => hx) fun x o _ h _ => by rw [upd_ne (ne x _ h)]; exact h⟩
  · rw [upd_ne (ne b o h)]
    exact h
  · rcases h with (h | ⟨o, h⟩) | h
    · exact .inl (.inl (by rw [upd_ne (ne b _ h)]; exact h))
    · exact .inl (.inr ⟨o, by rw [upd_ne (ne b _ h)]; exact h⟩)
    · exact .inr h
  · exact ⟨o, by rw [upd_ne (ne b _ h)]; exact h, no⟩
/-- any new object is laid; it gets the next number, or none -/
theorem Step.new {p : Addr} {u : HO} (hp : H p = none) : Step K ρ H (ρ ++ [p]) (upd H p u) := by
  have ne : ∀ b o, H b = some o → b ≠ p := fun b o h => ne_of_none h hp
  refine ⟨⟨[p], rfl, fun q h o ho => by rw [List.mem_singleton.mp h, hp] at ho; cases ho⟩, fun b o h _ _ => ?_, fun b xs h => ?_, fun b o h no => ?_, DKeep.upd (DW.none hp), fun b o u h => by rw [upd_ne (ne b _ h)]; exact h, fun q _ h => h.to (fun x hx hn => fun hm => (List.mem_append.mp hm).elim hx fun z => hn (by rw [List.mem_singleton.mp z]; exact hp)) fun x o _ h _ => by rw [upd_ne (ne x _ h)]; exact h⟩
  · rw [upd_ne (ne b o h)]
    exact h
  · rcases h with (h | ⟨o, h⟩) | h
    · exact .inl (.inl (by rw [upd_ne (ne b _ h)]; exact h))
    · exact .inl (.inr ⟨o, by rw [upd_ne (ne b _ h)]; exact h⟩)
    · exact .inr h
  · exact ⟨o, by rw [upd_ne (ne b _ h)]; exact h, no⟩
theorem Step.quiet {p : Addr} {u : HO} (hp : H p = none) : Step K ρ H ρ (upd H p u) := by
  have ne : ∀ b o, H b = some o → b ≠ p := fun b o h => ne_of_none h hp
  refine ⟨⟨[], (List.append_nil ρ).symm, fun _ h => by cases h⟩, fun b o h _ _ => ?_, fun b xs h => ?_, fun b o h no => ?_, DKeep.upd (DW.none hp), fun b o u h => by rw [upd_ne (ne b _ h)]; exact h, fun q _ h => h.to (fun x hx hn => hx) fun x o _ h _ => by rw [upd_ne (ne x _ h)]; exact h⟩
  · rw [upd_ne (ne b o h)]
    exact h
  · rcases h with (h | ⟨o, h⟩) | h
    · exact .inl (.inl (by rw [upd_ne (ne b _ h)]; exact h))
    · exact .inl (.inr ⟨o, by rw [upd_ne (ne b _ h)]; exact h⟩)
    · exact .inr h
  · exact ⟨o, by rw [upd_ne (ne b _ h)]; exact h, no⟩
/-- an object with a number is written -/
theorem Step.write {a : Addr} {u : HO} (ha : a ∈ ρ) (hm : Mut (H a)) (hd : DW H a u) (nu : NT u := by exact fun _ z => nomatch z) : Step K ρ H ρ (upd H a u) := by
  have ht : ∀ b o, H b = some o → ¬ Mut (some o) → b ≠ a := fun b o h n e => by
    subst e
    rw [h] at hm
    exact n hm
  refine ⟨⟨[], (List.append_nil ρ).symm, fun _ h => by cases h⟩, fun b o h hn _ => ?_, fun b xs h => ?_, fun b o h no => ?_, DKeep.upd hd, fun b o u h => by rw [upd_ne (ht b _ h fun z => z)]; exact h, fun p _ h => h.to (fun x hx _ => hx) fun x o hx h _ => by rw [upd_ne fun e => hx (by rw [e]; exact ha)]; exact h⟩
  · rw [upd_ne fun e => hn (by rw [e]; exact ha)]
    exact h
  · rcases h with (h | ⟨o, h⟩) | h
    · exact .inl (.inl (by rw [upd_ne (ht b _ h fun z => z)]; exact h))
    · exact .inl (.inr ⟨o, by rw [upd_ne (ht b _ h fun z => z)]; exact h⟩)
    · exact .inr h
  · by_cases e : b = a
    · subst e
      exact ⟨u, upd_same, nu⟩
    · exact ⟨o, by rw [upd_ne e]; exact h, no⟩
end
section
variable {P : Program} {w : World} {K : PySem.W.Frag} {ρ ρ' : List Addr} {H H' : Hp} {μ : Sto}
theorem RSt.at (s : RSt P w K ρ H μ) {i : Nat} {a : Addr} {o : MObj} (ha : ρ[i]? = some a) (h : μ[i]? = some o) : ObjR P w K ρ H a o := s.obj i a o ha h
theorem ObjR.nc {a : Addr} {o : MObj} (h : ObjR P w K ρ H a o) : ∃ u, H a = some u ∧ NC a u := by
  cases o with
  | lst ps =>
    obtain ⟨vs, h1, _⟩ := h
    exact ⟨_, h1, nc_lst⟩
  | rol ps =>
    obtain ⟨vs, h1 | ⟨o, h1⟩, _⟩ := h
    · exact ⟨_, h1, nc_lst⟩
    · exact ⟨_, h1, nc_frz⟩
  | dct kvs =>
    obtain ⟨o, h1, _, h3⟩ := h
    obtain ⟨_, _, es, ep, e, _⟩ := h3
    exact ⟨_, h1, nc_dct e⟩
  | ins C fs =>
    obtain ⟨dx, gs, h1, _⟩ := h
    exact ⟨_, h1, nc_ins⟩
theorem RSt.nc (s : RSt P w K ρ H μ) {a : Addr} (h : a ∈ ρ) : ∃ u, H a = some u ∧ NC a u := by
  obtain ⟨i, hi, e⟩ := List.getElem_of_mem h
  have e1 : ρ[i]? = some a := by rw [List.getElem?_eq_getElem hi, e]
  have hl : i < μ.length := by rw [s.len]; exact hi
  exact (s.obj i a _ e1 (List.getElem?_eq_getElem hl)).nc
theorem RSt.there (s : RSt P w K ρ H μ) {a : Addr} (h : a ∈ ρ) : H a ≠ none := by
  obtain ⟨i, hi, e⟩ := List.getElem_of_mem h
  have e1 : ρ[i]? = some a := by rw [List.getElem?_eq_getElem hi, e]
  have hl : i < μ.length := by rw [s.len]; exact hi
  exact (s.obj i a _ e1 (List.getElem?_eq_getElem hl)).there
theorem RSt.fresh (s : RSt P w K ρ H μ) {p : Addr} (h : H p = none) : p ∉ ρ := fun hp => s.there hp h
/-- nothing with a number changed -/
theorem RSt.keep (s : RSt P w K ρ H μ) (st : Step K ρ H ρ H') (e : ∀ a ∈ ρ, H' a = H a) : RSt P w K ρ H' μ :=
  ⟨s.len, s.nd, fun i a o ha ho => (s.obj i a o ha ho).step st.grow fun u h => (e a (List.mem_of_getElem? ha)).trans h, fun p hp => st.tbl _ hp (s.tab p hp)⟩
/-- a new untold object -/
theorem RSt.quiet (s : RSt P w K ρ H μ) {p : Addr} {u : HO} (hp : H p = none) : RSt P w K ρ (upd H p u) μ :=
  s.keep (Step.quiet hp) fun a ha => upd_ne fun e => s.there ha (by rw [e]; exact hp)
/-- a new object gets the next number -/
theorem RSt.new (s : RSt P w K ρ H μ) {p : Addr} {u : HO} {o : MObj} (hp : H p = none) (h : ObjR P w K (ρ ++ [p]) (upd H p u) p o) : RSt P w K (ρ ++ [p]) (upd H p u) (μ ++ [o]) := by
  have hn := s.fresh hp
  refine ⟨by simp [s.len], ?_, fun i a x ha hx => ?_, fun q hq => (Step.new (K := K) hp).tbl _ hq (s.tab q hq)⟩
  · rw [List.nodup_append]
    refine ⟨s.nd, by simp, fun a ha b hb => ?_⟩
    rw [List.mem_singleton.mp hb]
    exact fun e => hn (e ▸ ha)
  · by_cases hi : i < ρ.length
    · rw [List.getElem?_append_left hi] at ha
      rw [List.getElem?_append_left (by rw [s.len]; exact hi)] at hx
      have hm := List.mem_of_getElem? ha
      exact (s.obj i a x ha hx).step (Step.new hp).grow fun u hu => by
        rw [upd_ne fun e => s.there hm (by rw [e]; exact hp)]
        exact hu
    · have e : i = ρ.length := by
        have := (List.getElem?_eq_some_iff.mp ha).1
        simp at this
        omega
      subst e
      rw [List.getElem?_append_right (Nat.le_refl _), Nat.sub_self] at ha
      rw [List.getElem?_append_right (by rw [s.len]; exact Nat.le_refl _), s.len, Nat.sub_self] at hx
      cases ha
      cases hx
      exact h
theorem RSt.nextId (s : RSt P w K ρ H μ) {p : Addr} : (ρ ++ [p])[μ.length]? = some p := by
  rw [s.len, List.getElem?_append_right (Nat.le_refl _), Nat.sub_self]
  rfl
/-- an object with a number is written -/
theorem RSt.write (s : RSt P w K ρ H μ) {i : Nat} {a : Addr} {u : HO} {o : MObj} (ha : ρ[i]? = some a) (hm : Mut (H a)) (hd : DW H a u) (h : ObjR P w K ρ (upd H a u) a o) (nu : NT u := by exact fun _ z => nomatch z) : RSt P w K ρ (upd H a u) (μ.set i o) := by
  refine ⟨by rw [List.length_set]; exact s.len, s.nd, fun j b x hb hx => ?_, fun q hq => (Step.write (K := K) (List.mem_of_getElem? ha) hm hd nu).tbl _ hq (s.tab q hq)⟩
  by_cases hj : i = j
  · subst hj
    rw [ha] at hb
    cases hb
    have hl : i < μ.length := by rw [s.len]; exact (List.getElem?_eq_some_iff.mp ha).1
    rw [List.getElem?_set_self hl] at hx
    cases hx
    exact h
  · rw [List.getElem?_set_ne hj] at hx
    have hne : b ≠ a := by
      intro e
      subst e
      have hi := (List.getElem?_eq_some_iff.mp ha).1
      exact hj ((List.getElem?_inj hi s.nd).mp (ha.trans hb.symm))
    exact (s.obj j b x hb hx).step (Step.write (List.mem_of_getElem? ha) hm hd nu).grow fun v hv => by
      rw [upd_ne hne]
      exact hv
/-- an object without a number, made since the start, is written -/
theorem Grow.write {a : Addr} {u : HO} (hm : Mut (H a)) (hd : DW H a u) : Grow K ρ H ρ (upd H a u) := by
  have ht : ∀ b o, H b = some o → ¬ Mut (some o) → b ≠ a := fun b o h n e => by
    subst e
    rw [h] at hm
    exact n hm
  refine ⟨fun _ _ h => h, fun b xs h => ?_, DKeep.upd hd, fun b o u h => by rw [upd_ne (ht b _ h fun z => z)]; exact h⟩
  rcases h with (h | ⟨o, h⟩) | h
  · exact .inl (.inl (by rw [upd_ne (ht b _ h fun z => z)]; exact h))
  · exact .inl (.inr ⟨o, by rw [upd_ne (ht b _ h fun z => z)]; exact h⟩)
  · exact .inr h
theorem Step.over {H1 : Hp} (st : Step K ρ H ρ' H1) {a : Addr} {u : HO} (h0 : H a = none) (hm : Mut (H1 a)) (hd : DW H1 a u) (hc : ∀ q, H1 a ≠ some (LamX.CodeO a q)) (nu : NT u := by exact fun _ z => nomatch z) : Step K ρ H ρ' (upd H1 a u) := by
  have nt : ∀ ps, H1 a ≠ some (.tbl ps) := fun ps z => by rw [z] at hm; exact hm
  refine ⟨st.ext, fun b o h hn nb => ?_, fun b xs h => (Grow.write (ρ := ρ') hm hd).tup b xs (st.tup b xs h), fun b o h no => ?_, st.dct.trans (DKeep.upd hd), fun b o v h => (Grow.write (K := K) (ρ := ρ') hm hd).fz b o v (st.fz b o v h), fun p hp h => (st.tbl p hp h).to (fun x hx _ => hx) fun x o _ h k => by
      rw [upd_ne fun e => ?_]
      · exact h
      · rw [e] at h k
        rcases k with k | ⟨ps, k⟩
        · exact hc p.2 (by rw [h, k])
        · exact nt ps (by rw [h, k])⟩
  · rw [upd_ne (ne_of_none h h0)]
    exact st.keep b o h hn nb
  · by_cases e : b = a
    · subst e
      exact ⟨u, upd_same, nu⟩
    · rw [upd_ne e]
      exact st.live b o h no
theorem RSt.over (s : RSt P w K ρ H μ) {a : Addr} {u : HO} (hn : a ∉ ρ) (hm : Mut (H a)) (hd : DW H a u) (hc : ∀ q, H a ≠ some (LamX.CodeO a q)) : RSt P w K ρ (upd H a u) μ :=
  ⟨s.len, s.nd, fun i b o hb ho => (s.obj i b o hb ho).step (Grow.write hm hd) fun v hv => by
    rw [upd_ne fun e => hn (by rw [← e]; exact List.mem_of_getElem? hb)]
    exact hv, fun p hp => (s.tab p hp).to (fun x hx _ => hx) fun x o _ h k => by
      rw [upd_ne fun e => ?_]
      · exact h
      · rw [e] at h k
        rcases k with k | ⟨ps, k⟩
        · exact hc p.2 (by rw [h, k])
        · rw [k] at h; rw [h] at hm; exact hm⟩
end
end DL
namespace DL
open PySem PySem.Spec PyProof.Rows L2
abbrev EW := Addr → PV → Sto → List Addr → Hp → Prop
/-- what is asked behind a reckoning -/
def Post {α β : Type} (P : Program) (w : World) (K : PySem.W.Frag) (W : EW) (ρ : List Addr) (H : Hp) (r : Rz α) (Rel : List Addr → Hp → α → β → Prop) (Q : β → Hp → Prop) : Prop :=
  match r with
  | .ok a μ' => ∀ ρ' x H', Step K ρ H ρ' H' → Rel ρ' H' a x → RSt P w K ρ' H' μ' → Q x H'
  | .err C v μ' => ∀ ρ' H', Step K ρ H ρ' H' → RSt P w K ρ' H' μ' → W C v μ' ρ' H'
  | .bad => False
section
variable {α β γ δ : Type} {P : Program} {w : World} {K : PySem.W.Frag} {W : EW} {ρ ρ1 : List Addr} {H H1 : Hp}
theorem Post.step {r : Rz α} {Rel : List Addr → Hp → α → β → Prop} {Q : β → Hp → Prop} (st : Step K ρ H ρ1 H1) (h : Post P w K W ρ H r Rel Q) : Post P w K W ρ1 H1 r Rel Q := by
  cases r with
  | ok a μ => exact fun ρ' x H' s r t => h ρ' x H' (st.trans s) r t
  | err C v μ => exact fun ρ' H' s t => h ρ' H' (st.trans s) t
  | bad => exact h
theorem Post.bind {r : Rz α} {f : α → Sto → Rz γ} {Rel : List Addr → Hp → α → β → Prop} {Rel2 : List Addr → Hp → γ → δ → Prop} {Q : δ → Hp → Prop} (h : Post P w K W ρ H (r.bind f) Rel2 Q) :
    Post P w K W ρ H r Rel (fun x H1 => ∃ ρ1 a μ1, Step K ρ H ρ1 H1 ∧ Rel ρ1 H1 a x ∧ RSt P w K ρ1 H1 μ1 ∧ Post P w K W ρ1 H1 (f a μ1) Rel2 Q) := by
  cases r with
  | ok a μ => exact fun ρ' x H' s r t => ⟨ρ', a, μ, s, r, t, Post.step s h⟩
  | err C v μ => exact h
  | bad => exact h
theorem Post.mono {r : Rz α} {Rel : List Addr → Hp → α → β → Prop} {Q Q' : β → Hp → Prop} (h : Post P w K W ρ H r Rel Q) (hq : ∀ x H', Q x H' → Q' x H') : Post P w K W ρ H r Rel Q' := by
  cases r with
  | ok a μ => exact fun ρ' x H' s r t => hq _ _ (h ρ' x H' s r t)
  | err C v μ => exact h
  | bad => exact h
end
abbrev DE := Env' → Sto → Rz PV
abbrev DA := Env' → Sto → Rz (List PV)
abbrev DT := Env' → Sto → Rz Bool
/-- a function of values: an operator, a built-in, a def -/
abbrev VF := List PV → Sto → Rz PV
section
variable (P : Program) (w : World) (K : PySem.W.Frag) (W : EW)
abbrev RB : List Addr → Hp → Bool → Bool → Prop := fun _ _ a b => a = b
def T (d : DE) : TE := fun σ H Q => ∃ ρ η μ, REnv K ρ H η σ ∧ RSt P w K ρ H μ ∧ Post P w K W ρ H (d η μ) (RV K) Q
def TL (d : DA) : TA := fun σ H Q => ∃ ρ η μ, REnv K ρ H η σ ∧ RSt P w K ρ H μ ∧ Post P w K W ρ H (d η μ) (RVs K) Q
def TB (d : DT) : TT := fun σ H Q => ∃ ρ η μ, REnv K ρ H η σ ∧ RSt P w K ρ H μ ∧ Post P w K W ρ H (d η μ) RB Q
/-- an operation on values by a function -/
def rL (f : VF) : List V → Hp → VK → Prop := fun vs H Q => ∃ ρ μ ps, RVs K ρ H ps vs ∧ RSt P w K ρ H μ ∧ Post P w K W ρ H (f ps μ) (RV K) Q
end
def dNil : DA := fun _ μ => .ok [] μ
def dCons (d : DE) (ds : DA) : DA := fun η μ => (d η μ).bind fun p μ1 => (ds η μ1).bind fun ps μ2 => .ok (p :: ps) μ2
def dApp (f : VF) (ds : DA) : DE := fun η μ => (ds η μ).bind f
def dVar (i : Nat) : DE := fun η μ => match η[i]? with
  | some (some p) => .ok p μ
  | _ => .bad
def dC (p : PV) : DE := fun _ μ => .ok p μ
def dIf (c : DT) (a b : DE) : DE := fun η μ => (c η μ).bind fun k μ1 => if k = true then a η μ1 else b η μ1
def dNot (c : DT) : DT := fun η μ => (c η μ).bind fun k μ1 => .ok (!k) μ1
def dAnd (a b : DT) : DT := fun η μ => (a η μ).bind fun k μ1 => if k = true then b η μ1 else .ok false μ1
def dOr (a b : DT) : DT := fun η μ => (a η μ).bind fun k μ1 => if k = true then .ok true μ1 else b η μ1
section
variable {X : Cx} {W : EW}
theorem _root_.L2.PE.impD {e : Expr} {t t' : TE} (h : PE X e t) (i : ∀ σ H Q, t' σ H Q → t σ H Q) : PE X e t' := ⟨fun pins s σ H Q I hw => h.run pins s σ H Q I (i _ _ _ hw)⟩
theorem _root_.L2.PA.impD {es : List Expr} {t t' : TA} (h : PA X es t) (i : ∀ σ H Q, t' σ H Q → t σ H Q) : PA X es t' := ⟨fun pos pins s σ H Q I hw => h.run pos pins s σ H Q I (i _ _ _ hw)⟩
theorem _root_.L2.PT.impD {e : Expr} {t t' : TT} (h : PT X e t) (i : ∀ σ H Q, t' σ H Q → t σ H Q) : PT X e t' := ⟨fun pins s σ H Q I hw => h.run pins s σ H Q I (i _ _ _ hw)⟩
theorem _root_.L2.PW.impD {e : Expr} {t t' : TT} (h : PW X e t) (i : ∀ σ H Q, t' σ H Q → t σ H Q) : PW X e t' := ⟨fun wh pins s σ H Q I hw => h.run wh pins s σ H Q I (i _ _ _ hw)⟩
theorem _root_.L2.PS.impD {st : Stmt} {t t' : TS} (h : PS X st t) (i : ∀ D σ H, t' D σ H → t D σ H) : PS X st t' := ⟨fun pins s σ H D I hw => h.run pins s σ H D I (i _ _ _ hw)⟩
theorem _root_.L2.PSs.impD {st : List Stmt} {t t' : TS} (h : PSs X st t) (i : ∀ D σ H, t' D σ H → t D σ H) : PSs X st t' := ⟨fun pins s σ H D I hw => h.run pins s σ H D I (i _ _ _ hw)⟩
abbrev LE (X : Cx) (W : EW) (e : Expr) (d : DE) : Prop := PE X e (T X.prog X.w X.K W d)
abbrev LA (X : Cx) (W : EW) (es : List Expr) (d : DA) : Prop := PA X es (TL X.prog X.w X.K W d)
abbrev LT (X : Cx) (W : EW) (e : Expr) (d : DT) : Prop := PT X e (TB X.prog X.w X.K W d)
abbrev LW (X : Cx) (W : EW) (e : Expr) (d : DT) : Prop := PW X e (TB X.prog X.w X.K W d)
theorem le_var {i : Nat} {x : Str} {pos : Pos} (h : PE X (.Name x pos) (tVar i)) : LE X W (.Name x pos) (dVar i) := h.impD fun σ H Q ⟨ρ, η, μ, e, s, p⟩ => by
  unfold dVar at p
  cases q : η[i]? with
  | none => rw [q] at p; exact p.elim
  | some o =>
    cases o with
    | none => rw [q] at p; exact p.elim
    | some pv =>
      rw [q] at p
      obtain ⟨v, e1, r⟩ := e.2 i pv q
      exact ⟨v, e1, p ρ v H Step.refl r s⟩
theorem le_c {v : V} {p : PV} {e : Expr} (h : PE X e (tC v)) (r : ∀ ρ H, RV X.K ρ H p v) : LE X W e (dC p) := h.impD fun σ H Q ⟨ρ, η, μ, e, s, q⟩ => q ρ v H Step.refl (r ρ H) s
theorem le_int {i : Int} {j pos} : LE X W (.Constant (.int i) j pos) (dC (.int i)) := le_c pe_int fun _ _ => .int i
theorem le_bl {b : Bool} {j pos} : LE X W (.Constant (.bool b) j pos) (dC (.bl b)) := le_c pe_bl fun _ _ => .bl b
theorem le_non {j pos} : LE X W (.Constant .none j pos) (dC .non) := le_c pe_non fun _ _ => .non
theorem le_str {x : Str} {j pos} : LE X W (.Constant (.str x) j pos) (dC (.str x)) := le_c pe_str fun _ _ => .str x
theorem la_nil : LA X W [] dNil := pa_nil.impD fun σ H Q ⟨ρ, η, μ, e, s, q⟩ => q ρ [] H Step.refl .nil s
theorem la_cons {e : Expr} {es : List Expr} {d : DE} {ds : DA} (h1 : LE X W e d) (h2 : LA X W es ds) (hs : starEach (e :: es) X.env = (false, eval e X.env) :: starEach es X.env := by rfl) : LA X W (e :: es) (dCons d ds) :=
  (pa_cons h1 h2 hs).impD fun σ H Q ⟨ρ, η, μ, en, s, q⟩ => by
    unfold dCons at q
    refine ⟨ρ, η, μ, en, s, (Post.bind q).mono fun x H1 ⟨ρ1, a, μ1, st, r, s1, q1⟩ => ?_⟩
    refine ⟨ρ1, η, μ1, en.step st, s1, (Post.bind q1).mono fun xs H2 ⟨ρ2, as, μ2, st2, r2, s2, q2⟩ => ?_⟩
    exact q2 ρ2 (x :: xs) H2 Step.refl (.cons (r.step st2) r2) s2
theorem app_of {f : VF} {ds : DA} {σ : L2.St} {H : Hp} {Q : VK} (h : T X.prog X.w X.K W (dApp f ds) σ H Q) : TL X.prog X.w X.K W ds σ H (fun vs H1 => rL X.prog X.w X.K W f vs H1 Q) := by
  obtain ⟨ρ, η, μ, en, s, q⟩ := h
  exact ⟨ρ, η, μ, en, s, (Post.bind q).mono fun x H1 ⟨ρ1, a, μ1, st, r, s1, q1⟩ => ⟨ρ1, μ1, a, r, s1, q1⟩⟩
theorem tl_cons {d : DE} {ds : DA} {σ : L2.St} {H : Hp} {Q : List V → Hp → Prop} (h : TL X.prog X.w X.K W (dCons d ds) σ H Q) : T X.prog X.w X.K W d σ H fun x H1 => TL X.prog X.w X.K W ds σ H1 fun xs H2 => Q (x :: xs) H2 := by
  obtain ⟨ρ, η, μ, en, s, q⟩ := h
  unfold dCons at q
  refine ⟨ρ, η, μ, en, s, (Post.bind q).mono fun x H1 ⟨ρ1, a, μ1, st, r, s1, q1⟩ => ?_⟩
  refine ⟨ρ1, η, μ1, en.step st, s1, (Post.bind q1).mono fun xs H2 ⟨ρ2, as, μ2, st2, r2, s2, q2⟩ => ?_⟩
  exact q2 ρ2 (x :: xs) H2 Step.refl (.cons (r.step st2) r2) s2
theorem tl_nil {σ : L2.St} {H : Hp} {Q : List V → Hp → Prop} (h : TL X.prog X.w X.K W dNil σ H Q) : Q [] H := by
  obtain ⟨ρ, η, μ, en, s, q⟩ := h
  exact q ρ [] H Step.refl .nil s
theorem T.mono {d : DE} {σ : L2.St} {H : Hp} {Q Q' : VK} (h : T X.prog X.w X.K W d σ H Q) (hq : ∀ x H', Q x H' → Q' x H') : T X.prog X.w X.K W d σ H Q' :=
  let ⟨ρ, η, μ, en, s, q⟩ := h
  ⟨ρ, η, μ, en, s, q.mono hq⟩
theorem TL.mono {d : DA} {σ : L2.St} {H : Hp} {Q Q' : List V → Hp → Prop} (h : TL X.prog X.w X.K W d σ H Q) (hq : ∀ x H', Q x H' → Q' x H') : TL X.prog X.w X.K W d σ H Q' :=
  let ⟨ρ, η, μ, en, s, q⟩ := h
  ⟨ρ, η, μ, en, s, q.mono hq⟩
theorem app1 {f : VF} {d : DE} {σ : L2.St} {H : Hp} {Q : VK} (h : T X.prog X.w X.K W (dApp f (dCons d dNil)) σ H Q) : T X.prog X.w X.K W d σ H fun x H1 => rL X.prog X.w X.K W f [x] H1 Q :=
  (tl_cons (app_of h)).mono fun x H1 h => tl_nil h
theorem app2 {f : VF} {d d' : DE} {σ : L2.St} {H : Hp} {Q : VK} (h : T X.prog X.w X.K W (dApp f (dCons d (dCons d' dNil))) σ H Q) : T X.prog X.w X.K W d σ H fun x H1 => T X.prog X.w X.K W d' σ H1 fun y H2 => rL X.prog X.w X.K W f [x, y] H2 Q :=
  (tl_cons (app_of h)).mono fun x H1 h => (tl_cons h).mono fun y H2 h => tl_nil h
/-- an operator on two values, on one, a call of a value, a method's, an item's -/
abbrev O2 (X : Cx) (W : EW) (op : Value → Value → Sem Value) (f : VF) : Prop := OpR X op (fun x y H Q => rL X.prog X.w X.K W f [x, y] H Q)
abbrev OC (X : Cx) (W : EW) (v : Value) (f : VF) : Prop := CallR X v (rL X.prog X.w X.K W f)
abbrev OM (X : Cx) (W : EW) (id : String) (f : VF) : Prop := MtR X id (fun x xs H Q => rL X.prog X.w X.K W f (x :: xs) H Q)
abbrev OI (X : Cx) (W : EW) (f : VF) : Prop := IxR X (fun x y H Q => rL X.prog X.w X.K W f [x, y] H Q)
theorem le_bin {a b : Expr} {op : Operator} {f : VF} {d1 d2 : DE} {pos : Pos} (o : O2 X W (binaryOp op) f) (h1 : LE X W a d1) (h2 : LE X W b d2) : LE X W (.BinOp a op b pos) (dApp f (dCons d1 (dCons d2 dNil))) :=
  (pe_op o h1 h2).impD fun _ _ _ h => app2 h
theorem le_cmp {a b : Expr} {op : CmpOp} {f : VF} {d1 d2 : DE} {pos : Pos} (o : O2 X W (compareOp op) f) (h1 : LE X W a d1) (h2 : LE X W b d2) (hm : behindInMarks op b = false) : LE X W (.Compare a [op] [b] pos) (dApp f (dCons d1 (dCons d2 dNil))) :=
  (pe_cmpR o h1 h2 hm).impD fun _ _ _ h => app2 h
/-- the bool that a value is -/
def dTest (d : DE) : DT := fun η μ => (d η μ).bind fun p μ1 => match p with
  | .bl k => .ok k μ1
  | _ => .bad
theorem test_of {d : DE} {σ : L2.St} {H : Hp} {Q : Bool → Hp → Prop} (h : TB X.prog X.w X.K W (dTest d) σ H Q) : T X.prog X.w X.K W d σ H fun x H1 => ∃ k, x = .bl k ∧ Q k H1 := by
  obtain ⟨ρ, η, μ, en, s, q⟩ := h
  unfold dTest at q
  refine ⟨ρ, η, μ, en, s, (Post.bind q).mono fun x H1 ⟨ρ1, a, μ1, st, r, s1, q1⟩ => ?_⟩
  cases r with
  | bl b => exact ⟨b, rfl, q1 ρ1 b H1 Step.refl rfl s1⟩
  | _ => exact q1.elim
theorem lt_cmp {a b : Expr} {op : CmpOp} {f : VF} {d1 d2 : DE} {pos : Pos} (o : O2 X W (compareOp op) f) (h1 : LE X W a d1) (h2 : LE X W b d2) (hm : behindInMarks op b = false) : LT X W (.Compare a [op] [b] pos) (dTest (dApp f (dCons d1 (dCons d2 dNil)))) :=
  (pt_cmpR o h1 h2 hm).impD fun _ _ _ h => (app2' (test_of h))
where app2' {f : VF} {d d' : DE} {σ : L2.St} {H : Hp} {Q : VK} (h : T X.prog X.w X.K W (dApp f (dCons d (dCons d' dNil))) σ H Q) : tOp (fun x y H Q => rL X.prog X.w X.K W f [x, y] H Q) (T X.prog X.w X.K W d) (T X.prog X.w X.K W d') σ H Q := app2 h
end
end DL
namespace DL
open PySem PySem.Spec PyProof.Rows L2
section
variable {K : PySem.W.Frag} {ρ : List Addr} {H : Hp} {P : Program} {w : World}
theorem RVs.isEmpty {ps : List PV} {vs : List V} (r : RVs K ρ H ps vs) : ps.isEmpty = vs.isEmpty := by cases r <;> rfl
/-- what stands at a number -/
def seqAt (μ : Sto) (i : Nat) : Option (List PV) := match μ[i]? with
  | some (.lst ps) => some ps
  | some (.rol ps) => some ps
  | _ => none
theorem seqAt_of {μ : Sto} {i : Nat} {a : Addr} {ps : List PV} (s : RSt P w K ρ H μ) (ha : ρ[i]? = some a) (h : seqAt μ i = some ps) : ∃ vs, SqL K H a vs ∧ RVs K ρ H ps vs := by
  unfold seqAt at h
  cases q : μ[i]? with
  | none => rw [q] at h; cases h
  | some o =>
    rw [q] at h
    have e := s.obj i a o ha q
    cases o with
    | lst xs =>
      cases h
      obtain ⟨vs, h1, h2⟩ := e
      exact ⟨vs, SqL.of h1, h2⟩
    | rol xs =>
      cases h
      obtain ⟨vs, h1, h2, _⟩ := e
      exact ⟨vs, .inl h1, h2⟩
    | dct kvs => cases h
    | ins C fs => cases h
/-- the items of a tuple or list -/
def items (p : PV) (μ : Sto) : Option (List PV) := match p with
  | .tup ps => some ps
  | .ref i => seqAt μ i
  | _ => none
theorem items_of {μ : Sto} {p : PV} {v : V} {ps : List PV} (s : RSt P w K ρ H μ) (r : RV K ρ H p v) (h : items p μ = some ps) : ∃ a vs, v = .ref a ∧ (SqT K H a vs ∨ SqL K H a vs) ∧ RVs K ρ H ps vs := by
  cases r with
  | tup h1 h2 => cases h; exact ⟨_, _, rfl, .inl h1, h2⟩
  | ref ha =>
    obtain ⟨vs, h1, h2⟩ := seqAt_of s ha h
    exact ⟨_, vs, rfl, .inr h1, h2⟩
  | _ => cases h
/-- a value's truth -/
def truth (p : PV) (μ : Sto) : Option Bool := match p with
  | .non => some false
  | .bl b => some b
  | .int i => some (i != 0)
  | .str x => if x.length ≤ sizeLine then some ((x.length : Int) != 0) else none
  | .tup ps => some (!ps.isEmpty)
  | .ref i => (seqAt μ i).map fun ps => !ps.isEmpty
  | _ => none
theorem truth_of {μ : Sto} {p : PV} {v : V} {k : Bool} (s : RSt P w K ρ H μ) (r : RV K ρ H p v) (h : truth p μ = some k) : TruV K v H k := by
  cases r with
  | non => cases h; rfl
  | bl b => cases h; rfl
  | int i => cases h; rfl
  | str x =>
    have h : (if x.length ≤ sizeLine then some ((x.length : Int) != 0) else none) = some k := h
    by_cases c : x.length ≤ sizeLine
    · rw [if_pos c] at h
      cases h
      exact ⟨c, rfl⟩
    · rw [if_neg c] at h
      cases h
  | tup h1 h2 =>
    cases h
    exact .inr (.inl ⟨_, h1, by rw [h2.isEmpty]⟩)
  | ref ha =>
    obtain ⟨ps, e1, e2⟩ := Option.map_eq_some_iff.mp h
    subst e2
    obtain ⟨vs, h1, h2⟩ := seqAt_of s ha e1
    exact .inl ⟨vs, h1, by rw [h2.isEmpty]⟩
  | ty n => cases h
  | glb a => cases h
  | exc _ _ _ _ _ _ => cases h
end
/-- the truth of a value -/
def dTru (d : DE) : DT := fun η μ => (d η μ).bind fun p μ1 => match truth p μ1 with
  | some k => .ok k μ1
  | none => .bad
def dOrV (a b : DE) : DE := fun η μ => (a η μ).bind fun p μ1 => match truth p μ1 with
  | some k => if k = true then .ok p μ1 else b η μ1
  | none => .bad
def dAndV (a b : DE) : DE := fun η μ => (a η μ).bind fun p μ1 => match truth p μ1 with
  | some k => if k = true then b η μ1 else .ok p μ1
  | none => .bad
/-- a < b < c: the third is reckoned where the first two say so -/
def dChain (f g : VF) (a b c : DE) : DE := fun η μ => (a η μ).bind fun x μ1 => (b η μ1).bind fun y μ2 => (f [x, y] μ2).bind fun z μ3 => match z with
  | .bl k => if k = true then (c η μ3).bind fun u μ4 => g [y, u] μ4 else .ok (.bl false) μ3
  | _ => .bad
def vTup : VF := fun ps μ => if ps.length ≤ sizeLine then .ok (.tup ps) μ else .bad
def vLst : VF := fun ps μ => if ps.length ≤ sizeLine then .ok (.ref μ.length) (μ ++ [.lst ps]) else .bad
/-- a[i] -/
def vItem : VF := fun xs μ => match xs with
  | [.tup ps, .int i] => match atI ps i with
    | some p => .ok p μ
    | none => .bad
  | [.ref j, .int i] => match (seqAt μ j).bind fun ps => atI ps i with
    | some p => .ok p μ
    | none => .bad
  | [.str z, .int i] => if z.length ≤ sizeLine then match atI z.cps.toList i with
      | some c => .ok (.str ⟨#[c]⟩) μ
      | none => .bad
    else .bad
  | _ => .bad
/-- the cut of a sequence -/
def cut {α : Type} (xs : List α) (lo hi : Option Int) : List α := (xs.drop (HT.sIx xs.length 0 lo)).take (HT.sIx xs.length xs.length hi - HT.sIx xs.length 0 lo)
def vCut (p : PV) (lo hi : Option Int) (μ : Sto) : Rz PV := match p with
  | .tup ps => .ok (.tup (cut ps lo hi)) μ
  | .ref i => match seqAt μ i with
    | some ps => .ok (.ref μ.length) (μ ++ [.lst (cut ps lo hi)])
    | none => .bad
  | .str z => if z.length ≤ sizeLine then .ok (.str (cutS z lo hi)) μ else .bad
  | _ => .bad
abbrev DO := Env' → Sto → Rz (Option Int)
def dNoPart : DO := fun _ μ => .ok none μ
def dPart (d : DE) : DO := fun η μ => (d η μ).bind fun p μ1 => match p with
  | .int i => .ok (some i) μ1
  | _ => .bad
def dCut (a : DE) (lo hi : DO) : DE := fun η μ => (a η μ).bind fun p μ1 => (lo η μ1).bind fun l μ2 => (hi η μ2).bind fun h μ3 => vCut p l h μ3
/-- e.f of an instance of the class at C -/
def vFld (C : Addr) (f : Str) : VF := fun xs μ => match xs with
  | [.ref i] => match μ[i]? with
    | some (.ins D fs) => if D = C then match fs.lookup f with
        | some p => .ok p μ
        | none => .bad
      else .bad
    | _ => .bad
  | _ => .bad
section
variable {P : Program} {w : World} {K : PySem.W.Frag} {W : EW} {ρ : List Addr} {H : Hp} {μ : Sto} {Q : VK}
/-- a tuple is handed back -/
theorem ok_tup {ps : List PV} {vs : List V} {p : Addr} (s : RSt P w K ρ H μ) (r : RVs K ρ H ps vs) (hp : H p = none) (h : Post P w K W ρ H (.ok (.tup ps) μ) (RV K) Q) : Q (.ref p) (upd H p (.tup vs)) :=
  h ρ (.ref p) _ (Step.quiet hp) (.tup (SqT.of upd_same) (r.step (Step.quiet hp))) (s.quiet hp)
/-- a new list is handed back -/
theorem ok_lst {ps : List PV} {vs : List V} {p : Addr} (s : RSt P w K ρ H μ) (r : RVs K ρ H ps vs) (hp : H p = none) (h : Post P w K W ρ H (.ok (.ref μ.length) (μ ++ [.lst ps])) (RV K) Q) : Q (.ref p) (upd H p (.lst vs)) :=
  h (ρ ++ [p]) (.ref p) _ (Step.new hp) (.ref s.nextId) (s.new hp ⟨vs, upd_same, r.step (Step.new hp)⟩)
end
section
variable {X : Cx} {W : EW}
theorem lt_tru {a : Expr} {d : DE} (h : LE X W a d) (he : ∀ whole, isTrue a X.env whole = (do let v ← whole; standAt a.pos; holding [v] (truthy v))) : LT X W a (dTru d) :=
  (pt_truth h he).impD fun σ H Q ⟨ρ, η, μ, en, s, q⟩ => ⟨ρ, η, μ, en, s, (Post.bind q).mono fun x H1 ⟨ρ1, a, μ1, st, r, s1, q1⟩ => by
    cases e : truth a μ1 with
    | none => rw [e] at q1; exact q1.elim
    | some k =>
      rw [e] at q1
      exact ⟨k, truth_of s1 r e, q1 ρ1 k H1 Step.refl rfl s1⟩⟩
theorem lt_not {a : Expr} {d : DT} {pos : Pos} (h : LT X W a d) : LT X W (.UnaryOp .Not a pos) (dNot d) :=
  (pt_not h).impD fun σ H Q ⟨ρ, η, μ, en, s, q⟩ => ⟨ρ, η, μ, en, s, (Post.bind q).mono fun x H1 ⟨ρ1, a, μ1, st, r, s1, q1⟩ => by
    subst r
    exact q1 ρ1 _ H1 Step.refl rfl s1⟩
theorem lw_and1 {a : Expr} {d : DT} {pos : Pos} (h : LT X W a d) : LW X W (.BoolOp .And [a] pos) d := pw_and1 h
theorem lw_or1 {a : Expr} {d : DT} {pos : Pos} (h : LT X W a d) : LW X W (.BoolOp .Or [a] pos) d := pw_or1 h
theorem lw_and {a b : Expr} {rest : List Expr} {d d' : DT} {pos : Pos} (h : LT X W a d) (h' : LW X W (.BoolOp .And (b :: rest) pos) d') : LW X W (.BoolOp .And (a :: b :: rest) pos) (dAnd d d') :=
  (pw_and h h').impD fun σ H Q ⟨ρ, η, μ, en, s, q⟩ => ⟨ρ, η, μ, en, s, (Post.bind q).mono fun x H1 ⟨ρ1, a, μ1, st, r, s1, q1⟩ => by
    subst r
    by_cases c : a = true
    · rw [if_pos c] at q1 ⊢
      exact ⟨ρ1, η, μ1, en.step st, s1, q1⟩
    · rw [if_neg c] at q1 ⊢
      exact q1 ρ1 _ H1 Step.refl rfl s1⟩
theorem lw_or {a b : Expr} {rest : List Expr} {d d' : DT} {pos : Pos} (h : LT X W a d) (h' : LW X W (.BoolOp .Or (b :: rest) pos) d') : LW X W (.BoolOp .Or (a :: b :: rest) pos) (dOr d d') :=
  (pw_or h h').impD fun σ H Q ⟨ρ, η, μ, en, s, q⟩ => ⟨ρ, η, μ, en, s, (Post.bind q).mono fun x H1 ⟨ρ1, a, μ1, st, r, s1, q1⟩ => by
    subst r
    by_cases c : a = true
    · rw [if_pos c] at q1 ⊢
      exact q1 ρ1 _ H1 Step.refl rfl s1
    · rw [if_neg c] at q1 ⊢
      exact ⟨ρ1, η, μ1, en.step st, s1, q1⟩⟩
theorem lt_w {a : Expr} {d : DT} (h : LW X W a d) : LT X W a d := PW.pt h
theorem le_if {c a b : Expr} {dc : DT} {da db : DE} {pos : Pos} (hc : LT X W c dc) (ha : LE X W a da) (hb : LE X W b db) : LE X W (.IfExp c a b pos) (dIf dc da db) :=
  (pe_ifExp hc ha hb).impD fun σ H Q ⟨ρ, η, μ, en, s, q⟩ => ⟨ρ, η, μ, en, s, (Post.bind q).mono fun x H1 ⟨ρ1, a, μ1, st, r, s1, q1⟩ => by
    subst r
    by_cases c : a = true
    · rw [if_pos c] at q1 ⊢
      exact ⟨ρ1, η, μ1, en.step st, s1, q1⟩
    · rw [if_neg c] at q1 ⊢
      exact ⟨ρ1, η, μ1, en.step st, s1, q1⟩⟩
theorem le_one {a : Expr} {op : BoolOp} {d : DE} {pos : Pos} (h : LE X W a d) : LE X W (.BoolOp op [a] pos) d := pe_one h
theorem le_or {a b : Expr} {rest : List Expr} {d d' : DE} {pos : Pos} (h : LE X W a d) (h' : LE X W (.BoolOp .Or (b :: rest) pos) d') : LE X W (.BoolOp .Or (a :: b :: rest) pos) (dOrV d d') :=
  (pe_orT h h').impD fun σ H Q ⟨ρ, η, μ, en, s, q⟩ => ⟨ρ, η, μ, en, s, (Post.bind q).mono fun x H1 ⟨ρ1, a, μ1, st, r, s1, q1⟩ => by
    cases e : truth a μ1 with
    | none => rw [e] at q1; exact q1.elim
    | some k =>
      rw [e] at q1
      refine ⟨k, truth_of s1 r e, ?_⟩
      by_cases c : k = true
      · simp only [c, if_true] at q1 ⊢
        exact q1 ρ1 x H1 Step.refl r s1
      · simp only [c, if_false] at q1 ⊢
        exact ⟨ρ1, η, μ1, en.step st, s1, q1⟩⟩
theorem le_and {a b : Expr} {rest : List Expr} {d d' : DE} {pos : Pos} (h : LE X W a d) (h' : LE X W (.BoolOp .And (b :: rest) pos) d') : LE X W (.BoolOp .And (a :: b :: rest) pos) (dAndV d d') :=
  (pe_andT h h').impD fun σ H Q ⟨ρ, η, μ, en, s, q⟩ => ⟨ρ, η, μ, en, s, (Post.bind q).mono fun x H1 ⟨ρ1, a, μ1, st, r, s1, q1⟩ => by
    cases e : truth a μ1 with
    | none => rw [e] at q1; exact q1.elim
    | some k =>
      rw [e] at q1
      refine ⟨k, truth_of s1 r e, ?_⟩
      by_cases c : k = true
      · simp only [c, if_true] at q1 ⊢
        exact ⟨ρ1, η, μ1, en.step st, s1, q1⟩
      · simp only [c, if_false] at q1 ⊢
        exact q1 ρ1 x H1 Step.refl r s1⟩
theorem chain_of {f g : VF} {d1 d2 d3 : DE} {σ : L2.St} {H : Hp} {Q : VK} (h : T X.prog X.w X.K W (dChain f g d1 d2 d3) σ H Q) :
    tChain (fun x y H Q => rL X.prog X.w X.K W f [x, y] H Q) (fun x y H Q => rL X.prog X.w X.K W g [x, y] H Q) (T X.prog X.w X.K W d1) (T X.prog X.w X.K W d2) (T X.prog X.w X.K W d3) σ H Q := by
  obtain ⟨ρ, η, μ, en, s, q⟩ := h
  unfold dChain at q
  refine ⟨ρ, η, μ, en, s, (Post.bind q).mono fun x H1 ⟨ρ1, a, μ1, st, r, s1, q1⟩ => ?_⟩
  refine ⟨ρ1, η, μ1, en.step st, s1, (Post.bind q1).mono fun y H2 ⟨ρ2, b, μ2, st2, r2, s2, q2⟩ => ?_⟩
  refine ⟨ρ2, μ2, [a, b], .cons (r.step st2) (.cons r2 .nil), s2, (Post.bind q2).mono fun z H3 ⟨ρ3, c, μ3, st3, r3, s3, q3⟩ => ?_⟩
  cases r3 with
  | bl k =>
    refine ⟨k, rfl, ?_⟩
    cases k with
    | false => exact q3 ρ3 _ H3 Step.refl (.bl false) s3
    | true =>
      refine ⟨ρ3, η, μ3, ((en.step st).step st2).step st3, s3, (Post.bind q3).mono fun u H4 ⟨ρ4, e, μ4, st4, r4, s4, q4⟩ => ?_⟩
      exact ⟨ρ4, μ4, [b, e], .cons ((r2.step st3).step st4) (.cons r4 .nil), s4, q4⟩
  | _ => exact q3.elim
theorem lt_chain {a b c : Expr} {op op' : CmpOp} {f g : VF} {d1 d2 d3 : DE} {pos : Pos} (o : O2 X W (compareOp op) f) (o' : O2 X W (compareOp op') g) (h1 : LE X W a d1) (h2 : LE X W b d2) (h3 : LE X W c d3)
    (hm : lastMarks [op, op'] [b, c] = false := by with_unfolding_all rfl) : LT X W (.Compare a [op, op'] [b, c] pos) (dTest (dChain f g d1 d2 d3)) := (pt_chain o o' h1 h2 h3 hm).impD fun _ _ _ h => chain_of (test_of h)
theorem le_tup {es : List Expr} {k : Nat} {pos : Pos} {ds : DA} (h : LA X W es ds) : LE X W (.Tuple es k pos) (dApp vTup ds) :=
  (pe_tup h).impD fun σ H Q h => (app_of h).mono fun vs H1 ⟨ρ, μ, ps, r, s, q⟩ => by
    unfold vTup at q
    by_cases c : ps.length ≤ sizeLine
    · rw [if_pos c] at q
      exact ⟨r.length ▸ c, fun p hp => ok_tup s r hp q⟩
    · rw [if_neg c] at q
      exact q.elim
theorem le_lst {es : List Expr} {pos : Pos} {ds : DA} (h : LA X W es ds) : LE X W (.List es pos) (dApp vLst ds) :=
  (pe_lst h).impD fun σ H Q h => (app_of h).mono fun vs H1 ⟨ρ, μ, ps, r, s, q⟩ => by
    unfold vLst at q
    by_cases c : ps.length ≤ sizeLine
    · rw [if_pos c] at q
      exact ⟨r.length ▸ c, fun p hp => ok_lst s r hp q⟩
    · rw [if_neg c] at q
      exact q.elim
theorem RVs.atI {K : PySem.W.Frag} {ρ : List Addr} {H : Hp} {ps : List PV} {vs : List V} {i : Int} {p : PV} (r : RVs K ρ H ps vs) (h : L2.atI ps i = some p) : ∃ v, L2.atI vs i = some v ∧ RV K ρ H p v := by
  unfold L2.atI at h ⊢
  rw [← r.length]
  cases e : ixN ps.length i with
  | none => rw [e] at h; cases h
  | some j =>
    rw [e] at h
    obtain ⟨v, h1, h2⟩ := r.get h
    exact ⟨v, h1, h2⟩
theorem oi_item : OI X W vItem := by
  intro value slice pins s σ H x y v u Q I rx ry h hs
  refine ix_seq value slice pins s σ H x y v u Q I rx ry ?_ hs
  obtain ⟨ρ, μ, ps, r, t, q⟩ := h
  cases r with
  | cons r1 r' =>
    cases r' with
    | cons r2 r'' =>
      cases r''
      cases r1 with
      | tup h1 h2 =>
        cases r2 with
        | int i =>
          rename_i ps vs a
          have q : Post X.prog X.w X.K W ρ H (match L2.atI ps i with | some p => .ok p μ | none => .bad) (RV X.K) Q := q
          cases e : L2.atI ps i with
          | none => rw [e] at q; exact q.elim
          | some p =>
            rw [e] at q
            obtain ⟨v1, e1, r1⟩ := h2.atI e
            exact .inr (.inl ⟨a, vs, i, v1, rfl, rfl, h1, e1, q ρ v1 H Step.refl r1 t⟩)
        | _ => exact q.elim
      | ref ha =>
        cases r2 with
        | int i =>
          rename_i j a
          have q : Post X.prog X.w X.K W ρ H (match (seqAt μ j).bind fun ps => L2.atI ps i with | some p => .ok p μ | none => .bad) (RV X.K) Q := q
          cases e : seqAt μ j with
          | none => rw [e] at q; exact q.elim
          | some ps =>
            rw [e, Option.bind_some] at q
            obtain ⟨vs, h1, h2⟩ := seqAt_of t ha e
            cases e2 : L2.atI ps i with
            | none => rw [e2] at q; exact q.elim
            | some p =>
              rw [e2] at q
              obtain ⟨v1, e1, r1⟩ := h2.atI e2
              exact .inl ⟨a, vs, i, v1, rfl, rfl, h1, e1, q ρ v1 H Step.refl r1 t⟩
        | _ => exact q.elim
      | str z =>
        cases r2 with
        | int i =>
          have q : Post X.prog X.w X.K W ρ H (if z.length ≤ sizeLine then (match L2.atI z.cps.toList i with | some c => .ok (.str ⟨#[c]⟩) μ | none => .bad) else .bad) (RV X.K) Q := q
          by_cases c : z.length ≤ sizeLine
          · rw [if_pos c] at q
            cases e : L2.atI z.cps.toList i with
            | none => rw [e] at q; exact q.elim
            | some k =>
              rw [e] at q
              exact .inr (.inr ⟨z, i, k, rfl, rfl, c, e, q ρ _ H Step.refl (.str _) t⟩)
          · rw [if_neg c] at q
            exact q.elim
        | _ => exact q.elim
      | _ => first | exact q.elim | (cases r2 <;> exact q.elim)
theorem le_item {a b : Expr} {f : VF} {d1 d2 : DE} {pos : Pos} (o : OI X W f) (h1 : LE X W a d1) (h2 : LE X W b d2) (hs : PlainIx b := by intro _ _; rfl) : LE X W (.Subscript a b pos) (dApp f (dCons d1 (dCons d2 dNil))) :=
  (pe_ix o h1 h2 hs).impD fun _ _ _ h => app2 h
theorem RVs.cut {K : PySem.W.Frag} {ρ : List Addr} {H : Hp} {ps : List PV} {vs : List V} (r : RVs K ρ H ps vs) (lo hi : Option Int) : RVs K ρ H (DL.cut ps lo hi) (cutV vs lo hi) := by
  unfold DL.cut cutV
  rw [← r.length]
  exact (r.drop _).take _
theorem sl_any : SlR X (fun x lo hi H Q => ∃ ρ μ p, RV X.K ρ H p x ∧ RSt X.prog X.w X.K ρ H μ ∧ Post X.prog X.w X.K W ρ H (vCut p lo hi μ) (RV X.K) Q) := by
  intro pins s σ H x v vl vu lo hi sl Q I rx hs pl pu h
  obtain ⟨ρ, μ, p, r, t, q⟩ := h
  cases r with
  | @tup ps0 vs0 a0 h1 h2 =>
    refine sl_tupA pins s σ H _ v vl vu lo hi sl Q I rx hs pl pu ⟨_, _, rfl, h1, fun c => ?_, fun c p hp => ok_tup t (h2.cut lo hi) hp q⟩
    refine q ρ _ H Step.refl (.tup h1 ?_) t
    have e : cutV vs0 lo hi = vs0 := by
      unfold cutV
      rw [c.1, c.2, List.drop_zero, Nat.sub_zero, List.take_length]
    have k := h2.cut lo hi
    rw [e] at k
    exact k
  | ref ha =>
    rename_i j a
    have q : Post X.prog X.w X.K W ρ H (match seqAt μ j with | some ps => .ok (.ref μ.length) (μ ++ [.lst (DL.cut ps lo hi)]) | none => .bad) (RV X.K) Q := q
    cases e : seqAt μ j with
    | none => rw [e] at q; exact q.elim
    | some ps =>
      rw [e] at q
      obtain ⟨vs, h1, h2⟩ := seqAt_of t ha e
      exact sl_list pins s σ H _ v vl vu lo hi sl Q I rx hs pl pu ⟨a, vs, rfl, h1, fun p hp => ok_lst t (h2.cut lo hi) hp q⟩
  | str z =>
    have q : Post X.prog X.w X.K W ρ H (if z.length ≤ sizeLine then .ok (.str (cutS z lo hi)) μ else .bad) (RV X.K) Q := q
    by_cases c : z.length ≤ sizeLine
    · rw [if_pos c] at q
      exact sl_str pins s σ H _ v vl vu lo hi sl Q I rx hs pl pu ⟨z, rfl, c, q ρ _ H Step.refl (.str _) t⟩
    · rw [if_neg c] at q
      exact q.elim
  | _ => exact q.elim
abbrev LO (X : Cx) (W : EW) (e : Option Expr) (d : DO) : Prop := PO X e (fun σ H Q => ∃ ρ η μ, REnv X.K ρ H η σ ∧ RSt X.prog X.w X.K ρ H μ ∧ Post X.prog X.w X.K W ρ H (d η μ) (fun _ _ a b => a = b) Q)
theorem lo_none : LO X W none dNoPart := ⟨fun pins s σ H Q I ⟨ρ, η, μ, en, t, q⟩ => po_none.run pins s σ H Q I (q ρ none H Step.refl rfl t)⟩
theorem lo_some {e : Expr} {d : DE} (h : LE X W e d) : LO X W (some e) (dPart d) := ⟨fun pins s σ H Q I ⟨ρ, η, μ, en, t, q⟩ => (po_some h).run pins s σ H Q I ⟨ρ, η, μ, en, t, (Post.bind q).mono fun x H1 ⟨ρ1, a, μ1, st, r, s1, q1⟩ => by
  cases r with
  | int i => exact ⟨i, rfl, q1 ρ1 _ H1 Step.refl rfl s1⟩
  | _ => exact q1.elim⟩⟩
theorem le_cut {e : Expr} {lo hi : Option Expr} {d : DE} {dl dh : DO} {p2 pos : Pos} (h : LE X W e d) (hl : LO X W lo dl) (hh : LO X W hi dh) : LE X W (.Subscript e (.Slice lo hi none p2) pos) (dCut d dl dh) :=
  (pe_slice sl_any h hl hh).impD fun σ H Q ⟨ρ, η, μ, en, t, q⟩ => ⟨ρ, η, μ, en, t, (Post.bind q).mono fun x H1 ⟨ρ1, a, μ1, st, r, s1, q1⟩ =>
    ⟨ρ1, η, μ1, en.step st, s1, (Post.bind q1).mono fun l H2 ⟨ρ2, l', μ2, st2, r2, s2, q2⟩ => by
      subst r2
      exact ⟨ρ2, η, μ2, (en.step st).step st2, s2, (Post.bind q2).mono fun u H3 ⟨ρ3, u', μ3, st3, r3, s3, q3⟩ => by
        subst r3
        exact ⟨ρ3, μ3, a, (r.step st2).step st3, s3, q3⟩⟩⟩⟩
theorem lookup_rel {K : PySem.W.Frag} {ρ : List Addr} {H : Hp} : ∀ {fs : List (Str × PV)} {gs : List (Str × V)} {f : Str} {p : PV}, gs.map (·.1) = fs.map (·.1) → RVs K ρ H (fs.map (·.2)) (gs.map (·.2)) → fs.lookup f = some p → ∃ v, gs.lookup f = some v ∧ RV K ρ H p v
  | [], _, _, _, _, _, h => by cases h
  | (k, p0) :: fs, [], f, p, e, _, h => by cases e
  | (k, p0) :: fs, (k', v0) :: gs, f, p, e, r, h => by
    injection e with e1 e2
    have e1 : k' = k := e1
    subst e1
    cases r with
    | cons r1 r2 =>
      by_cases c : (f == k') = true
      · simp only [List.lookup, c] at h ⊢
        cases h
        exact ⟨v0, rfl, r1⟩
      · have c : (f == k') = false := by simpa using c
        simp only [List.lookup, c] at h ⊢
        exact lookup_rel e2 r2 h
theorem fld_of {C : Addr} {f : Str} {x : V} {H : Hp} {Q : VK} (h : rL X.prog X.w X.K W (vFld C f) [x] H Q) : ∃ a dx gs v, x = .ref a ∧ H a = some (.ins C dx gs) ∧ gs.lookup f = some v ∧ Q v H := by
  obtain ⟨ρ, μ, ps, r, t, q⟩ := h
  cases r with
  | cons r1 r' =>
    cases r'
    cases r1 with
    | ref ha =>
      rename_i i a
      have q : Post X.prog X.w X.K W ρ H (match μ[i]? with
        | some (.ins D fs) => if D = C then match fs.lookup f with
            | some p => .ok p μ
            | none => .bad
          else .bad
        | _ => .bad) (RV X.K) Q := q
      cases e : μ[i]? with
      | none => rw [e] at q; exact q.elim
      | some o =>
        rw [e] at q
        cases o with
        | ins D fs =>
          obtain ⟨dx, gs, h1, h2, h3⟩ := t.obj i a _ ha e
          by_cases c : D = C
          · subst c
            simp only [if_true] at q
            cases e2 : fs.lookup f with
            | none => rw [e2] at q; exact q.elim
            | some p =>
              rw [e2] at q
              obtain ⟨v, h4, h5⟩ := lookup_rel h2 h3 e2
              exact ⟨a, dx, gs, v, rfl, h1, h4, q ρ v H Step.refl h5 t⟩
          · simp only [if_neg c] at q
            exact q.elim
        | _ => exact q.elim
    | _ => exact q.elim
theorem le_fld {e : Expr} {f : Str} {C : Addr} {d : DE} {pos : Pos} (h : LE X W e d) (c : Cls X.K C) (n : NoAttr X.K C f) (hb : attributeBase e f X.env (eval e X.env) = eval e X.env := by rfl) : LE X W (.Attribute e f pos) (dApp (vFld C f) (dCons d dNil)) :=
  (pe_fld h hb).impD fun σ H Q h => (app1 h).mono fun x H1 h =>
    let ⟨a, dx, gs, v, e1, e2, e3, q⟩ := fld_of h
    ⟨a, C, dx, gs, v, e1, e2, c, n, e3, q⟩
end
end DL
namespace DL
open PySem PySem.Spec PyProof.Rows L2
namespace PV
mutual
def beq : PV → PV → Bool
  | .non, b => match b with | .non => true | _ => false
  | .bl x, b => match b with | .bl y => x == y | _ => false
  | .int x, b => match b with | .int y => decide (x = y) | _ => false
  | .str x, b => match b with | .str y => decide (x = y) | _ => false
  | .tup x, b => match b with | .tup y => beqs x y | _ => false
  | .ref x, b => match b with | .ref y => decide (x = y) | _ => false
  | .ty x, b => match b with | .ty y => decide (x = y) | _ => false
  | .glb x, b => match b with | .glb y => decide (x = y) | _ => false
  | .exc x p, b => match b with | .exc y q => decide (x = y) && beq p q | _ => false
def beqs : List PV → List PV → Bool
  | [], b => match b with | [] => true | _ => false
  | x :: xs, b => match b with | y :: ys => beq x y && beqs xs ys | _ => false
end
mutual
theorem beq_self : ∀ a : PV, beq a a = true
  | .non => rfl
  | .bl x => by simp [beq]
  | .int x => by simp [beq]
  | .str x => by simp [beq]
  | .tup x => by rw [beq]; exact beqs_self x
  | .ref x => by simp [beq]
  | .ty x => by simp [beq]
  | .glb x => by simp [beq]
  | .exc x p => by rw [beq, beq_self p]; simp
theorem beqs_self : ∀ a : List PV, beqs a a = true
  | [] => rfl
  | x :: xs => by rw [beqs, beq_self x, beqs_self xs]; rfl
end
mutual
theorem eq_of : ∀ a b : PV, beq a b = true → a = b
  | .non, b, h => by cases b <;> first | rfl | cases h
  | .bl x, b, h => by cases b <;> first | (simp only [beq, beq_iff_eq] at h; rw [h]) | cases h
  | .int x, b, h => by cases b <;> first | (simp only [beq, decide_eq_true_eq] at h; rw [h]) | cases h
  | .str x, b, h => by cases b <;> first | (simp only [beq, decide_eq_true_eq] at h; rw [h]) | cases h
  | .tup x, b, h => by
    cases b with
    | tup y => rw [beq] at h; rw [eqs_of x y h]
    | _ => cases h
  | .ref x, b, h => by cases b <;> first | (simp only [beq, decide_eq_true_eq] at h; rw [h]) | cases h
  | .ty x, b, h => by cases b <;> first | (simp only [beq, decide_eq_true_eq] at h; rw [h]) | cases h
  | .glb x, b, h => by cases b <;> first | (simp only [beq, decide_eq_true_eq] at h; rw [h]) | cases h
  | .exc x p, b, h => by
    cases b with
    | exc y q =>
      rw [beq, Bool.and_eq_true, decide_eq_true_eq] at h
      rw [h.1, eq_of p q h.2]
    | _ => cases h
theorem eqs_of : ∀ a b : List PV, beqs a b = true → a = b
  | [], b, h => by cases b <;> first | rfl | cases h
  | x :: xs, b, h => by
    cases b with
    | nil => cases h
    | cons y ys =>
      rw [beqs, Bool.and_eq_true] at h
      rw [eq_of x y h.1, eqs_of xs ys h.2]
end
instance : DecidableEq PV := fun a b => if h : beq a b = true then .isTrue (eq_of a b h) else .isFalse fun e => h (by rw [e]; exact beq_self b)
end PV
inductive Out where
  | nx | rt (v : PV) | bk | ct
inductive FOut where
  | nx (σ : L2.St) | rt (v : V) | bk (σ : L2.St) | ct (σ : L2.St)
inductive RO (K : PySem.W.Frag) (ρ : List Addr) (H : Hp) : Out × Env' → FOut → Prop
  | nx {η : Env'} {σ : L2.St} : REnv K ρ H η σ → RO K ρ H (.nx, η) (.nx σ)
  | rt {η : Env'} {p : PV} {v : V} : RV K ρ H p v → RO K ρ H (.rt p, η) (.rt v)
  | bk {η : Env'} {σ : L2.St} : REnv K ρ H η σ → RO K ρ H (.bk, η) (.bk σ)
  | ct {η : Env'} {σ : L2.St} : REnv K ρ H η σ → RO K ρ H (.ct, η) (.ct σ)
def endQ (D : L2.Ends) : FOut → Hp → Prop
  | .nx σ, H => D.nx σ H
  | .rt v, H => D.rt v H
  | .bk σ, H => D.bk σ H
  | .ct σ, H => D.ct σ H
abbrev DS := Env' → Sto → Rz (Out × Env')
section
variable (P : Program) (w : World) (K : PySem.W.Frag) (W : EW)
def TS' (d : DS) : TS := fun D σ H => ∃ ρ η μ, REnv K ρ H η σ ∧ RSt P w K ρ H μ ∧ Post P w K W ρ H (d η μ) (RO K) (endQ D)
end
abbrev LS (X : Cx) (W : EW) (st : Stmt) (d : DS) : Prop := PS X st (TS' X.prog X.w X.K W d)
abbrev LSs (X : Cx) (W : EW) (st : List Stmt) (d : DS) : Prop := PSs X st (TS' X.prog X.w X.K W d)
def sNil : DS := fun η μ => .ok (.nx, η) μ
def sSeq (a b : DS) : DS := fun η μ => (a η μ).bind fun o μ1 => match o.1 with
  | .nx => b o.2 μ1
  | _ => .ok o μ1
def sExpr (d : DE) : DS := fun η μ => (d η μ).bind fun _ μ1 => .ok (.nx, η) μ1
def sRet (d : DE) : DS := fun η μ => (d η μ).bind fun p μ1 => .ok (.rt p, η) μ1
def sIf (c : DT) (a b : DS) : DS := fun η μ => (c η μ).bind fun k μ1 => if k = true then a η μ1 else b η μ1
section
variable {X : Cx} {W : EW}
theorem lss_nil : LSs X W [] sNil := pss_nil.impD fun D σ H ⟨ρ, η, μ, en, s, q⟩ => q ρ (.nx σ) H Step.refl (.nx en) s
theorem seq_of {a b : DS} {D : L2.Ends} {σ : L2.St} {H : Hp} (h : TS' X.prog X.w X.K W (sSeq a b) D σ H) : TS' X.prog X.w X.K W a { D with nx := TS' X.prog X.w X.K W b D } σ H := by
  obtain ⟨ρ, η, μ, en, s, q⟩ := h
  refine ⟨ρ, η, μ, en, s, (Post.bind q).mono fun x H1 ⟨ρ1, o, μ1, st, r, s1, q1⟩ => ?_⟩
  cases r with
  | nx en1 => exact ⟨ρ1, _, μ1, en1, s1, q1⟩
  | rt r1 => exact q1 ρ1 _ H1 Step.refl (.rt r1) s1
  | bk en1 => exact q1 ρ1 _ H1 Step.refl (.bk en1) s1
  | ct en1 => exact q1 ρ1 _ H1 Step.refl (.ct en1) s1
theorem lss_cons {st : Stmt} {rest : List Stmt} {a b : DS} (h1 : LS X W st a) (h2 : LSs X W rest b) : LSs X W (st :: rest) (sSeq a b) := (pss_cons h1 h2).impD fun D σ H h => seq_of h
theorem lss_one {st : Stmt} {a : DS} (h1 : LS X W st a) : LSs X W [st] a := pss_one h1
theorem ls_expr {e : Expr} {d : DE} {pos : Pos} (h : LE X W e d) (hs : swapsWith e none pos.line X.env = pure false := by rfl) : LS X W (.Expr e pos) (sExpr d) :=
  (ps_expr h hs).impD fun D σ H ⟨ρ, η, μ, en, s, q⟩ => ⟨ρ, η, μ, en, s, (Post.bind q).mono fun x H1 ⟨ρ1, a, μ1, st, r, s1, q1⟩ => q1 ρ1 (.nx σ) H1 Step.refl (.nx (en.step st)) s1⟩
theorem ls_ret {e : Expr} {d : DE} {pos : Pos} (h : LE X W e d) : LS X W (.Return (some e) pos) (sRet d) :=
  (ps_ret h).impD fun D σ H ⟨ρ, η, μ, en, s, q⟩ => ⟨ρ, η, μ, en, s, (Post.bind q).mono fun x H1 ⟨ρ1, a, μ1, st, r, s1, q1⟩ => q1 ρ1 (.rt x) H1 Step.refl (.rt r) s1⟩
theorem ls_if {c : Expr} {a b : List Stmt} {dc : DT} {da db : DS} {pos : Pos} (hc : LT X W c dc) (ha : LSs X W a da) (hb : LSs X W b db) : LS X W (.If c a b pos) (sIf dc da db) :=
  (ps_if hc ha hb).impD fun D σ H ⟨ρ, η, μ, en, s, q⟩ => ⟨ρ, η, μ, en, s, (Post.bind q).mono fun x H1 ⟨ρ1, a, μ1, st, r, s1, q1⟩ => by
    subst r
    by_cases c : a = true
    · rw [if_pos c] at q1 ⊢
      exact ⟨ρ1, η, μ1, en.step st, s1, q1⟩
    · rw [if_neg c] at q1 ⊢
      exact ⟨ρ1, η, μ1, en.step st, s1, q1⟩⟩
end
/-- equal but for some slots -/
def Agree (js : List Nat) (σ σ' : L2.St) : Prop := σ'.length = σ.length ∧ ∀ i, i ∉ js → σ'[i]? = σ[i]?
theorem Agree.refl {js : List Nat} {σ : L2.St} : Agree js σ σ := ⟨rfl, fun _ _ => rfl⟩
theorem Agree.trans {js : List Nat} {σ σ1 σ2 : L2.St} (a : Agree js σ σ1) (b : Agree js σ1 σ2) : Agree js σ σ2 := ⟨b.1.trans a.1, fun i h => (b.2 i h).trans (a.2 i h)⟩
theorem Agree.mono {js ks : List Nat} {σ σ1 : L2.St} (a : Agree js σ σ1) (h : ∀ i ∈ js, i ∈ ks) : Agree ks σ σ1 := ⟨a.1, fun i hn => a.2 i fun z => hn (h i z)⟩
theorem wipe_get (σ : L2.St) (vs : List Nat) (i : Nat) : (wipe σ vs)[i]? = if i ∈ vs then (if i < σ.length then some none else none) else σ[i]? := by
  induction vs with
  | nil => simp [wipe]
  | cons v vs ih =>
    unfold wipe
    by_cases h : v = i
    · subst h
      rw [if_pos List.mem_cons_self]
      by_cases hl : v < σ.length
      · rw [List.getElem?_set_self (by rw [wipe_length]; exact hl), if_pos hl]
      · rw [List.getElem?_eq_none (by rw [List.length_set, wipe_length]; omega), if_neg hl]
    · rw [List.getElem?_set_ne h, ih]
      by_cases h2 : i ∈ vs
      · rw [if_pos h2, if_pos (List.mem_cons_of_mem _ h2)]
      · rw [if_neg h2, if_neg fun z => by
          rcases List.mem_cons.mp z with z | z
          · exact h z.symm
          · exact h2 z]
theorem Agree.wipe {js : List Nat} {σ σ' : L2.St} (a : Agree js σ σ') : L2.wipe σ' js = L2.wipe σ js := by
  refine List.ext_getElem? fun i => ?_
  rw [wipe_get, wipe_get, a.1]
  by_cases h : i ∈ js
  · rw [if_pos h, if_pos h]
  · rw [if_neg h, if_neg h, a.2 i h]
theorem wipe_wipe (σ : L2.St) (vs : List Nat) : L2.wipe (L2.wipe σ vs) vs = L2.wipe σ vs := by
  refine List.ext_getElem? fun i => ?_
  rw [wipe_get, wipe_get, wipe_length]
  by_cases h : i ∈ vs
  · rw [if_pos h, if_pos h]
  · rw [if_neg h, if_neg h]
def wipeE (η : Env') (vs : List Nat) : Env' := vs.foldr (fun v e => e.set v none) η
theorem REnv.wipe {K : PySem.W.Frag} {ρ : List Addr} {H : Hp} {η : Env'} {σ : L2.St} (h : REnv K ρ H η σ) : ∀ vs : List Nat, REnv K ρ H (wipeE η vs) (L2.wipe σ vs)
  | [] => h
  | v :: vs => by
    have ih := REnv.wipe h vs
    refine ⟨?_, fun i p e => ?_⟩
    · show ((wipeE η vs).set v none).length = ((L2.wipe σ vs).set v none).length
      rw [List.length_set, List.length_set]
      exact ih.1
    · have e : ((wipeE η vs).set v none)[i]? = some (some p) := e
      show ∃ w', ((L2.wipe σ vs).set v none)[i]? = some (some w') ∧ _
      by_cases hv : v = i
      · subst hv
        by_cases hl : v < (wipeE η vs).length
        · rw [List.getElem?_set_self hl] at e
          cases e
        · rw [List.getElem?_eq_none (by rw [List.length_set]; omega)] at e
          cases e
      · rw [List.getElem?_set_ne hv] at e ⊢
        exact ih.2 i p e
abbrev DG := PV → Env' → Sto → Rz Env'
section
variable (P : Program) (w : World) (K : PySem.W.Frag) (W : EW)
def RG (js : List Nat) (σ : L2.St) (ρ : List Addr) (H : Hp) (η' : Env') (σ' : L2.St) : Prop := REnv K ρ H η' σ' ∧ Agree js σ σ'
def TG' (js : List Nat) (g : DG) : TG := fun v σ H Q => ∃ ρ η μ p, REnv K ρ H η σ ∧ RV K ρ H p v ∧ RSt P w K ρ H μ ∧ Post P w K W ρ H (g p η μ) (RG K js σ) Q
def TGs' (js : List Nat) (g : List PV → Env' → Sto → Rz Env') : TGs := fun vs σ H Q => ∃ ρ η μ ps, REnv K ρ H η σ ∧ RVs K ρ H ps vs ∧ RSt P w K ρ H μ ∧ Post P w K W ρ H (g ps η μ) (RG K js σ) Q
end
abbrev LG (X : Cx) (W : EW) (js : List Nat) (t : Expr) (g : DG) : Prop := PG X t (TG' X.prog X.w X.K W js g)
abbrev LGs (X : Cx) (W : EW) (js : List Nat) (ts : List Expr) (g : List PV → Env' → Sto → Rz Env') : Prop := PGs X ts (TGs' X.prog X.w X.K W js g)
theorem _root_.L2.PG.impD {X : Cx} {t : Expr} {g g' : TG} (h : PG X t g) (i : ∀ v σ H Q, g' v σ H Q → g v σ H Q) : PG X t g' := ⟨fun pins s σ H v u Q I r hw => h.run pins s σ H v u Q I r (i _ _ _ _ hw)⟩
theorem _root_.L2.PGs.impD {X : Cx} {t : List Expr} {g g' : TGs} (h : PGs X t g) (i : ∀ v σ H Q, g' v σ H Q → g v σ H Q) : PGs X t g' := ⟨fun pins s σ H v u Q I r hw => h.run pins s σ H v u Q I r (i _ _ _ _ hw)⟩
def gSet (i : Nat) : DG := fun p η μ => .ok (η.set i (some p)) μ
def gNil' : List PV → Env' → Sto → Rz Env' := fun ps η μ => match ps with
  | [] => .ok η μ
  | _ => .bad
def gCons' (g : DG) (gs : List PV → Env' → Sto → Rz Env') : List PV → Env' → Sto → Rz Env' := fun ps η μ => match ps with
  | p :: r => (g p η μ).bind fun η1 μ1 => gs r η1 μ1
  | [] => .bad
/-- (a, b, ..) = a tuple or a list of so many -/
def gTupA (n : Nat) (gs : List PV → Env' → Sto → Rz Env') : DG := fun p η μ => match items p μ with
  | some ps => if ps.length = n then gs ps η μ else .bad
  | none => .bad
section
variable {X : Cx} {W : EW} {js ks : List Nat}
theorem lg_name {i : Nat} {x : Str} {pos : Pos} (h : PG X (.Name x pos) (gName i)) : LG X W [i] (.Name x pos) (gSet i) := h.impD fun v σ H Q ⟨ρ, η, μ, p, en, r, s, q⟩ =>
  q ρ _ H Step.refl ⟨en.set r i, ⟨by rw [List.length_set], fun j hj => List.getElem?_set_ne fun e => hj (by rw [e]; exact List.mem_singleton.mpr rfl)⟩⟩ s
theorem LG.wide {t : Expr} {g : DG} (h : LG X W js t g) (hs : ∀ i ∈ js, i ∈ ks) : LG X W ks t g := h.impD fun v σ H Q ⟨ρ, η, μ, p, en, r, s, q⟩ => ⟨ρ, η, μ, p, en, r, s, by
  cases e : g p η μ with
  | ok a μ' =>
    rw [e] at q
    exact fun ρ' x H' st rel s' => q ρ' x H' st ⟨rel.1, rel.2.mono hs⟩ s'
  | err C v μ' => rw [e] at q; exact q
  | bad => rw [e] at q; exact q⟩
theorem lgs_nil : LGs X W js [] gNil' := pgs_nil.impD fun vs σ H Q ⟨ρ, η, μ, ps, en, r, s, q⟩ => by
  cases r with
  | nil => exact ⟨rfl, q ρ σ H Step.refl ⟨en, .refl⟩ s⟩
  | cons _ _ => exact q.elim
theorem lgs_cons {e : Expr} {es : List Expr} {g : DG} {gs : List PV → Env' → Sto → Rz Env'} (h1 : LG X W js e g) (h2 : LGs X W js es gs)
    (hs : (assignEach (e :: es) X.env).map (·.2) = assign e X.env :: (assignEach es X.env).map (·.2) := by rfl) : LGs X W js (e :: es) (gCons' g gs) := (pgs_cons h1 h2 hs).impD fun vs σ H Q ⟨ρ, η, μ, ps, en, r, s, q⟩ => by
  cases r with
  | nil => exact q.elim
  | cons r1 r2 =>
    refine ⟨_, _, rfl, ρ, η, μ, _, en, r1, s, (Post.bind q).mono fun σ1 H1 ⟨ρ1, η1, μ1, st, rel, s1, q1⟩ => ?_⟩
    refine ⟨ρ1, η1, μ1, _, rel.1, r2.step st, s1, ?_⟩
    revert q1
    generalize gs _ η1 μ1 = res
    intro q1
    cases res with
    | ok a μ' => exact fun ρ' x H' st' rel' s' => q1 ρ' x H' st' ⟨rel'.1, rel.2.trans rel'.2⟩ s'
    | err C v μ' => exact q1
    | bad => exact q1
theorem lg_tup {es : List Expr} {k n : Nat} {pos : Pos} {gs : List PV → Env' → Sto → Rz Env'} (hc : X.calm = true) (h : LGs X W js es gs)
    (hn : (assignEach es X.env).length = n := by rfl) (hst : (assignEach es X.env).findIdx? (·.1) = none := by rfl) : LG X W js (.Tuple es k pos) (gTupA n gs) := by
  refine ⟨fun pins s σ H v u Q I r hw => ?_⟩
  obtain ⟨ρ, η, μ, p, en, rp, t, q⟩ := hw
  unfold gTupA at q
  cases e : items p μ with
  | none => rw [e] at q; exact q.elim
  | some ps =>
    rw [e] at q
    by_cases c : ps.length = n
    · simp only [if_pos c] at q
      obtain ⟨a, vs, e1, e2, e3⟩ := items_of t rp e
      rcases e2 with e2 | e2
      · exact (pg_tup hc h hn hst).run pins s σ H v u Q I r ⟨a, vs, e1, e2, by rw [← e3.length]; exact c, ρ, η, μ, ps, en, e3, t, q⟩
      · exact (L2.pg_unl hc h hn hst).run pins s σ H v u Q I r ⟨a, vs, e1, e2, by rw [← e3.length]; exact c, ρ, η, μ, ps, en, e3, t, q⟩
    · simp only [if_neg c] at q
      exact q.elim
/-- target = value -/
def sAsg (d : DE) (g : DG) : DS := fun η μ => (d η μ).bind fun p μ1 => (g p η μ1).bind fun η' μ2 => .ok (.nx, η') μ2
theorem asg_of {d : DE} {g : DG} {D : L2.Ends} {σ : L2.St} {H : Hp} (h : TS' X.prog X.w X.K W (sAsg d g) D σ H) : tAsg (T X.prog X.w X.K W d) (TG' X.prog X.w X.K W js g) D σ H := by
  obtain ⟨ρ, η, μ, en, s, q⟩ := h
  refine ⟨ρ, η, μ, en, s, (Post.bind q).mono fun x H1 ⟨ρ1, a, μ1, st, r, s1, q1⟩ => ?_⟩
  refine ⟨ρ1, η, μ1, a, en.step st, r, s1, (Post.bind q1).mono fun σ2 H2 ⟨ρ2, η2, μ2, st2, r2, s2, q2⟩ => ?_⟩
  exact q2 ρ2 (.nx σ2) H2 Step.refl (.nx r2.1) s2
theorem ls_asg {tg e : Expr} {d : DE} {g : DG} {pos : Pos} (he : LE X W e d) (hg : LG X W js tg g) (hs : swapsWithSole [tg] e pos.line X.env = pure false := by rfl) (hw : swappedStores [tg] e X.env = pure none := by rfl)
    (h1 : (assignEach [tg] X.env).map (·.2) = [assign tg X.env] := by rfl) : LS X W (.Assign [tg] e pos) (sAsg d g) := (ps_asg he hg hs hw h1).impD fun D σ H h => asg_of h
/-- a, b = x, y -/
def sPar (i j : Nat) (ds : DA) : DS := fun η μ => (ds η μ).bind fun ps μ1 => match ps with
  | [p, q] => .ok (.nx, (η.set i (some p)).set j (some q)) μ1
  | _ => .bad
theorem ls_par {i j : Nat} {x y : Str} {a b : Expr} {ds : DA} {px py pt : Pos} {kt k2 : Nat} {pt2 pos : Pos} (hc : X.calm = true) (hN : X.N.Nodup) (hi : X.N[i]? = some x) (hj : X.N[j]? = some y) (hij : i ≠ j)
    (hx : X.env.scope.names.lookup x = some .local) (hy : X.env.scope.names.lookup y = some .local) (ha : LA X W [a, b] ds)
    (hw : swappedStores [.Tuple [.Name x px, .Name y py] kt pt] (.Tuple [a, b] k2 pt2) X.env = pure (some [x, y]))
    (hs : swapsWithSole [.Tuple [.Name x px, .Name y py] kt pt] (.Tuple [a, b] k2 pt2) pos.line X.env = pure false := by rfl) :
    LS X W (.Assign [.Tuple [.Name x px, .Name y py] kt pt] (.Tuple [a, b] k2 pt2) pos) (sPar i j ds) := (ps_par hc hN hi hj hij hx hy ha hw hs).impD fun D σ H ⟨ρ, η, μ, en, s, q⟩ => by
  refine ⟨ρ, η, μ, en, s, (Post.bind q).mono fun xs H1 ⟨ρ1, ps, μ1, st, r, s1, q1⟩ => ?_⟩
  cases r with
  | nil => exact q1.elim
  | cons r1 r2 =>
    cases r2 with
    | nil => exact q1.elim
    | cons r2 r3 =>
      cases r3 with
      | nil => exact ⟨_, _, rfl, q1 ρ1 (.nx _) H1 Step.refl (.nx (((en.step st).set r1 i).set r2 j)) s1⟩
      | cons _ _ => exact q1.elim
end
end DL
namespace DL
open PySem PySem.Spec PyProof.Rows L2
/-- what is walked: the items, and what must stand at each turn -/
structure Wk (P : Program) (w : World) (K : PySem.W.Frag) (J : It) (ρ0 : List Addr) (H0 : Hp) (its : List PV) (gd : Sto → Bool) : Prop where
  go : ∀ (i : Nat) (p : PV) (ρ : List Addr) (H : Hp) (μ : Sto), Grow K ρ0 H0 ρ H → RSt P w K ρ H μ → gd μ = true → its[i]? = some p →
    J.go i H ∧ ∀ x H', J.yld i H x H' → Step K ρ H ρ H' ∧ RSt P w K ρ H' μ ∧ RV K ρ H' p x
  stop : ∀ (ρ : List Addr) (H : Hp) (μ : Sto), Grow K ρ0 H0 ρ H → RSt P w K ρ H μ → gd μ = true → J.stop its.length H
abbrev DI := Env' → Sto → Rz (List PV × (Sto → Bool))
section
variable (P : Program) (w : World) (K : PySem.W.Frag) (W : EW)
def RI (ρ : List Addr) (H : Hp) (x : List PV × (Sto → Bool)) (J : It) : Prop := Wk P w K J ρ H x.1 x.2
def TI' (d : DI) : TI := fun σ H R => ∃ ρ η μ, REnv K ρ H η σ ∧ RSt P w K ρ H μ ∧ Post P w K W ρ H (d η μ) (RI P w K) R
end
abbrev LI (X : Cx) (W : EW) (tg it : Expr) (d : DI) : Prop := PI X tg it (TI' X.prog X.w X.K W d)
theorem _root_.L2.PI.impD {X : Cx} {tg e : Expr} {t t' : TI} (h : PI X tg e t) (i : ∀ σ H R, t' σ H R → t σ H R) : PI X tg e t' := ⟨fun pins s σ H R I hw => h.run pins s σ H R I (i _ _ _ hw)⟩
def forGo (gd : Sto → Bool) (g : DG) (body : DS) : List PV → Env' → Sto → Rz (Out × Env')
  | [], η, μ => if gd μ = true then .ok (.nx, η) μ else .bad
  | p :: rest, η, μ => if gd μ = true then (g p η μ).bind fun η1 μ1 => (body η1 μ1).bind fun o μ2 => match o.1 with
      | .nx => forGo gd g body rest o.2 μ2
      | .ct => forGo gd g body rest o.2 μ2
      | .bk => .ok (.nx, o.2) μ2
      | .rt v => .ok (.rt v, o.2) μ2
    else .bad
def sFor (di : DI) (g : DG) (body : DS) : DS := fun η μ => (di η μ).bind fun x μ1 => forGo x.2 g body x.1 η μ1
section
variable {X : Cx} {W : EW} {js : List Nat}
theorem ls_for {tg iter : Expr} {body : List Stmt} {di : DI} {g : DG} {db : DS} {pos : Pos} (hp : PassesOwn (model X.prog X.w) X.A X.env X.xe) (hc : X.calm = true) (hi : LI X W tg iter di) (hg : LG X W js tg g) (hb : LSs X W body db)
    (hs : ∀ x, foldedSetIterable iter X.env x = pure x := by intro _; rfl) : LS X W (.For tg iter body [] pos) (sFor di g db) := (ps_for hp hc hi hg hb hs).impD fun D σ H ⟨ρ, η, μ, en, s, q⟩ => by
  refine ⟨ρ, η, μ, en, s, (Post.bind q).mono fun J H1 ⟨ρ1, a, μ1, st, wk, s1, q1⟩ => ?_⟩
  obtain ⟨its, gd⟩ := a
  have wk : Wk X.prog X.w X.K J ρ1 H1 its gd := wk
  refine ⟨fun i m σ H => i + m = its.length ∧ ∃ ρ2 η μ2, Grow X.K ρ1 H1 ρ2 H ∧ REnv X.K ρ2 H η σ ∧ RSt X.prog X.w X.K ρ2 H μ2 ∧ Post X.prog X.w X.K W ρ2 H (forGo gd g db (its.drop i) η μ2) (RO X.K) (endQ D), ⟨its.length, Nat.zero_add _, ρ1, η, μ1, Step.refl.grow, en.step st, s1, q1⟩, ?_⟩
  rintro i m σ2 H2 ⟨hm, ρ2, η2, μ2, gr, en2, s2, q2⟩
  cases e : its.drop i with
  | nil =>
    left
    rw [e] at q2
    unfold forGo at q2
    by_cases c : gd μ2 = true
    · rw [if_pos c] at q2
      have hl : its.length ≤ i := List.drop_eq_nil_iff.mp e
      exact ⟨(show i = its.length by omega) ▸ wk.stop ρ2 H2 μ2 gr s2 c, q2 ρ2 (.nx σ2) H2 Step.refl (.nx en2) s2⟩
    · rw [if_neg c] at q2
      exact q2.elim
  | cons p rest =>
    right
    have hp : its[i]? = some p := by
      have := congrArg (fun l => l[0]?) e
      simpa using this
    have hr : its.drop (i + 1) = rest := by
      rw [← List.drop_drop, e]
      rfl
    have hi : i < its.length := (List.getElem?_eq_some_iff.mp hp).1
    rw [e] at q2
    unfold forGo at q2
    by_cases c : gd μ2 = true
    · rw [if_pos c] at q2
      obtain ⟨h1, h2⟩ := wk.go i p ρ2 H2 μ2 gr s2 c hp
      refine ⟨h1, fun σ' H' => (i + 1) + (m - 1) = its.length ∧ ∃ ρ2 η μ2, Grow X.K ρ1 H1 ρ2 H' ∧ REnv X.K ρ2 H' η σ' ∧ RSt X.prog X.w X.K ρ2 H' μ2 ∧ Post X.prog X.w X.K W ρ2 H' (forGo gd g db rest η μ2) (RO X.K) (endQ D), fun σ' H' ⟨k1, k2⟩ => ⟨m - 1, by omega, k1, by rw [hr]; exact k2⟩, fun x H3 hy => ?_⟩
      obtain ⟨st3, s3, r3⟩ := h2 x H3 hy
      refine ⟨ρ2, η2, μ2, p, en2.step st3, r3, s3, (Post.bind (Post.step st3 q2)).mono fun σ4 H4 ⟨ρ4, η4, μ4, st4, rel4, s4, q4⟩ => ?_⟩
      refine ⟨ρ4, η4, μ4, rel4.1, s4, (Post.bind q4).mono fun x5 H5 ⟨ρ5, o5, μ5, st5, rel5, s5, q5⟩ => ?_⟩
      have gr5 : Grow X.K ρ1 H1 ρ5 H5 := ⟨fun j a ha => st5.get (st4.get (st3.get (gr.get j a ha))), fun b xs hb => st5.tup _ _ (st4.tup _ _ (st3.tup _ _ (gr.tup _ _ hb))), ((gr.dct.trans st3.dct).trans st4.dct).trans st5.dct, fun b o u hb => st5.fz _ _ _ (st4.fz _ _ _ (st3.fz _ _ _ (gr.fz _ _ _ hb)))⟩
      cases rel5 with
      | nx en5 => exact ⟨by omega, ρ5, _, μ5, gr5, en5, s5, q5⟩
      | ct en5 => exact ⟨by omega, ρ5, _, μ5, gr5, en5, s5, q5⟩
      | bk en5 => exact q5 ρ5 (.nx _) H5 Step.refl (.nx en5) s5
      | rt r5 => exact q5 ρ5 (.rt _) H5 Step.refl (.rt r5) s5
    · rw [if_neg c] at q2
      exact q2.elim
end
/-- nothing is raised -/
def EW0 : EW := fun _ _ _ _ _ => False
/-- an error that would leave a comprehension is not served -/
def calmR {α : Type} (r : Rz α) : Rz α := match r with
  | .ok a μ => .ok a μ
  | _ => .bad
theorem Post.calm {α β : Type} {P : Program} {w : World} {K : PySem.W.Frag} {W W' : EW} {ρ : List Addr} {H : Hp} {r : Rz α} {Rel : List Addr → Hp → α → β → Prop} {Q : β → Hp → Prop} (h : Post P w K W ρ H (calmR r) Rel Q) : Post P w K W' ρ H r Rel Q := by
  cases r with
  | ok a μ => exact h
  | err C v μ => exact h.elim
  | bad => exact h
def lcGo (gd : Sto → Bool) (g : DG) (tt : DT) (el : Env' → Sto → List PV → Rz (List PV)) (η : Env') : List PV → List PV → Sto → Rz (List PV)
  | [], acc, μ => if gd μ = true then .ok acc μ else .bad
  | p :: rest, acc, μ => if gd μ = true then (calmR (g p η μ)).bind fun η1 μ1 => (calmR (tt η1 μ1)).bind fun k μ2 =>
      if k = true then (calmR (el η1 μ2 acc)).bind fun acc' μ3 => lcGo gd g tt el η rest acc' μ3
      else lcGo gd g tt el η rest acc μ2
    else .bad
/-- one more item -/
def elOne (d : DE) : Env' → Sto → List PV → Rz (List PV) := fun η μ acc => if acc.length < sizeLine then (d η μ).bind fun p μ1 => .ok (acc ++ [p]) μ1 else .bad
def tYes' : DT := fun _ μ => .ok true μ
/-- the list is handed back -/
def lcEnd : List PV → Sto → Rz PV := fun acc μ => .ok (.ref μ.length) (μ ++ [.lst acc])
def dLc (di : DI) (g : DG) (tt : DT) (d : DE) (vs : List Nat) : DE := fun η μ => (di η μ).bind fun x μ1 => (lcGo x.2 g tt (elOne d) (wipeE η vs) x.1 [] μ1).bind lcEnd
abbrev LTs (X : Cx) (W : EW) (ifs : List Expr) (d : DT) : Prop := PTs X ifs (TB X.prog X.w X.K W d)
theorem _root_.L2.PTs.impD {X : Cx} {ifs : List Expr} {t t' : TT} (h : PTs X ifs t) (i : ∀ σ H Q, t' σ H Q → t σ H Q) : PTs X ifs t' := ⟨fun pins s σ H Q I hw => h.run pins s σ H Q I (i _ _ _ hw)⟩
section
variable {X : Cx} {W : EW}
theorem lts_nil : LTs X W [] tYes' := pts_nil.impD fun σ H Q ⟨ρ, η, μ, en, s, q⟩ => q ρ true H Step.refl rfl s
theorem lts_one {c : Expr} {d : DT} (h : LT X W c d) : LTs X W [c] d := pts_one h
end
/-- the invariant of a comprehension's loop: D is the list that grows, acc what it holds -/
structure LcI (P : Program) (w : World) (K : PySem.W.Frag) (ρ1 : List Addr) (H1 : Hp) (D : Addr) (ρ : List Addr) (H : Hp) (μ : Sto) (acc : List PV) : Prop where
  st : Step K ρ1 H1 ρ H
  rs : RSt P w K ρ H μ
  nD : D ∉ ρ
  at_ : ∃ vs, H D = some (.lst vs) ∧ RVs K ρ H acc vs
section
variable {P : Program} {w : World} {K : PySem.W.Frag} {ρ1 ρ ρ' : List Addr} {H1 H H' : Hp} {D : Addr} {μ μ' : Sto} {acc : List PV}
theorem LcI.step (x : LcI P w K ρ1 H1 D ρ H μ acc) (st : Step K ρ H ρ' H') (s : RSt P w K ρ' H' μ') : LcI P w K ρ1 H1 D ρ' H' μ' acc := by
  obtain ⟨vs, hD, r⟩ := x.at_
  refine ⟨x.st.trans st, s, fun hm => ?_, vs, st.keep D _ hD x.nD (fun _ z => nomatch z), r.step st⟩
  obtain ⟨more, e, f⟩ := st.ext
  rw [e] at hm
  rcases List.mem_append.mp hm with hm | hm
  · exact x.nD hm
  · exact f D hm _ hD fun _ z => nomatch z
theorem LcI.push (x : LcI P w K ρ1 H1 D ρ H μ acc) (h0 : H1 D = none) {p : PV} {y : V} (r : RV K ρ H p y) : ∃ vs, H D = some (.lst vs) ∧ vs.length = acc.length ∧ LcI P w K ρ1 H1 D ρ (upd H D (.lst (vs ++ [y]))) μ (acc ++ [p]) := by
  obtain ⟨vs, hD, rs⟩ := x.at_
  have hm : Mut (H D) := by rw [hD]; trivial
  have gr : Grow K ρ H ρ (upd H D (.lst (vs ++ [y]))) := Grow.write hm (DW.lst hD)
  exact ⟨vs, hD, rs.length.symm, x.st.over h0 hm (DW.lst hD) (nc_lst.code hD), x.rs.over x.nD hm (DW.lst hD) (nc_lst.code hD), x.nD, _, upd_same, (rs.append (.cons r .nil)).grow gr⟩
theorem LcI.start (s : RSt P w K ρ1 H1 μ) (h0 : H1 D = none) : LcI P w K ρ1 H1 D ρ1 (upd H1 D (.lst [])) μ [] :=
  ⟨Step.quiet h0, s.quiet h0, s.fresh h0, [], upd_same, .nil⟩
theorem LcI.done (x : LcI P w K ρ1 H1 D ρ H μ acc) (h0 : H1 D = none) {W : EW} {Q : VK} (q : Post P w K W ρ1 H1 (.ok (.ref μ.length) (μ ++ [.lst acc])) (RV K) Q) : Q (.ref D) H := by
  obtain ⟨vs, hD, rs⟩ := x.at_
  have gr : Grow K ρ H (ρ ++ [D]) H := ⟨fun i a ha => by
    rw [List.getElem?_append_left (List.getElem?_eq_some_iff.mp ha).1]
    exact ha, fun _ _ h => h, DKeep.refl, fun _ _ _ h => h⟩
  obtain ⟨more, e, f⟩ := x.st.ext
  refine q (ρ ++ [D]) (.ref D) H ⟨⟨more ++ [D], by rw [e, List.append_assoc], fun p hp o ho => ?_⟩, x.st.keep, x.st.tup, x.st.live, x.st.dct, x.st.fz, fun p hp h => (x.st.tbl p hp h).num hD nc_lst⟩ (.ref ?_) ⟨by simp [x.rs.len], ?_, fun i a o ha ho => ?_, fun p hp => (x.rs.tab p hp).num hD nc_lst⟩
  · rcases List.mem_append.mp hp with hp | hp
    · exact f p hp o ho
    · rw [List.mem_singleton.mp hp, h0] at ho
      cases ho
  · rw [x.rs.len, List.getElem?_append_right (Nat.le_refl _), Nat.sub_self]
    rfl
  · rw [List.nodup_append]
    refine ⟨x.rs.nd, by simp, fun a ha b hb => ?_⟩
    rw [List.mem_singleton.mp hb]
    exact fun e => x.nD (e ▸ ha)
  · by_cases hi : i < ρ.length
    · rw [List.getElem?_append_left hi] at ha
      rw [List.getElem?_append_left (by rw [x.rs.len]; exact hi)] at ho
      exact (x.rs.obj i a o ha ho).step gr fun _ h => h
    · have e : i = ρ.length := by
        have := (List.getElem?_eq_some_iff.mp ha).1
        simp at this
        omega
      subst e
      rw [List.getElem?_append_right (Nat.le_refl _), Nat.sub_self] at ha
      rw [List.getElem?_append_right (by rw [x.rs.len]; exact Nat.le_refl _), x.rs.len, Nat.sub_self] at ho
      cases ha
      cases ho
      exact ⟨vs, hD, rs.grow gr⟩
end
section
variable {X : Cx} {W : EW} {js : List Nat}
theorem lc_of {di : DI} {g : DG} {tt : DT} {d : DE} {vs : List Nat} {σ : L2.St} {H : Hp} {Q : VK} (hj : ∀ i ∈ js, i ∈ vs) (h : T X.prog X.w X.K W (dLc di g tt d vs) σ H Q) :
    tLc (TI' X.prog X.w X.K W di) (TG' X.prog X.w X.K EW0 js g) (TB X.prog X.w X.K EW0 tt) (T X.prog X.w X.K EW0 d) vs σ H Q := by
  obtain ⟨ρ, η, μ, en, s, q⟩ := h
  refine ⟨ρ, η, μ, en, s, (Post.bind q).mono fun J H1 ⟨ρ1, a, μ1, st, wk, s1, q1⟩ => ?_⟩
  obtain ⟨its, gd⟩ := a
  have wk : Wk X.prog X.w X.K J ρ1 H1 its gd := wk
  have en1 : REnv X.K ρ1 H1 (wipeE η vs) (wipe σ vs) := (en.step st).wipe vs
  intro D hD0
  refine ⟨fun i m H2 => i + m = its.length ∧ ∃ ρ2 μ2 acc, LcI X.prog X.w X.K ρ1 H1 D ρ2 H2 μ2 acc ∧
      Post X.prog X.w X.K W ρ1 H1 ((lcGo gd g tt (elOne d) (wipeE η vs) (its.drop i) acc μ2).bind lcEnd) (RV X.K) Q, ⟨its.length, Nat.zero_add _, ρ1, μ1, [], LcI.start s1 hD0, q1⟩, ?_⟩
  rintro i m H2 ⟨hm, ρ2, μ2, acc, li, q2⟩
  cases e : its.drop i with
  | nil =>
    left
    rw [e] at q2
    unfold lcGo at q2
    by_cases c : gd μ2 = true
    · rw [if_pos c] at q2
      have hl : its.length ≤ i := List.drop_eq_nil_iff.mp e
      exact ⟨(show i = its.length by omega) ▸ wk.stop ρ2 H2 μ2 li.st.grow li.rs c, li.done hD0 q2⟩
    · rw [if_neg c] at q2
      exact q2.elim
  | cons p rest =>
    right
    have hp : its[i]? = some p := by
      have := congrArg (fun l => l[0]?) e
      simpa using this
    have hr : its.drop (i + 1) = rest := by
      rw [← List.drop_drop, e]
      rfl
    have hi : i < its.length := (List.getElem?_eq_some_iff.mp hp).1
    rw [e] at q2
    unfold lcGo at q2
    by_cases c : gd μ2 = true
    · rw [if_pos c] at q2
      obtain ⟨h1, h2⟩ := wk.go i p ρ2 H2 μ2 li.st.grow li.rs c hp
      refine ⟨h1, fun H' => (i + 1) + (m - 1) = its.length ∧ ∃ ρ2 μ2 acc, LcI X.prog X.w X.K ρ1 H1 D ρ2 H' μ2 acc ∧
        Post X.prog X.w X.K W ρ1 H1 ((lcGo gd g tt (elOne d) (wipeE η vs) rest acc μ2).bind lcEnd) (RV X.K) Q, fun H' ⟨k1, k2⟩ => ⟨m - 1, by omega, k1, by rw [hr]; exact k2⟩, fun x H3 hy => ?_⟩
      obtain ⟨st3, s3, r3⟩ := h2 x H3 hy
      have li3 := li.step st3 s3
      have en3 : REnv X.K ρ2 H3 (wipeE η vs) (wipe σ vs) := en1.step li3.st
      cases eg : g p (wipeE η vs) μ2 with
      | ok η1 μ4 =>
        rw [eg] at q2
        refine ⟨ρ2, _, μ2, p, en3, r3, s3, ?_⟩
        rw [eg]
        intro ρ4 σ4 H4 st4 rel4 s4
        have li4 := li3.step st4 s4
        refine ⟨by rw [(rel4.2.mono hj).wipe, wipe_wipe], ?_⟩
        have q2 : Post X.prog X.w X.K W ρ1 H1 (((calmR (tt η1 μ4)).bind fun k μ2 => if k = true then (calmR (elOne d η1 μ2 acc)).bind fun acc' μ3 => lcGo gd g tt (elOne d) (wipeE η vs) rest acc' μ3 else lcGo gd g tt (elOne d) (wipeE η vs) rest acc μ2).bind lcEnd) (RV X.K) Q := q2
        cases et : tt η1 μ4 with
        | ok k μ5 =>
          rw [et] at q2
          refine ⟨ρ4, η1, μ4, rel4.1, s4, ?_⟩
          rw [et]
          intro ρ5 k' H5 st5 rel5 s5
          subst rel5
          have li5 := li4.step st5 s5
          have q2 : Post X.prog X.w X.K W ρ1 H1 ((if k = true then (calmR (elOne d η1 μ5 acc)).bind fun acc' μ3 => lcGo gd g tt (elOne d) (wipeE η vs) rest acc' μ3 else lcGo gd g tt (elOne d) (wipeE η vs) rest acc μ5).bind lcEnd) (RV X.K) Q := q2
          by_cases ck : k = true
          · simp only [if_pos ck] at q2 ⊢
            unfold elOne at q2
            by_cases cl : acc.length < sizeLine
            · simp only [if_pos cl] at q2
              refine ⟨ρ5, η1, μ5, rel4.1.step st5, s5, ?_⟩
              cases ee : d η1 μ5 with
              | ok pe μ6 =>
                rw [ee] at q2
                intro ρ6 y H6 st6 r6 s6
                have li6 := li5.step st6 s6
                obtain ⟨ws, e1, e2, li7⟩ := li6.push hD0 r6
                exact ⟨ws, e1, by rw [e2]; exact cl, by omega, ρ6, μ6, _, li7, q2⟩
              | err C v μ6 => rw [ee] at q2; exact q2.elim
              | bad => rw [ee] at q2; exact q2.elim
            · simp only [if_neg cl] at q2
              exact q2.elim
          · simp only [if_neg ck] at q2 ⊢
            exact ⟨by omega, ρ5, μ5, acc, li5, q2⟩
        | err C v μ5 => rw [et] at q2; exact q2.elim
        | bad => rw [et] at q2; exact q2.elim
      | err C v μ4 => rw [eg] at q2; exact q2.elim
      | bad => rw [eg] at q2; exact q2.elim
    · rw [if_neg c] at q2
      exact q2.elim
end
end DL
namespace DL
open PySem PySem.Spec PyProof.Rows L2
/-- a def keeps this promise: it reckons the function F -/
def spD (P : Program) (w : World) (K : PySem.W.Frag) (n : Nat) (F : VF) : Sp := fun vs H Q _ => vs.length = n ∧ rL P w K EW0 F vs H Q
/-- a def's function by its body: np parameters, n names -/
def fnBody (np n : Nat) (d : DS) : VF := fun ps μ => if ps.length = np then (d (ps.map some ++ List.replicate (n - np) none) μ).bind fun o μ1 => match o.1 with
  | .rt v => .ok v μ1
  | .nx => .ok .non μ1
  | _ => .bad
  else .bad
/-- so many arguments, or none -/
def Ar (n : Nat) (F : VF) : Prop := ∀ ps μ, ps.length ≠ n → F ps μ = .bad
theorem fnBody_ar {np n : Nat} {d : DS} : Ar np (fnBody np n d) := fun ps μ h => if_neg h
theorem Ar.len {n : Nat} {F : VF} (a : Ar n F) {P : Program} {w : World} {K : PySem.W.Frag} {W : EW} {ρ : List Addr} {H : Hp} {ps : List PV} {μ : Sto} {Q : VK} (h : Post P w K W ρ H (F ps μ) (RV K) Q) : ps.length = n := Decidable.byContradiction fun c => by
  rw [a ps μ c] at h
  exact h
theorem REnv.start {K : PySem.W.Frag} {ρ : List Addr} {H : Hp} {ps : List PV} {vs : List V} (r : RVs K ρ H ps vs) (N : List Str) : REnv K ρ H (ps.map some ++ List.replicate (N.length - ps.length) none) (start N vs) := by
  have hl := r.length
  refine ⟨by simp [L2.start, hl], fun i p e => ?_⟩
  unfold L2.start
  by_cases h : i < ps.length
  · rw [List.getElem?_append_left (by simpa using h), List.getElem?_map] at e
    cases q : ps[i]? with
    | none => rw [q] at e; cases e
    | some p' =>
      rw [q] at e
      cases e
      obtain ⟨v, h1, h2⟩ := r.get q
      exact ⟨v, by rw [List.getElem?_append_left (by simpa [← hl] using h), List.getElem?_map, h1]; rfl, h2⟩
  · rw [List.getElem?_append_right (by simpa using Nat.le_of_not_lt h)] at e
    have := List.mem_of_getElem? e
    rw [List.mem_replicate] at this
    cases this.2
section
variable {P : Program} {w : World} {K : PySem.W.Frag} {mg : Str → Option Value} {base : Heap}
theorem fn_ok {x qual : Str} {st : Stmt} {f : Addr} {fd : FuncData} {N ps : List Str} {k : Nat} {d : DS} (F : Fun K x qual st f fd) (S : FnScope N ps (defScope st))
    (h : ∀ (cdv : Value) (A : Around) (outer : List Env) (s : Shared) (H : Hp) (E : XK), Room k (A.deeper (envOfC qual (defScope st) s.heap.objs.size f cdv)) →
      LSs (cxOf CX0 P w K mg base N qual (defScope st) f cdv A outer s H E).nox EW0 (defBody st) d) : FnOk P w K mg base CX0 (k + 1) f fd ps (spD P w K ps.length (fnBody ps.length N.length d)) := by
  refine F.ok S (fun vs H Q E h => h.1) fun cdv A outer s H vs Q E hr hsp => ⟨_, h cdv A outer s H E hr, ?_⟩
  obtain ⟨_, ρ, μ, qs, r, t, q⟩ := hsp
  have hl : qs.length = ps.length := fnBody_ar.len q
  have en0 := REnv.start r N
  rw [hl] at en0
  unfold fnBody at q
  rw [if_pos hl] at q
  refine ⟨ρ, _, μ, en0, t, (Post.bind q).mono fun x H1 ⟨ρ1, o, μ1, st1, rel, s1, q1⟩ => ?_⟩
  cases rel with
  | nx en => exact q1 ρ1 .non H1 Step.refl .non s1
  | rt r1 => exact q1 ρ1 _ H1 Step.refl r1 s1
  | bk en => exact q1.elim
  | ct en => exact q1.elim
end
/-- an instance of the class at C, without an attribute m -/
def isIns (C : Addr) (m : Str) (o : PV) (μ : Sto) : Bool := match o with
  | .ref i => match μ[i]? with
    | some (.ins D fs) => decide (D = C) && (fs.lookup m).isNone
    | _ => false
  | _ => false
def dMeth (C : Addr) (m : Str) (f : VF) (o : DE) (ds : DA) : DE := fun η μ => (o η μ).bind fun p μ1 => if isIns C m p μ1 = true then (ds η μ1).bind fun ps μ2 => f (p :: ps) μ2 else .bad
/-- C(..) -/
def vMake (C : Addr) (f : VF) : VF := fun ps μ => (f (.ref μ.length :: ps) (μ ++ [.ins C []])).bind fun r μ1 => match r with
  | .non => .ok (.ref μ.length) μ1
  | _ => .bad
/-- e.f, a property -/
def vProp (C : Addr) (f : VF) : VF := fun ps μ => match ps with
  | [.ref i] => match μ[i]? with
    | some (.ins D _) => if D = C then f [.ref i] μ else .bad
    | _ => .bad
  | _ => .bad
theorem lookup_none {fs : List (Str × PV)} {gs : List (Str × V)} {m : Str} : gs.map (·.1) = fs.map (·.1) → fs.lookup m = none → gs.lookup m = none := by
  induction fs generalizing gs with
  | nil =>
    intro e _
    cases gs with
    | nil => rfl
    | cons _ _ => cases e
  | cons f fs ih =>
    intro e h
    cases gs with
    | nil => cases e
    | cons g gs =>
      injection e with e1 e2
      obtain ⟨k, v⟩ := g
      obtain ⟨k', p⟩ := f
      have e1 : k = k' := e1
      subst e1
      cases c : (m == k) with
      | true => simp only [List.lookup, c] at h; cases h
      | false =>
        simp only [List.lookup, c] at h ⊢
        exact ih e2 h
theorem isIns_of {P : Program} {w : World} {K : PySem.W.Frag} {ρ : List Addr} {H : Hp} {μ : Sto} {C : Addr} {m : Str} {o : PV} {v : V} (s : RSt P w K ρ H μ) (r : RV K ρ H o v) (h : isIns C m o μ = true) :
    ∃ a dx gs, v = .ref a ∧ H a = some (.ins C dx gs) ∧ gs.lookup m = none := by
  cases r with
  | @ref i a ha =>
    have h : (match μ[i]? with | some (.ins D fs) => decide (D = C) && (fs.lookup m).isNone | _ => false) = true := h
    cases e : μ[i]? with
    | none => rw [e] at h; cases h
    | some ob =>
      rw [e] at h
      cases ob with
      | ins D fs =>
        simp only [Bool.and_eq_true, decide_eq_true_eq] at h
        obtain ⟨rfl, h2⟩ := h
        obtain ⟨dx, gs, h3, h4, h5⟩ := s.obj i a _ ha e
        exact ⟨a, dx, gs, rfl, h3, lookup_none h4 (by simpa using h2)⟩
      | _ => cases h
  | _ => cases h
section
variable {X : Cx} {k n : Nat} {f C g p0 : Addr} {fd : FuncData} {ps : List Str} {F : VF} {x m : Str} {p pos apos : Pos} {e o : Expr} {es : List Expr} {ds : DA} {d : DE}
theorem sp_of {vs : List V} {H : Hp} {Q : VK} (hF : Ar n F) (h : rL X.prog X.w X.K EW0 F vs H Q) (E : XK := E0) : spD X.prog X.w X.K n F (vs ++ []) H Q E := by
  obtain ⟨ρ, μ, qs, r, t, q⟩ := h
  rw [List.append_nil]
  exact ⟨by rw [← r.length]; exact hF.len q, ρ, μ, qs, r, t, q⟩
theorem le_call (G : FnOk X.prog X.w X.K X.mg X.base CX0 k f fd ps (spD X.prog X.w X.K n F)) (hF : Ar n F) (hr : Room k X.A) (hg : Gl X x) (hm : X.mg x = some (.ref f)) (hk : PySem.W.keepIn X.K (.ref f) = true) (hb : Binds X.K fd ps []) (ha : LA X EW0 (e :: es) ds)
    (hdb : (x == ("__debug__" : Str)) = false := by decide) (he : starEach (e :: es) X.env = (false, eval e X.env) :: starEach es X.env := by rfl) (hpl : (backTo pos (starEach es X.env)).any (·.1) = false := by rfl) :
    LE X EW0 (.Call (.Name x p) (e :: es) [] pos) (dApp F ds) := (pe_call G hr hg hm hk hb .nil (pass0 (X := X)) ha hdb he hpl).impD fun σ H Q h => (app_of h).mono fun vs H1 h => sp_of hF h
theorem le_meth {pl : Sem Bool} (ho : LE X EW0 o d) (c : Cls X.K C) (hm : Meth X.K C m f) (G : FnOk X.prog X.w X.K X.mg X.base CX0 k f fd ps (spD X.prog X.w X.K n F)) (hF : Ar n F) (hr : Room k X.A) (hb : Binds X.K fd ps []) (ha : LA X EW0 (e :: es) ds)
    (hst : starEach (e :: es) X.env = (false, eval e X.env) :: starEach es X.env := by rfl) (hpl : (backTo pos (starEach es X.env)).any (·.1) = false := by rfl)
    (ht : eval (.Call (.Attribute o m apos) (e :: es) [] pos) X.env = (do
      let ov ← eval o X.env
      standAt apos.atName
      let (f, first) ← holding [ov] (getMethod ov m pl)
      callWith pos f first (backTo pos (starEach (e :: es) X.env)) (backToKw pos (keywordEach [] X.env))) := by rfl) :
    LE X EW0 (.Call (.Attribute o m apos) (e :: es) [] pos) (dMeth C m F d ds) := (pe_meth (pl := pl) ho c hm G hr hb .nil (pass0 (X := X)) ha hst hpl ht).impD fun σ H Q ⟨ρ, η, μ, en, s, q⟩ =>
  ⟨ρ, η, μ, en, s, (Post.bind q).mono fun x H1 ⟨ρ1, a, μ1, st, r, s1, q1⟩ => by
    by_cases ci : isIns C m a μ1 = true
    · simp only [if_pos ci] at q1
      obtain ⟨b, dx, gs, e1, e2, e3⟩ := isIns_of s1 r ci
      refine ⟨b, dx, gs, e1, e2, e3, ρ1, η, μ1, en.step st, s1, (Post.bind q1).mono fun vs H2 ⟨ρ2, qs, μ2, st2, r2, s2, q2⟩ => ?_⟩
      exact sp_of (vs := x :: vs) hF ⟨ρ2, μ2, a :: qs, .cons (r.step st2) r2, s2, q2⟩
    · simp only [if_neg ci] at q1
      exact q1.elim⟩
theorem make_of {vs : List V} {H : Hp} {Q : VK} (hF : Ar n F) (h : rL X.prog X.w X.K EW0 (vMake C F) vs H Q) : ∀ x dx, H x = none → H dx = none → dx ≠ x →
    spD X.prog X.w X.K n F (.ref x :: (vs ++ [])) (upd (upd H dx (.own x)) x (.ins C dx [])) (fun v H2 => v = .non ∧ Q (.ref x) H2) E0 := by
  intro x dx hx hdx hne
  obtain ⟨ρ, μ, qs, r, t, q⟩ := h
  have h1 : upd H dx (.own x) x = none := by rw [upd_ne (Ne.symm hne)]; exact hx
  have st : Step X.K ρ H (ρ ++ [x]) (upd (upd H dx (.own x)) x (.ins C dx [])) := (Step.quiet hdx).trans (Step.new h1)
  have s1 : RSt X.prog X.w X.K (ρ ++ [x]) (upd (upd H dx (.own x)) x (.ins C dx [])) (μ ++ [.ins C []]) := (t.quiet hdx).new h1 ⟨dx, [], upd_same, rfl, .nil⟩
  have hid : (ρ ++ [x])[μ.length]? = some x := t.nextId
  refine sp_of (vs := .ref x :: vs) hF ⟨ρ ++ [x], _, .ref μ.length :: qs, .cons (.ref hid) (r.step st), s1, (Post.bind (Post.step st q)).mono fun v H2 ⟨ρ2, b, μ2, st2, r2, s2, q2⟩ => ?_⟩
  cases r2 with
  | non => exact ⟨rfl, q2 ρ2 (.ref x) H2 Step.refl (.ref (st2.get hid)) s2⟩
  | _ => exact q2.elim
theorem le_make0 (M : Mk X.K C f) (G : FnOk X.prog X.w X.K X.mg X.base CX0 k f fd ps (spD X.prog X.w X.K n F)) (hF : Ar n F) (hr : Room (k + 1) X.A) (hg : Gl X x) (hm : X.mg x = some (.ref C)) (hb : Binds X.K fd ps [])
    (hdb : (x == ("__debug__" : Str)) = false := by decide) : LE X EW0 (.Call (.Name x p) [] [] pos) (dApp (vMake C F) dNil) := (pe_make0 M G hr hg hm hb .nil (pass0 (X := X)) hdb).impD fun σ H Q h => make_of hF (tl_nil (app_of h))
theorem le_prop (ho : LE X EW0 e d) (c : Cls X.K C) (hp : PropOf X.K C m p0 g) (G : FnOk X.prog X.w X.K X.mg X.base CX0 k g fd ps (spD X.prog X.w X.K n F)) (hF : Ar n F) (hr : Room (k + 1) X.A) (hb : Binds X.K fd ps [])
    (hab : attributeBase e m X.env (eval e X.env) = eval e X.env := by rfl) : LE X EW0 (.Attribute e m pos) (dApp (vProp C F) (dCons d dNil)) := (pe_prop ho c hp G hr hb .nil (pass0 (X := X.nox)) hab).impD fun σ H Q h => (app1 h).mono fun x H1 ⟨ρ, μ, qs, r, t, q⟩ => by
  cases r with
  | cons r1 r2 =>
    cases r2
    cases r1 with
    | @ref i a ha =>
      have q : Post X.prog X.w X.K EW0 ρ H1 (match μ[i]? with
        | some (.ins D _) => if D = C then F [.ref i] μ else .bad
        | _ => .bad) (RV X.K) Q := q
      cases e : μ[i]? with
      | none => rw [e] at q; exact q.elim
      | some ob =>
        rw [e] at q
        cases ob with
        | ins D fs =>
          by_cases c : D = C
          · subst c
            simp only [if_true] at q
            obtain ⟨dx, gs, h3, _, _⟩ := t.obj i a _ ha e
            exact ⟨a, dx, gs, rfl, h3, sp_of (vs := [.ref a]) hF ⟨ρ, μ, [.ref i], .cons (.ref ha) .nil, t, q⟩⟩
          · simp only [if_neg c] at q
            exact q.elim
        | _ => exact q.elim
    | _ => exact q.elim
end
/-- o.f = e -/
def putD (f : Str) (v : PV) : List (Str × PV) → List (Str × PV)
  | [] => [(f, v)]
  | (g, x) :: r => if g = f then (g, v) :: r else (g, x) :: putD f v r
def sFldSet (C : Addr) (f : Str) (o v : DE) : DS := fun η μ => (v η μ).bind fun p μ1 => (o η μ1).bind fun q μ2 => match q with
  | .ref i => match μ2[i]? with
    | some (.ins D fs) => if D = C ∧ fs.length < 1000 then .ok (.nx, η) (μ2.set i (.ins C (putD f p fs))) else .bad
    | _ => .bad
  | _ => .bad
theorem putD_rel {K : PySem.W.Frag} {ρ : List Addr} {H : Hp} {f : Str} {p : PV} {v : V} (r : RV K ρ H p v) : ∀ {fs : List (Str × PV)} {gs : List (Str × V)}, gs.map (·.1) = fs.map (·.1) → RVs K ρ H (fs.map (·.2)) (gs.map (·.2)) →
    (putF f v gs).map (·.1) = (putD f p fs).map (·.1) ∧ RVs K ρ H ((putD f p fs).map (·.2)) ((putF f v gs).map (·.2))
  | [], [], _, _ => ⟨rfl, .cons r .nil⟩
  | [], _ :: _, e, _ => by cases e
  | _ :: _, [], e, _ => by cases e
  | (k, p0) :: fs, (k', v0) :: gs, e, rs => by
    injection e with e1 e2
    have e1 : k' = k := e1
    subst e1
    cases rs with
    | cons r1 r2 =>
      unfold putF putD
      by_cases c : k' = f
      · rw [if_pos c, if_pos c]
        exact ⟨by rw [List.map_cons, List.map_cons, e2], .cons r r2⟩
      · rw [if_neg c, if_neg c]
        obtain ⟨h1, h2⟩ := putD_rel r e2 r2
        exact ⟨by rw [List.map_cons, List.map_cons, h1], .cons r1 h2⟩
section
variable {X : Cx} {W : EW} {C : Addr} {f : Str}
theorem ls_fld {o value : Expr} {dO dv : DE} {pos' pos : Pos} (ho : LE X W o dO) (hv : LE X W value dv) (c : Cls X.K C) (nf : NoAttr X.K C f) (hs : swapsWith value (some (.Attribute o f pos')) pos.line X.env = pure false := by rfl) :
    LS X W (.Assign [.Attribute o f pos'] value pos) (sFldSet C f dO dv) := (ps_fld ho hv hs).impD fun D σ H ⟨ρ, η, μ, en, s, q⟩ => by
  refine ⟨ρ, η, μ, en, s, (Post.bind q).mono fun y H1 ⟨ρ1, p, μ1, st, r, s1, q1⟩ => ?_⟩
  refine ⟨ρ1, η, μ1, en.step st, s1, (Post.bind q1).mono fun x H2 ⟨ρ2, b, μ2, st2, r2, s2, q2⟩ => ?_⟩
  cases r2 with
  | @ref i a ha =>
    have q2 : Post X.prog X.w X.K W ρ2 H2 (match μ2[i]? with
      | some (.ins D fs) => if D = C ∧ fs.length < 1000 then .ok (.nx, η) (μ2.set i (.ins C (putD f p fs))) else .bad
      | _ => .bad) (RO X.K) (endQ D) := q2
    cases e : μ2[i]? with
    | none => rw [e] at q2; exact q2.elim
    | some ob =>
      rw [e] at q2
      cases ob with
      | ins E fs =>
        by_cases cc : E = C ∧ fs.length < 1000
        · simp only [if_pos cc] at q2
          obtain ⟨rfl, hl⟩ := cc
          obtain ⟨dx, gs, h3, h4, h5⟩ := s2.obj i a _ ha e
          have hlen : gs.length = fs.length := by
            have := congrArg List.length h4
            simpa using this
          have hm : Mut (H2 a) := by rw [h3]; trivial
          have st3 : Step X.K ρ2 H2 ρ2 (upd H2 a (.ins E dx (putF f y gs))) := Step.write (List.mem_of_getElem? ha) hm (DW.ins h3)
          obtain ⟨k1, k2⟩ := putD_rel (f := f) (r.step st2) h4 h5
          have s3 := s2.write (o := .ins E (putD f p fs)) ha hm (DW.ins h3) ⟨dx, putF f y gs, upd_same, k1, k2.step st3⟩
          exact ⟨a, E, dx, gs, rfl, h3, c, nf, by rw [hlen]; exact hl, q2 ρ2 (.nx σ) _ st3 (.nx (((en.step st).step st2).step st3)) s3⟩
        · simp only [if_neg cc] at q2
          exact q2.elim
      | _ => exact q2.elim
  | _ => exact q2.elim
end
end DL
namespace DL
open PySem PySem.Spec PyProof.Rows L2
section
variable {K : PySem.W.Frag} {ρ : List Addr} {H : Hp} {P : Program} {w : World} {μ : Sto}
theorem RVs.one {ps : List PV} {x : V} (r : RVs K ρ H ps [x]) : ∃ p, ps = [p] ∧ RV K ρ H p x := by
  cases r with
  | cons r1 r2 => cases r2; exact ⟨_, rfl, r1⟩
theorem RVs.two {ps : List PV} {x y : V} (r : RVs K ρ H ps [x, y]) : ∃ p q, ps = [p, q] ∧ RV K ρ H p x ∧ RV K ρ H q y := by
  cases r with
  | cons r1 r2 =>
    obtain ⟨q, rfl, r3⟩ := r2.one
    exact ⟨_, q, rfl, r1, r3⟩
end
def isLst (μ : Sto) (i : Nat) : Option (List PV) := match μ[i]? with
  | some (.lst ps) => some ps
  | _ => none
theorem isLst_of {K : PySem.W.Frag} {ρ : List Addr} {H : Hp} {P : Program} {w : World} {μ : Sto} {i : Nat} {a : Addr} {ps : List PV} (s : RSt P w K ρ H μ) (ha : ρ[i]? = some a) (h : isLst μ i = some ps) : ∃ vs, H a = some (.lst vs) ∧ RVs K ρ H ps vs := by
  unfold isLst at h
  cases q : μ[i]? with
  | none => rw [q] at h; cases h
  | some o =>
    rw [q] at h
    cases o with
    | lst xs =>
      cases h
      exact s.obj i a _ ha q
    | _ => cases h
def vAdd : VF := fun xs μ => match xs with
  | [.int i, .int j] => .ok (.int (i + j)) μ
  | [.str x, .str y] => if x.length + y.length ≤ sizeLine then .ok (.str (x ++ y)) μ else .bad
  | [.tup ps, .tup qs] => if ps.length + qs.length ≤ sizeLine then .ok (.tup (ps ++ qs)) μ else .bad
  | [.ref i, .ref j] => match isLst μ i, isLst μ j with
    | some ps, some qs => if ps.length + qs.length ≤ sizeLine then .ok (.ref μ.length) (μ ++ [.lst (ps ++ qs)]) else .bad
    | _, _ => .bad
  | _ => .bad
def vMul : VF := fun xs μ => match xs with
  | [.int i, .int j] => if (-(2 ^ 64) < i ∧ i < 2 ^ 64) ∨ (-(2 ^ 64) < j ∧ j < 2 ^ 64) then .ok (.int (i * j)) μ else .bad
  | [.ref i, .int k] => match isLst μ i with
    | some ps => if -(2 ^ 63) ≤ k ∧ k < 2 ^ 63 ∧ ps.length * k.toNat ≤ sizeLine then .ok (.ref μ.length) (μ ++ [.lst (List.replicate k.toNat ps).flatten]) else .bad
    | none => .bad
  | [.tup ps, .int k] => if ps ≠ [] ∧ 2 ≤ k ∧ k ≤ 1000 ∧ ps.length ≤ 1000 then .ok (.tup (List.replicate k.toNat ps).flatten) μ else .bad
  | _ => .bad
def vDiv : VF := fun xs μ => match xs with
  | [.int i, .int j] => if 0 < j ∧ j.natAbs.log2 < 9000 then .ok (.int (i / j)) μ else .bad
  | _ => .bad
def vMod : VF := fun xs μ => match xs with
  | [.int i, .int j] => if 0 < j then .ok (.int (i % j)) μ else .bad
  | _ => .bad
def vPow : VF := fun xs μ => match xs with
  | [.int i, .int j] => if 0 ≤ j ∧ (Builtin.Int.intBits i : Int) * j ≤ 2 ^ 27 then .ok (.int (i ^ j.toNat)) μ else .bad
  | _ => .bad
section
variable {X : Cx} {W : EW}
/-- the tactic's words: the two values, the function's way -/
theorem o2_of {op : Value → Value → Sem Value} {f : VF} (h : ∀ (pins : List (Addr × Obj)) (s : Shared) (σ : L2.St) (H : Hp) (x y : V) (v u : Value) (Q : VK) (ρ : List Addr) (μ : Sto) (p q : PV), Inv X pins σ H s → RelV x v → RelV y u → RV X.K ρ H p x → RV X.K ρ H q y → RSt X.prog X.w X.K ρ H μ →
    Post X.prog X.w X.K W ρ H (f [p, q] μ) (RV X.K) Q → wpAny (model X.prog X.w) X.A (op v u) (EP X pins σ Q) X.xe s) : O2 X W op f := by
  intro pins s σ H x y v u Q I rx ry ⟨ρ, μ, ps, r, t, q⟩
  obtain ⟨a, b, rfl, r1, r2⟩ := r.two
  exact h pins s σ H x y v u Q ρ μ a b I rx ry r1 r2 t q
theorem o2_add : O2 X W (binaryOp .Add) vAdd := o2_of fun pins s σ H x y v u Q ρ μ p q I rx ry r1 r2 t h => by
  cases r1 with
  | int i =>
    cases r2 with
    | int j => exact op_add pins s σ H _ _ v u Q I rx ry ⟨i, j, rfl, rfl, h ρ _ H Step.refl (.int _) t⟩
    | _ => exact h.elim
  | str a =>
    cases r2 with
    | str b =>
      have h : Post X.prog X.w X.K W ρ H (if a.length + b.length ≤ sizeLine then .ok (.str (a ++ b)) μ else .bad) (RV X.K) Q := h
      by_cases c : a.length + b.length ≤ sizeLine
      · rw [if_pos c] at h
        exact op_add_str pins s σ H _ _ v u Q I rx ry ⟨a, b, rfl, rfl, c, h ρ _ H Step.refl (.str _) t⟩
      · rw [if_neg c] at h
        exact h.elim
    | _ => exact h.elim
  | @tup ps vs a h1 h2 =>
    cases r2 with
    | @tup qs ws b k1 k2 =>
      have h : Post X.prog X.w X.K W ρ H (if ps.length + qs.length ≤ sizeLine then .ok (.tup (ps ++ qs)) μ else .bad) (RV X.K) Q := h
      by_cases c : ps.length + qs.length ≤ sizeLine
      · rw [if_pos c] at h
        refine op_catA pins s σ H _ _ v u Q I rx ry ⟨a, b, vs, ws, rfl, rfl, h1, k1, by rw [← h2.length, ← k2.length]; exact c, fun e => ?_, fun _ e => ?_, fun _ _ p hp => ok_tup t (h2.append k2) hp h⟩
        · subst e
          cases h2
          exact h ρ _ H Step.refl (.tup k1 k2) t
        · subst e
          cases k2
          rw [List.append_nil] at h
          exact h ρ _ H Step.refl (.tup h1 h2) t
      · rw [if_neg c] at h
        exact h.elim
    | _ => exact h.elim
  | @ref i a ha =>
    cases r2 with
    | @ref j b hb =>
      have h : Post X.prog X.w X.K W ρ H (match isLst μ i, isLst μ j with
        | some ps, some qs => if ps.length + qs.length ≤ sizeLine then .ok (.ref μ.length) (μ ++ [.lst (ps ++ qs)]) else .bad
        | _, _ => .bad) (RV X.K) Q := h
      cases e1 : isLst μ i with
      | none => rw [e1] at h; exact h.elim
      | some ps =>
        cases e2 : isLst μ j with
        | none => rw [e1, e2] at h; exact h.elim
        | some qs =>
          rw [e1, e2] at h
          obtain ⟨vs, h1, h2⟩ := isLst_of t ha e1
          obtain ⟨ws, k1, k2⟩ := isLst_of t hb e2
          by_cases c : ps.length + qs.length ≤ sizeLine
          · simp only [if_pos c] at h
            exact op_cat pins s σ H _ _ v u Q I rx ry ⟨a, b, vs, ws, rfl, rfl, h1, k1, by rw [← h2.length, ← k2.length]; exact c, fun p hp => ok_lst t (h2.append k2) hp h⟩
          · simp only [if_neg c] at h
            exact h.elim
    | _ => exact h.elim
  | _ => exact h.elim
theorem o2_mul : O2 X W (binaryOp .Mult) vMul := o2_of fun pins s σ H x y v u Q ρ μ p q I rx ry r1 r2 t h => by
  cases r1 with
  | int i =>
    cases r2 with
    | int j =>
      have h : Post X.prog X.w X.K W ρ H (if (-(2 ^ 64) < i ∧ i < 2 ^ 64) ∨ (-(2 ^ 64) < j ∧ j < 2 ^ 64) then .ok (.int (i * j)) μ else .bad) (RV X.K) Q := h
      by_cases c : (-(2 ^ 64) < i ∧ i < 2 ^ 64) ∨ (-(2 ^ 64) < j ∧ j < 2 ^ 64)
      · rw [if_pos c] at h
        exact op_mul pins s σ H _ _ v u Q I rx ry ⟨i, j, rfl, rfl, c, h ρ _ H Step.refl (.int _) t⟩
      · rw [if_neg c] at h
        exact h.elim
    | _ => exact h.elim
  | @ref i a ha =>
    cases r2 with
    | int k =>
      have h : Post X.prog X.w X.K W ρ H (match isLst μ i with
        | some ps => if -(2 ^ 63) ≤ k ∧ k < 2 ^ 63 ∧ ps.length * k.toNat ≤ sizeLine then .ok (.ref μ.length) (μ ++ [.lst (List.replicate k.toNat ps).flatten]) else .bad
        | none => .bad) (RV X.K) Q := h
      cases e1 : isLst μ i with
      | none => rw [e1] at h; exact h.elim
      | some ps =>
        rw [e1] at h
        obtain ⟨vs, h1, h2⟩ := isLst_of t ha e1
        by_cases c : -(2 ^ 63) ≤ k ∧ k < 2 ^ 63 ∧ ps.length * k.toNat ≤ sizeLine
        · simp only [if_pos c] at h
          exact op_rep pins s σ H _ _ v u Q I rx ry ⟨a, k, vs, rfl, rfl, h1, c.1, c.2.1, by rw [← h2.length]; exact c.2.2, fun p hp => ok_lst t (h2.replicate _) hp h⟩
        · simp only [if_neg c] at h
          exact h.elim
    | _ => exact h.elim
  | @tup ps vs a h1 h2 =>
    cases r2 with
    | int k =>
      have h : Post X.prog X.w X.K W ρ H (if ps ≠ [] ∧ 2 ≤ k ∧ k ≤ 1000 ∧ ps.length ≤ 1000 then .ok (.tup (List.replicate k.toNat ps).flatten) μ else .bad) (RV X.K) Q := h
      by_cases c : ps ≠ [] ∧ 2 ≤ k ∧ k ≤ 1000 ∧ ps.length ≤ 1000
      · rw [if_pos c] at h
        refine op_repT pins s σ H _ _ v u Q I rx ry ⟨a, k, vs, rfl, rfl, h1, fun e => ?_, c.2.1, c.2.2.1, by rw [← h2.length]; exact c.2.2.2, fun p hp => ok_tup t (h2.replicate _) hp h⟩
        subst e
        cases h2
        exact c.1 rfl
      · rw [if_neg c] at h
        exact h.elim
    | _ => exact h.elim
  | _ => exact h.elim
theorem o2_div : O2 X W (binaryOp .FloorDiv) vDiv := o2_of fun pins s σ H x y v u Q ρ μ p q I rx ry r1 r2 t h => by
  cases r1 with
  | int i =>
    cases r2 with
    | int j =>
      have h : Post X.prog X.w X.K W ρ H (if 0 < j ∧ j.natAbs.log2 < 9000 then .ok (.int (i / j)) μ else .bad) (RV X.K) Q := h
      by_cases c : 0 < j ∧ j.natAbs.log2 < 9000
      · rw [if_pos c] at h
        exact op_fdivW pins s σ H _ _ v u Q I rx ry ⟨i, j, rfl, rfl, c, h ρ _ H Step.refl (.int _) t⟩
      · rw [if_neg c] at h
        exact h.elim
    | _ => exact h.elim
  | _ => exact h.elim
theorem o2_mod : O2 X W (binaryOp .Mod) vMod := o2_of fun pins s σ H x y v u Q ρ μ p q I rx ry r1 r2 t h => by
  cases r1 with
  | int i =>
    cases r2 with
    | int j =>
      have h : Post X.prog X.w X.K W ρ H (if 0 < j then .ok (.int (i % j)) μ else .bad) (RV X.K) Q := h
      by_cases c : 0 < j
      · rw [if_pos c] at h
        exact op_mod pins s σ H _ _ v u Q I rx ry ⟨i, j, rfl, rfl, c, h ρ _ H Step.refl (.int _) t⟩
      · rw [if_neg c] at h
        exact h.elim
    | _ => exact h.elim
  | _ => exact h.elim
theorem o2_pow : O2 X W (binaryOp .Pow) vPow := o2_of fun pins s σ H x y v u Q ρ μ p q I rx ry r1 r2 t h => by
  cases r1 with
  | int i =>
    cases r2 with
    | int j =>
      have h : Post X.prog X.w X.K W ρ H (if 0 ≤ j ∧ (Builtin.Int.intBits i : Int) * j ≤ 2 ^ 27 then .ok (.int (i ^ j.toNat)) μ else .bad) (RV X.K) Q := h
      by_cases c : 0 ≤ j ∧ (Builtin.Int.intBits i : Int) * j ≤ 2 ^ 27
      · rw [if_pos c] at h
        obtain ⟨tx, rfl⟩ := rx
        obtain ⟨ty, rfl⟩ := ry
        exact pow_int c.1 c.2 ⟨.int _, H, I.tok _, ⟨_, rfl⟩, h ρ _ H Step.refl (.int _) t⟩
      · rw [if_neg c] at h
        exact h.elim
    | _ => exact h.elim
  | _ => exact h.elim
end
def pdatL (f : PV → Option PyData) : List PV → Option (List PyData)
  | [] => some []
  | p :: ps => match f p with
    | some d => match pdatL f ps with
      | some ds => some (d :: ds)
      | none => none
    | none => none
/-- a value as data, so deep at most -/
def pdat (μ : Sto) : Nat → PV → Option PyData
  | 0 => fun p => match p with
    | .non => some .none
    | .bl b => some (.bool b)
    | .int i => some (.int i)
    | .str x => some (.str x)
    | _ => none
  | n + 1 => fun p => match p with
    | .non => some .none
    | .bl b => some (.bool b)
    | .int i => some (.int i)
    | .str x => some (.str x)
    | .tup ps => (pdatL (pdat μ n) ps).map .tuple
    | .ref i => match seqAt μ i with
      | some ps => (pdatL (pdat μ n) ps).map .list
      | none => none
    | _ => none
section
variable {K : PySem.W.Frag} {ρ : List Addr} {H : Hp} {P : Program} {w : World} {μ : Sto}
theorem pdatL_of {f : PV → Option PyData} (hf : ∀ p v d, RV K ρ H p v → f p = some d → Dp K H v d) : ∀ {ps : List PV} {vs : List V} {ds : List PyData}, RVs K ρ H ps vs → pdatL f ps = some ds → DpAll K H vs ds
  | _, _, _, .nil, h => by cases h; exact .nil
  | _, _, ds, .cons (p := p) (ps := ps) r t, h => by
    unfold pdatL at h
    cases e : f p with
    | none => rw [e] at h; cases h
    | some d =>
      rw [e] at h
      cases e2 : pdatL f ps with
      | none => rw [e2] at h; cases h
      | some ds' =>
        rw [e2] at h
        cases h
        exact .cons (hf p _ d r e) (pdatL_of hf t e2)
theorem pdat_of (s : RSt P w K ρ H μ) : ∀ (n : Nat) (p : PV) (v : V) (d : PyData), RV K ρ H p v → pdat μ n p = some d → Dp K H v d
  | 0, _, _, _, r, h => by
    cases r with
    | non => cases h; exact .non
    | bl b => cases h; exact .bl b
    | int i => cases h; exact .int i
    | str x => cases h; exact .str x
    | _ => cases h
  | n + 1, _, _, _, r, h => by
    cases r with
    | non => cases h; exact .non
    | bl b => cases h; exact .bl b
    | int i => cases h; exact .int i
    | str x => cases h; exact .str x
    | @tup ps vs a h1 h2 =>
      obtain ⟨ds, e1, rfl⟩ := Option.map_eq_some_iff.mp (show (pdatL (pdat μ n) ps).map PyData.tuple = some _ from h)
      exact .tup h1 (pdatL_of (fun p v d => pdat_of s n p v d) h2 e1)
    | @ref i a ha =>
      have h : (match seqAt μ i with | some ps => (pdatL (pdat μ n) ps).map PyData.list | none => none) = some _ := h
      cases e : seqAt μ i with
      | none => rw [e] at h; cases h
      | some ps =>
        rw [e] at h
        obtain ⟨ds, e1, rfl⟩ := Option.map_eq_some_iff.mp h
        obtain ⟨vs, h1, h2⟩ := seqAt_of s ha e
        exact .lst h1 (pdatL_of (fun p v d => pdat_of s n p v d) h2 e1)
    | _ => cases h
end
/-- p == q of data -/
def vEq : VF := fun xs μ => match xs with
  | [p, q] => match pdat μ 12 p, pdat μ 12 q with
    | some d, some e => if (SeqAt.shaped d && SeqAt.shaped e) = true then .ok (.bl (PyData.eqv d e)) μ else .bad
    | _, _ => .bad
  | _ => .bad
def vNe : VF := fun xs μ => match xs with
  | [p, q] => match pdat μ 12 p, pdat μ 12 q with
    | some d, some e => if (SeqAt.shaped d && SeqAt.shaped e) = true then .ok (.bl (!PyData.eqv d e)) μ else .bad
    | _, _ => .bad
  | _ => .bad
def cmpI (f : Int → Int → Bool) : VF := fun xs μ => match xs with
  | [.int i, .int j] => .ok (.bl (f i j)) μ
  | _ => .bad
def vLt : VF := cmpI fun i j => decide (i < j)
def vLe : VF := cmpI fun i j => decide (i ≤ j)
def vGt : VF := cmpI fun i j => decide (j < i)
def vGe : VF := cmpI fun i j => decide (j ≤ i)
def isNon : PV → Bool
  | .non => true
  | _ => false
/-- x is None, x is True .. -/
def vIs : VF := fun xs μ => match xs with
  | [p, .non] => .ok (.bl (isNon p)) μ
  | [.bl a, .bl b] => .ok (.bl (decide (a = b))) μ
  | _ => .bad
/-- one text within another -/
def strIn (x z : Str) : Bool := if x.cps.size = 1 then decide (x.cps.getD 0 0 ∈ z.cps.toList) else !(Builtin.Str.occurrences z x 0 z.length 1).isEmpty
/-- p in a text, a tuple, a list: whether -/
def inSeq (μ : Sto) (p c : PV) : Option Bool := match c with
  | .str z => match p with
    | .str x => some (strIn x z)
    | _ => none
  | _ => match pdat μ 12 p, pdat μ 12 c with
    | some d, some (.list ds) => if (SeqAt.shaped d && SeqAt.shaped (.list ds)) = true then some (ds.any fun z => PyData.eqv z d) else none
    | some d, some (.tuple ds) => if (SeqAt.shaped d && SeqAt.shaped (.tuple ds)) = true then some (ds.any fun z => PyData.eqv z d) else none
    | _, _ => none
section
variable {X : Cx} {W : EW}
theorem o2_eq (hu : X.A.units + 64 < cLine) : O2 X W (compareOp .Eq) vEq := o2_of fun pins s σ H x y v u Q ρ μ p q I rx ry r1 r2 t h => by
  have h : Post X.prog X.w X.K W ρ H (match pdat μ 12 p, pdat μ 12 q with
    | some d, some e => if (SeqAt.shaped d && SeqAt.shaped e) = true then .ok (.bl (PyData.eqv d e)) μ else .bad
    | _, _ => .bad) (RV X.K) Q := h
  cases e1 : pdat μ 12 p with
  | none => rw [e1] at h; exact h.elim
  | some d =>
    cases e2 : pdat μ 12 q with
    | none => rw [e1, e2] at h; exact h.elim
    | some e =>
      rw [e1, e2] at h
      by_cases c : (SeqAt.shaped d && SeqAt.shaped e) = true
      · simp only [if_pos c] at h
        rw [Bool.and_eq_true] at c
        exact op_eqD hu pins s σ H x y v u Q I rx ry ⟨d, e, pdat_of t 12 p x d r1 e1, pdat_of t 12 q y e r2 e2, c.1, c.2, h ρ _ H Step.refl (.bl _) t⟩
      · simp only [if_neg c] at h
        exact h.elim
theorem o2_ne (hu : X.A.units + 64 < cLine) : O2 X W (compareOp .NotEq) vNe := o2_of fun pins s σ H x y v u Q ρ μ p q I rx ry r1 r2 t h => by
  have h : Post X.prog X.w X.K W ρ H (match pdat μ 12 p, pdat μ 12 q with
    | some d, some e => if (SeqAt.shaped d && SeqAt.shaped e) = true then .ok (.bl (!PyData.eqv d e)) μ else .bad
    | _, _ => .bad) (RV X.K) Q := h
  cases e1 : pdat μ 12 p with
  | none => rw [e1] at h; exact h.elim
  | some d =>
    cases e2 : pdat μ 12 q with
    | none => rw [e1, e2] at h; exact h.elim
    | some e =>
      rw [e1, e2] at h
      by_cases c : (SeqAt.shaped d && SeqAt.shaped e) = true
      · simp only [if_pos c] at h
        rw [Bool.and_eq_true] at c
        exact op_neD hu pins s σ H x y v u Q I rx ry ⟨d, e, pdat_of t 12 p x d r1 e1, pdat_of t 12 q y e r2 e2, c.1, c.2, h ρ _ H Step.refl (.bl _) t⟩
      · simp only [if_neg c] at h
        exact h.elim
theorem o2_cmpI {op : CmpOp} {f : Int → Int → Bool} (hr : OpR X (compareOp op) (rI0 fun i j => .bl (f i j))) : O2 X W (compareOp op) (cmpI f) := o2_of fun pins s σ H x y v u Q ρ μ p q I rx ry r1 r2 t h => by
  cases r1 with
  | int i =>
    cases r2 with
    | int j => exact hr pins s σ H _ _ v u Q I rx ry ⟨i, j, rfl, rfl, h ρ _ H Step.refl (.bl _) t⟩
    | _ => exact h.elim
  | _ => exact h.elim
theorem o2_lt : O2 X W (compareOp .Lt) vLt := o2_cmpI op_lt
theorem o2_le : O2 X W (compareOp .LtE) vLe := o2_cmpI op_le
theorem o2_gt : O2 X W (compareOp .Gt) vGt := o2_cmpI op_gt
theorem o2_ge : O2 X W (compareOp .GtE) vGe := o2_cmpI op_ge
theorem rv_none {K : PySem.W.Frag} {ρ : List Addr} {H : Hp} {p : PV} {x : V} (r : RV K ρ H p x) : decide (x = .non) = (isNon p) := by
  cases r with
  | non => rfl
  | _ => exact decide_eq_false fun e => by cases e
theorem o2_is : O2 X W (compareOp .Is) vIs := o2_of fun pins s σ H x y v u Q ρ μ p q I rx ry r1 r2 t h => by
  cases r2 with
  | non =>
    have h : Post X.prog X.w X.K W ρ H (.ok (.bl (isNon p)) μ) (RV X.K) Q := by cases p <;> exact h
    refine op_isN pins s σ H _ _ v u Q I rx ry ⟨rfl, ?_⟩
    rw [rv_none r1]
    exact h ρ _ H Step.refl (.bl _) t
  | bl b =>
    cases r1 with
    | bl a => exact op_isBl pins s σ H _ _ v u Q I rx ry ⟨a, b, rfl, rfl, h ρ _ H Step.refl (.bl _) t⟩
    | _ => exact h.elim
  | _ => cases r1 <;> exact h.elim
end
end DL
namespace DL
open PySem PySem.Spec PyProof.Rows L2
def vInt : VF := fun xs μ => match xs with
  | [.int i] => .ok (.int i) μ
  | [.bl k] => .ok (.int (if k then 1 else 0)) μ
  | [.str a] => match PySem.intText? a with
    | some n => if a.length ≤ 640 then .ok (.int n) μ else .bad
    | none => .bad
  | _ => .bad
def vAbs : VF := fun xs μ => match xs with
  | [.int i] => .ok (.int (if i < 0 then -i else i)) μ
  | _ => .bad
def vMax2 : VF := fun xs μ => match xs with
  | [.int i, .int j] => .ok (.int (if j > i then j else i)) μ
  | _ => .bad
def vMin2 : VF := fun xs μ => match xs with
  | [.int i, .int j] => .ok (.int (if j < i then j else i)) μ
  | _ => .bad
/-- the ints, the bools of a sequence -/
def intsL : List PV → Option (List Int)
  | [] => some []
  | .int i :: r => (intsL r).map (i :: ·)
  | _ => none
def boolsL : List PV → Option (List Bool)
  | [] => some []
  | .bl i :: r => (boolsL r).map (i :: ·)
  | _ => none
def strsL : List PV → Option (List Str)
  | [] => some []
  | .str i :: r => (strsL r).map (i :: ·)
  | _ => none
/-- a function of one list, read so -/
def v1L {α : Type} (g : List PV → Option α) (k : α → PV) : VF := fun xs μ => match xs with
  | [.ref i] => match (seqAt μ i).bind g with
    | some a => .ok (k a) μ
    | none => .bad
  | _ => .bad
def vSum : VF := v1L intsL fun ns => .int ns.sum
def vAll : VF := v1L boolsL fun ns => .bl (ns.all id)
def vAppend : VF := fun xs μ => match xs with
  | [.ref i, p] => match isLst μ i with
    | some ps => if ps.length < sizeLine then .ok .non (μ.set i (.lst (ps ++ [p]))) else .bad
    | none => .bad
  | _ => .bad
def vExtend : VF := fun xs μ => match xs with
  | [.ref i, .ref j] => match isLst μ i, isLst μ j with
    | some ps, some qs => if ps.length + qs.length ≤ sizeLine then .ok .non (μ.set i (.lst (ps ++ qs))) else .bad
    | _, _ => .bad
  | _ => .bad
def vPop : VF := fun xs μ => match xs with
  | [.ref i] => match isLst μ i with
    | some ps => match ps[ps.length - 1]? with
      | some p => .ok p (μ.set i (.lst ps.dropLast))
      | none => .bad
    | none => .bad
  | [.ref i, .int z] => match isLst μ i with
    | some ps => if -(2 ^ 63) ≤ z ∧ z < 2 ^ 63 then match seqIndex? z ps.length with
        | some k => match ps[k]? with
          | some p => .ok p (μ.set i (.lst (ps.eraseIdx k)))
          | none => .bad
        | none => .bad
      else .bad
    | none => .bad
  | _ => .bad
def vSplit : VF := fun xs μ => match xs with
  | [.str a, .str b] => if (b.length == 0) = false ∧ a.length + 2 ≤ sizeLine then .ok (.ref μ.length) (μ ++ [.lst ((Txt.split a b).map PV.str)]) else .bad
  | _ => .bad
def vJoin : VF := fun xs μ => match xs with
  | [.str a, p] => match (items p μ).bind strsL with
    | some ys => if (ys.map (·.length)).sum + ys.length * a.length ≤ 16777216 then .ok (.str (Txt.join a ys)) μ else .bad
    | none => .bad
  | _ => .bad
def vCount : VF := fun xs μ => match xs with
  | [.str a, .str b] => .ok (.int (Txt.count a b)) μ
  | _ => .bad
section
variable {K : PySem.W.Frag} {ρ : List Addr} {H : Hp}
theorem intsL_of : ∀ {ps : List PV} {vs : List V} {ns : List Int}, RVs K ρ H ps vs → intsL ps = some ns → vs = ns.map V.int
  | _, _, _, .nil, h => by cases h; rfl
  | _, _, _, .cons r t, h => by
    cases r with
    | int i =>
      obtain ⟨ms, e, rfl⟩ := Option.map_eq_some_iff.mp (show (intsL _).map (i :: ·) = some _ from h)
      rw [intsL_of t e]
      rfl
    | _ => cases h
theorem boolsL_of : ∀ {ps : List PV} {vs : List V} {ns : List Bool}, RVs K ρ H ps vs → boolsL ps = some ns → vs = ns.map V.bl
  | _, _, _, .nil, h => by cases h; rfl
  | _, _, _, .cons r t, h => by
    cases r with
    | bl i =>
      obtain ⟨ms, e, rfl⟩ := Option.map_eq_some_iff.mp (show (boolsL _).map (i :: ·) = some _ from h)
      rw [boolsL_of t e]
      rfl
    | _ => cases h
theorem strsL_of : ∀ {ps : List PV} {vs : List V} {ns : List Str}, RVs K ρ H ps vs → strsL ps = some ns → vs = ns.map V.str
  | _, _, _, .nil, h => by cases h; rfl
  | _, _, _, .cons r t, h => by
    cases r with
    | str i =>
      obtain ⟨ms, e, rfl⟩ := Option.map_eq_some_iff.mp (show (strsL _).map (i :: ·) = some _ from h)
      rw [strsL_of t e]
      rfl
    | _ => cases h
theorem strs_rel : ∀ ys : List Str, RVs K ρ H (ys.map PV.str) (ys.map V.str)
  | [] => .nil
  | y :: ys => .cons (.str y) (strs_rel ys)
end
section
variable {X : Cx} {W : EW}
theorem oc1_of {v : Value} {f : VF} (h : ∀ (pins : List (Addr × Obj)) (s : Shared) (σ : L2.St) (H : Hp) (xs : List V) (us : List Value) (Q : VK) (ρ : List Addr) (μ : Sto) (ps : List PV), Inv X pins σ H s → Vals xs us → RVs X.K ρ H ps xs → RSt X.prog X.w X.K ρ H μ →
    Post X.prog X.w X.K W ρ H (f ps μ) (RV X.K) Q → wpAny (model X.prog X.w) X.A (call v us) (EP X pins σ Q) X.xe s) : OC X W v f := fun pins s σ H xs us Q I r ⟨ρ, μ, ps, rp, t, q⟩ => h pins s σ H xs us Q ρ μ ps I r rp t q
theorem om_of {id : String} {f : VF} (h : ∀ (pins : List (Addr × Obj)) (s : Shared) (σ : L2.St) (H : Hp) (x : V) (xs : List V) (v : Value) (us : List Value) (Q : VK) (ρ : List Addr) (μ : Sto) (p : PV) (ps : List PV), Inv X pins σ H s → RelV x v → Vals xs us → RV X.K ρ H p x → RVs X.K ρ H ps xs → RSt X.prog X.w X.K ρ H μ →
    Post X.prog X.w X.K W ρ H (f (p :: ps) μ) (RV X.K) Q → wpAny (model X.prog X.w) X.A (call (.builtin id) (v :: us)) (EP X pins σ Q) X.xe s) : OM X W id f := fun pins s σ H x xs v us Q I rx r ⟨ρ, μ, ps, rp, t, q⟩ => by
  cases rp with
  | cons r1 r2 => exact h pins s σ H x xs v us Q ρ μ _ _ I rx r r1 r2 t q
theorem oc_int : OC X W (.type "int") vInt := oc1_of fun pins s σ H xs us Q ρ μ ps I r rp t h => by
  cases rp with
  | nil => exact h.elim
  | cons r1 r2 =>
    cases r2 with
    | nil =>
      cases r1 with
      | int i => exact call_int1 pins s σ H _ us Q I r (.inl ⟨i, rfl, h ρ _ H Step.refl (.int _) t⟩)
      | bl k => exact call_int1 pins s σ H _ us Q I r (.inr ⟨k, rfl, h ρ _ H Step.refl (.int _) t⟩)
      | str a =>
        have h : Post X.prog X.w X.K W ρ H (match PySem.intText? a with | some n => if a.length ≤ 640 then .ok (.int n) μ else .bad | none => .bad) (RV X.K) Q := h
        cases e : PySem.intText? a with
        | none => rw [e] at h; exact h.elim
        | some n =>
          rw [e] at h
          by_cases c : a.length ≤ 640
          · simp only [if_pos c] at h
            exact call_int_str pins s σ H _ us Q I r ⟨a, n, rfl, e, c, h ρ _ H Step.refl (.int _) t⟩
          · simp only [if_neg c] at h
            exact h.elim
      | _ => exact h.elim
    | cons _ _ => cases r1 <;> exact h.elim
theorem oc_abs : OC X W (.builtin "abs") vAbs := oc1_of fun pins s σ H xs us Q ρ μ ps I r rp t h => by
  cases rp with
  | nil => exact h.elim
  | cons r1 r2 =>
    cases r2 with
    | nil =>
      cases r1 with
      | int i => exact call_abs pins s σ H _ us Q I r ⟨i, rfl, h ρ _ H Step.refl (.int _) t⟩
      | _ => exact h.elim
    | cons _ _ => cases r1 <;> exact h.elim
theorem oc_max2 (hc : X.calm = true) : OC X W (.builtin "max") vMax2 := oc1_of fun pins s σ H xs us Q ρ μ ps I r rp t h => by
  cases rp with
  | nil => exact h.elim
  | cons r1 r2 =>
    cases r2 with
    | nil => cases r1 <;> exact h.elim
    | cons r3 r4 =>
      cases r4 with
      | nil =>
        cases r1 with
        | int i =>
          cases r3 with
          | int j => exact call_max2 hc pins s σ H _ us Q I r ⟨i, j, rfl, h ρ _ H Step.refl (.int _) t⟩
          | _ => exact h.elim
        | _ => exact h.elim
      | cons _ _ => cases r1 <;> first | exact h.elim | (cases r3 <;> exact h.elim)
theorem oc_min2 (hc : X.calm = true) : OC X W (.builtin "min") vMin2 := oc1_of fun pins s σ H xs us Q ρ μ ps I r rp t h => by
  cases rp with
  | nil => exact h.elim
  | cons r1 r2 =>
    cases r2 with
    | nil => cases r1 <;> exact h.elim
    | cons r3 r4 =>
      cases r4 with
      | nil =>
        cases r1 with
        | int i =>
          cases r3 with
          | int j => exact call_min2 hc pins s σ H _ us Q I r ⟨i, j, rfl, h ρ _ H Step.refl (.int _) t⟩
          | _ => exact h.elim
        | _ => exact h.elim
      | cons _ _ => cases r1 <;> first | exact h.elim | (cases r3 <;> exact h.elim)
/-- one list -/
theorem list1 {α : Type} {g : List PV → Option α} {k : α → PV} {K : PySem.W.Frag} {ρ : List Addr} {H : Hp} {ps : List PV} {xs : List V} {μ : Sto} {P : Program} {w : World} {Q : VK}
    (rp : RVs K ρ H ps xs) (t : RSt P w K ρ H μ) (h : Post P w K W ρ H (v1L g k ps μ) (RV K) Q) :
    ∃ a vs qs x, xs = [.ref a] ∧ SqL K H a vs ∧ RVs K ρ H qs vs ∧ g qs = some x ∧ Post P w K W ρ H (.ok (k x) μ) (RV K) Q := by
  cases rp with
  | nil => exact h.elim
  | cons r1 r2 =>
    cases r2 with
    | nil =>
      cases r1 with
      | @ref i a ha =>
        have h : Post P w K W ρ H (match (seqAt μ i).bind g with | some a => .ok (k a) μ | none => .bad) (RV K) Q := h
        cases e : seqAt μ i with
        | none => rw [e] at h; exact h.elim
        | some qs =>
          rw [e, Option.bind_some] at h
          obtain ⟨vs, h1, h2⟩ := seqAt_of t ha e
          cases e2 : g qs with
          | none => rw [e2] at h; exact h.elim
          | some x =>
            rw [e2] at h
            exact ⟨a, vs, qs, x, rfl, h1, h2, e2, h⟩
      | _ => exact h.elim
    | cons _ _ => cases r1 <;> exact h.elim
theorem oc_sum (hc : X.calm = true) : OC X W (.builtin "sum") vSum := oc1_of fun pins s σ H xs us Q ρ μ ps I r rp t h => by
  obtain ⟨a, vs, qs, ns, rfl, h1, h2, h3, q⟩ := list1 rp t h
  have e := intsL_of h2 h3
  exact cr_sum hc pins s σ H _ us Q I r ⟨a, ns, rfl, e ▸ h1, q ρ _ H Step.refl (.int _) t⟩
theorem oc_all (hc : X.calm = true) : OC X W (.builtin "all") vAll := oc1_of fun pins s σ H xs us Q ρ μ ps I r rp t h => by
  obtain ⟨a, vs, qs, ns, rfl, h1, h2, h3, q⟩ := list1 rp t h
  have e := boolsL_of h2 h3
  exact cr_all hc pins s σ H _ us Q I r ⟨a, ns, rfl, e ▸ h1, q ρ _ H Step.refl (.bl _) t⟩
theorem write_lst {P : Program} {w : World} {K : PySem.W.Frag} {ρ : List Addr} {H : Hp} {μ : Sto} {i : Nat} {a : Addr} {vs ws : List V} {qs : List PV} (t : RSt P w K ρ H μ) (ha : ρ[i]? = some a) (h : H a = some (.lst vs)) (r : RVs K ρ H qs ws) :
    Step K ρ H ρ (upd H a (.lst ws)) ∧ RSt P w K ρ (upd H a (.lst ws)) (μ.set i (.lst qs)) := by
  have hm : Mut (H a) := by rw [h]; trivial
  have st : Step K ρ H ρ (upd H a (.lst ws)) := Step.write (List.mem_of_getElem? ha) hm (DW.lst h)
  exact ⟨st, t.write ha hm (DW.lst h) ⟨ws, upd_same, r.step st⟩⟩
theorem om_append : OM X W "list.append" vAppend := om_of fun pins s σ H x xs v us Q ρ μ p ps I rx r r1 rp t h => by
  cases r1 with
  | @ref i a ha =>
    cases rp with
    | nil => exact h.elim
    | @cons y yv _ _ r2 r3 =>
      cases r3 with
      | nil =>
        have h : Post X.prog X.w X.K W ρ H (match isLst μ i with
          | some ps => if ps.length < sizeLine then .ok .non (μ.set i (.lst (ps ++ [y]))) else .bad
          | none => .bad) (RV X.K) Q := h
        cases e : isLst μ i with
        | none => rw [e] at h; exact h.elim
        | some qs =>
          rw [e] at h
          obtain ⟨vs, h1, h2⟩ := isLst_of t ha e
          by_cases c : qs.length < sizeLine
          · simp only [if_pos c] at h
            obtain ⟨st, s'⟩ := write_lst t ha h1 (h2.append (.cons r2 .nil))
            exact mt_append pins s σ H _ _ v us Q I rx r ⟨a, vs, _, rfl, rfl, h1, by rw [← h2.length]; exact c, h ρ _ _ st .non s'⟩
          · simp only [if_neg c] at h
            exact h.elim
      | cons _ _ => exact h.elim
  | _ => exact h.elim
theorem om_extend : OM X W "list.extend" vExtend := om_of fun pins s σ H x xs v us Q ρ μ p ps I rx r r1 rp t h => by
  cases r1 with
  | @ref i a ha =>
    cases rp with
    | nil => exact h.elim
    | @cons y yv _ _ r2 r3 =>
      cases r3 with
      | nil =>
        cases r2 with
        | @ref j b hb =>
          have h : Post X.prog X.w X.K W ρ H (match isLst μ i, isLst μ j with
            | some ps, some qs => if ps.length + qs.length ≤ sizeLine then .ok .non (μ.set i (.lst (ps ++ qs))) else .bad
            | _, _ => .bad) (RV X.K) Q := h
          cases e : isLst μ i with
          | none => rw [e] at h; exact h.elim
          | some qs =>
            cases e2 : isLst μ j with
            | none => rw [e, e2] at h; exact h.elim
            | some qs2 =>
              rw [e, e2] at h
              obtain ⟨vs, h1, h2⟩ := isLst_of t ha e
              obtain ⟨ws, k1, k2⟩ := isLst_of t hb e2
              by_cases c : qs.length + qs2.length ≤ sizeLine
              · simp only [if_pos c] at h
                obtain ⟨st, s'⟩ := write_lst t ha h1 (h2.append k2)
                exact mt_extend pins s σ H _ _ v us Q I rx r ⟨a, b, vs, ws, rfl, rfl, h1, k1, by rw [← h2.length, ← k2.length]; exact c, h ρ _ _ st .non s'⟩
              · simp only [if_neg c] at h
                exact h.elim
        | _ => exact h.elim
      | cons _ _ => cases r2 <;> exact h.elim
  | _ => exact h.elim
theorem om_pop : OM X W "list.pop" vPop := om_of fun pins s σ H x xs v us Q ρ μ p ps I rx r r1 rp t h => by
  cases r1 with
  | @ref i a ha =>
    cases rp with
    | nil =>
      have h : Post X.prog X.w X.K W ρ H (match isLst μ i with
        | some ps => match ps[ps.length - 1]? with
          | some p => .ok p (μ.set i (.lst ps.dropLast))
          | none => .bad
        | none => .bad) (RV X.K) Q := h
      cases e : isLst μ i with
      | none => rw [e] at h; exact h.elim
      | some qs =>
        rw [e] at h
        obtain ⟨vs, h1, h2⟩ := isLst_of t ha e
        cases e2 : qs[qs.length - 1]? with
        | none => simp only [e2] at h; exact h.elim
        | some y =>
          simp only [e2] at h
          obtain ⟨yv, k1, k2⟩ := h2.get e2
          obtain ⟨st, s'⟩ := write_lst t ha h1 h2.dropLast
          exact mt_pop pins s σ H _ _ v us Q I rx r ⟨a, vs, yv, rfl, rfl, h1, by rw [← h2.length]; exact k1, h ρ _ _ st (k2.step st) s'⟩
    | @cons y yv _ _ r2 r3 =>
      cases r3 with
      | nil =>
        cases r2 with
        | int z =>
          have h : Post X.prog X.w X.K W ρ H (match isLst μ i with
            | some ps => if -(2 ^ 63) ≤ z ∧ z < 2 ^ 63 then match seqIndex? z ps.length with
                | some k => match ps[k]? with
                  | some p => .ok p (μ.set i (.lst (ps.eraseIdx k)))
                  | none => .bad
                | none => .bad
              else .bad
            | none => .bad) (RV X.K) Q := h
          cases e : isLst μ i with
          | none => rw [e] at h; exact h.elim
          | some qs =>
            rw [e] at h
            obtain ⟨vs, h1, h2⟩ := isLst_of t ha e
            by_cases c : -(2 ^ 63) ≤ z ∧ z < 2 ^ 63
            · simp only [if_pos c] at h
              cases e2 : seqIndex? z qs.length with
              | none => simp only [e2] at h; exact h.elim
              | some k =>
                simp only [e2] at h
                cases e3 : qs[k]? with
                | none => simp only [e3] at h; exact h.elim
                | some y =>
                  simp only [e3] at h
                  obtain ⟨yv, k1, k2⟩ := h2.get e3
                  obtain ⟨st, s'⟩ := write_lst t ha h1 (h2.eraseIdx k)
                  exact mt_popAt pins s σ H _ _ v us Q I rx r ⟨a, vs, z, k, yv, rfl, rfl, h1, c.1, c.2, by rw [← h2.length]; exact e2, k1, h ρ _ _ st (k2.step st) s'⟩
            · simp only [if_neg c] at h
              exact h.elim
        | _ => exact h.elim
      | cons _ _ => cases r2 <;> exact h.elim
  | _ => cases rp with
    | nil => exact h.elim
    | cons r2 r3 => cases r3 <;> first | exact h.elim | (cases r2 <;> exact h.elim)
theorem om_split : OM X W "str.split" vSplit := om_of fun pins s σ H x xs v us Q ρ μ p ps I rx r r1 rp t h => by
  cases r1 with
  | str a =>
    cases rp with
    | nil => exact h.elim
    | @cons y yv _ _ r2 r3 =>
      cases r3 with
      | nil =>
        cases r2 with
        | str b =>
          have h : Post X.prog X.w X.K W ρ H (if (b.length == 0) = false ∧ a.length + 2 ≤ sizeLine then .ok (.ref μ.length) (μ ++ [.lst ((Txt.split a b).map PV.str)]) else .bad) (RV X.K) Q := h
          by_cases c : (b.length == 0) = false ∧ a.length + 2 ≤ sizeLine
          · rw [if_pos c] at h
            exact mt_split pins s σ H _ _ v us Q I rx r ⟨a, b, rfl, rfl, c.1, c.2, fun p hp => ok_lst t (strs_rel _) hp h⟩
          · rw [if_neg c] at h
            exact h.elim
        | _ => exact h.elim
      | cons _ _ => cases r2 <;> exact h.elim
  | _ => exact h.elim
theorem om_join : OM X W "str.join" vJoin := om_of fun pins s σ H x xs v us Q ρ μ p ps I rx r r1 rp t h => by
  cases r1 with
  | str a =>
    cases rp with
    | nil => exact h.elim
    | @cons y yv _ _ r2 r3 =>
      cases r3 with
      | nil =>
        have h : Post X.prog X.w X.K W ρ H (match (items y μ).bind strsL with
          | some ys => if (ys.map (·.length)).sum + ys.length * a.length ≤ 16777216 then .ok (.str (Txt.join a ys)) μ else .bad
          | none => .bad) (RV X.K) Q := h
        cases e : items y μ with
        | none => rw [e] at h; exact h.elim
        | some qs =>
          rw [e, Option.bind_some] at h
          obtain ⟨b, vs, rfl, h1, h2⟩ := items_of t r2 e
          cases e2 : strsL qs with
          | none => rw [e2] at h; exact h.elim
          | some ys =>
            rw [e2] at h
            have e3 := strsL_of h2 e2
            by_cases c : (ys.map (·.length)).sum + ys.length * a.length ≤ 16777216
            · simp only [if_pos c] at h
              exact mt_join pins s σ H _ _ v us Q I rx r ⟨a, b, ys, rfl, rfl, by rw [← e3]; exact h1.symm, c, h ρ _ H Step.refl (.str _) t⟩
            · simp only [if_neg c] at h
              exact h.elim
      | cons _ _ => exact h.elim
  | _ => exact h.elim
theorem om_count : OM X W "str.count" vCount := om_of fun pins s σ H x xs v us Q ρ μ p ps I rx r r1 rp t h => by
  cases r1 with
  | str a =>
    cases rp with
    | nil => exact h.elim
    | @cons y yv _ _ r2 r3 =>
      cases r3 with
      | nil =>
        cases r2 with
        | str b => exact mt_count pins s σ H _ _ v us Q I rx r ⟨a, b, rfl, rfl, h ρ _ H Step.refl (.int _) t⟩
        | _ => exact h.elim
      | cons _ _ => cases r2 <;> exact h.elim
  | _ => exact h.elim
end
end DL
namespace DL
open PySem PySem.Spec PyProof.Rows L2
mutual
/-- a key of trees -/
def nkOf : PV → Option NestedKey
  | .non => some .none
  | .int i => some (.num i)
  | .str x => some (.text x)
  | .tup ps => match nksOf ps with
    | some ks => some (.tup ks)
    | none => none
  | .bl _ => none
  | .ref _ => none
  | .ty _ => none
  | .glb _ => none
  | .exc _ _ => none
def nksOf : List PV → Option (List NestedKey)
  | [] => some []
  | p :: ps => match nkOf p, nksOf ps with
    | some k, some ks => some (k :: ks)
    | _, _ => none
end
mutual
theorem nkOf_pv : ∀ {p : PV} {k : NestedKey}, nkOf p = some k → pvN k = p
  | .non, _, h => by cases h; rfl
  | .int i, _, h => by cases h; rfl
  | .str x, _, h => by cases h; rfl
  | .tup ps, k, h => by
    rw [nkOf] at h
    cases e : nksOf ps with
    | none => rw [e] at h; cases h
    | some ks =>
      rw [e] at h
      cases h
      rw [pvN, nksOf_pv e]
  | .bl _, _, h => by cases h
  | .ref _, _, h => by cases h
  | .ty _, _, h => by cases h
  | .glb _, _, h => by cases h
  | .exc _ _, _, h => by cases h
theorem nksOf_pv : ∀ {ps : List PV} {ks : List NestedKey}, nksOf ps = some ks → pvNs ks = ps
  | [], _, h => by cases h; rfl
  | p :: ps, ks, h => by
    rw [nksOf] at h
    cases e : nkOf p with
    | none => rw [e] at h; cases h
    | some k =>
      cases e2 : nksOf ps with
      | none => rw [e, e2] at h; cases h
      | some ks' =>
        rw [e, e2] at h
        cases h
        rw [pvNs, nkOf_pv e, nksOf_pv e2]
end
theorem pvK_inj {a b : Key} (e : pvK a = pvK b) : a = b := by
  cases a with
  | inl i => cases b with
    | inl j => injection e with e; rw [e]
    | inr y => cases e
  | inr x => cases b with
    | inl j => cases e
    | inr y => injection e with e; rw [e]
mutual
theorem pvN_inj : ∀ {a b : NestedKey}, pvN a = pvN b → a = b
  | .none, b, e => by cases b <;> first | rfl | cases e
  | .num i, b, e => by cases b <;> first | (injection e with e; rw [e]) | cases e
  | .text i, b, e => by cases b <;> first | (injection e with e; rw [e]) | cases e
  | .tup ks, b, e => by
    cases b with
    | tup js => injection e with e; rw [pvNs_inj e]
    | _ => cases e
theorem pvNs_inj : ∀ {a b : List NestedKey}, pvNs a = pvNs b → a = b
  | [], b, e => by cases b <;> first | rfl | cases e
  | k :: ks, b, e => by
    cases b with
    | nil => cases e
    | cons j js => injection e with e1 e2; rw [pvN_inj e1, pvNs_inj e2]
end
def isTup : PV → Bool
  | .tup _ => true
  | _ => false
/-- what may be asked of a dict: a key of its kind -/
def keyIn (kvs : List (PV × PV)) (k : PV) : Bool := (match k with
  | .int _ => true
  | .str _ => true
  | .tup _ => match nkOf k with
    | some n => decide (n.depth ≤ 8)
    | none => false
  | _ => false) && (match kvs with
  | [] => true
  | q :: _ => isTup q.1 == isTup k)
def dget (kvs : List (PV × PV)) (k : PV) : Option PV := (kvs.find? fun kv => decide (kv.1 = k)).map (·.2)
def dput (kvs : List (PV × PV)) (k v : PV) : List (PV × PV) :=
  if (kvs.any fun kv => decide (kv.1 = k)) = true then kvs.map (fun kv => if kv.1 = k then (kv.1, v) else kv) else kvs ++ [(k, v)]
theorem length_dput (kvs : List (PV × PV)) (k v : PV) : (dput kvs k v).length ≤ kvs.length + 1 := by
  unfold dput
  split
  · rw [List.length_map]; omega
  · rw [List.length_append, List.length_cons, List.length_nil]; omega
/-- none and none, or two that belong to one another -/
def RelOp {α β : Type} (R : α → β → Prop) : Option α → Option β → Prop
  | some a, some b => R a b
  | none, none => True
  | _, _ => False
section
variable {κ : Type} [DecidableEq κ] {e : κ → PV} {R : PV → Value → Prop}
abbrev PrE {κ : Type} (e : κ → PV) (R : PV → Value → Prop) : List (PV × PV) → List (κ × Value) → Prop := Paired fun p q => p.1 = e q.1 ∧ R p.2 q.2
theorem pr_get (inj : ∀ {a b : κ}, e a = e b → a = b) {kvs : List (PV × PV)} {vs : List (κ × Value)} (r : PrE e R kvs vs) (k : κ) : RelOp R (dget kvs (e k)) (valueAt vs k) := by
  induction r with
  | nil => exact True.intro
  | @cons p q ps qs h t ih =>
    obtain ⟨h1, h2⟩ := h
    by_cases c : q.1 = k
    · have a : dget (p :: ps) (e k) = some p.2 := by
        have : p.1 = e k := by rw [h1, c]
        simp [dget, List.find?_cons, this]
      have b : valueAt (q :: qs) k = some q.2 := by simp [valueAt, List.find?_cons, c]
      rw [a, b]
      exact h2
    · have c' : ¬ p.1 = e k := fun z => c (inj (h1.symm.trans z))
      have a : dget (p :: ps) (e k) = dget ps (e k) := by simp [dget, List.find?_cons, c']
      have b : valueAt (q :: qs) k = valueAt qs k := by simp [valueAt, List.find?_cons, c]
      rw [a, b]
      exact ih
theorem pr_any (inj : ∀ {a b : κ}, e a = e b → a = b) {kvs : List (PV × PV)} {vs : List (κ × Value)} (r : PrE e R kvs vs) (k : κ) : (kvs.any fun kv => decide (kv.1 = e k)) = vs.any fun kv => decide (kv.1 = k) := by
  induction r with
  | nil => rfl
  | @cons p q ps qs h t ih =>
    rw [List.any_cons, List.any_cons, ih]
    congr 1
    by_cases c : q.1 = k
    · rw [decide_eq_true c, decide_eq_true (by rw [h.1, c])]
    · rw [decide_eq_false c, decide_eq_false fun z => c (inj (h.1.symm.trans z))]
theorem pr_put (inj : ∀ {a b : κ}, e a = e b → a = b) {kvs : List (PV × PV)} {vs : List (κ × Value)} (r : PrE e R kvs vs) (k : κ) {v : PV} {u : Value} (rv : R v u) : PrE e R (dput kvs (e k) v) (stored vs k u) := by
  unfold dput stored
  rw [pr_any inj r k]
  by_cases c : (vs.any fun kv => decide (kv.1 = k)) = true
  · rw [if_pos c, if_pos c]
    clear c
    induction r with
    | nil => exact .nil
    | @cons p q ps qs h t ih =>
      rw [List.map_cons, List.map_cons]
      refine .cons ?_ ih
      obtain ⟨h1, h2⟩ := h
      by_cases c : q.1 = k
      · rw [if_pos c, if_pos (by rw [h1, c])]
        exact ⟨h1, rv⟩
      · rw [if_neg c, if_neg fun z => c (inj (h1.symm.trans z))]
        exact ⟨h1, h2⟩
  · rw [if_neg c, if_neg c]
    exact Paired.snoc r ⟨rfl, rv⟩
end
section
variable (K : PySem.W.Frag) (ρ : List Addr) (H : Hp)
abbrev PrF : List (PV × PV) → List (Key × Value) → Prop := Paired fun p q => p.1 = pvK q.1 ∧ RVal K ρ H p.2 q.2
abbrev PrN : List (PV × PV) → List (NestedKey × Addr × Value) → Prop := Paired fun p q => p.1 = pvN q.1 ∧ q.1.depth ≤ 8 ∧ RV K ρ H p.1 (.ref q.2.1) ∧ RVal K ρ H p.2 q.2.2
end
section
variable {K : PySem.W.Frag} {ρ : List Addr} {H : Hp}
theorem prn_pairs {kvs : List (PV × PV)} {xs : List (NestedKey × Addr × Value)} (r : PrN K ρ H kvs xs) : PrE pvN (RVal K ρ H) kvs (pairsH xs) := by
  induction r with
  | nil => exact .nil
  | cons h t ih => exact .cons ⟨h.1, h.2.2.2⟩ ih
theorem prn_put {kvs : List (PV × PV)} {xs : List (NestedKey × Addr × Value)} (r : PrN K ρ H kvs xs) {k : NestedKey} (hk : k.depth ≤ 8) {b : Addr} (rk : RV K ρ H (pvN k) (.ref b)) {v : PV} {u : Value} (rv : RVal K ρ H v u) :
    PrN K ρ H (dput kvs (pvN k) v) (storedH xs k b u) := by
  unfold dput storedH
  have e : (kvs.any fun kv => decide (kv.1 = pvN k)) = (atKey xs k).isSome := by
    rw [pr_any (fun {a b} => pvN_inj) (prn_pairs r) k, any_pairsH]
  rw [e]
  clear e
  by_cases c : (atKey xs k).isSome = true
  · rw [if_pos c, if_pos c]
    clear c
    induction r with
    | nil => exact .nil
    | @cons p q ps qs h t ih =>
      rw [List.map_cons, List.map_cons]
      refine .cons ?_ ih
      obtain ⟨h1, h2, h3, h4⟩ := h
      unfold putAt
      by_cases c : q.1 = k
      · rw [if_pos c, if_pos (by rw [h1, c])]
        exact ⟨h1, h2, h3, rv⟩
      · rw [if_neg c, if_neg fun z => c (pvN_inj (h1.symm.trans z))]
        exact ⟨h1, h2, h3, h4⟩
  · rw [if_neg c, if_neg c]
    exact Paired.snoc r ⟨rfl, hk, rk, rv⟩
end
section
variable {X : Cx} {pins : List (Addr × Obj)} {σ : L2.St} {H : Hp} {s : Shared} {ρ : List Addr}
mutual
theorem nkey_is (I : Inv X pins σ H s) : ∀ {k : NestedKey} {v : V} {u : Value}, RV X.K ρ H (pvN k) v → RelV v u → NestedIs s.heap k u
  | .none, _, _, r, q => by cases r; cases q; exact .none
  | .num i, _, _, r, q => by
    cases r
    obtain ⟨t, e⟩ := q
    subst e
    exact .int i t
  | .text x, _, _, r, q => by
    cases r
    obtain ⟨t, e⟩ := q
    subst e
    exact .text x t
  | .tup ks, v, u, r, q => by
    rw [pvN] at r
    cases r with
    | tup h1 h2 =>
      cases q
      obtain ⟨its, rv, pl, _⟩ := I.tuple h1
      obtain ⟨o, ho, hc, n, hd⟩ := (show IsTup s.heap _ _ from pl)
      exact .tup ho hc hd (by simpa using nkeys_is I h2 rv)
theorem nkeys_is (I : Inv X pins σ H s) : ∀ {ks : List NestedKey} {vs : List V} {us : List Value}, RVs X.K ρ H (pvNs ks) vs → Vals vs us → NestedAll s.heap ks us
  | [], _, _, r, q => by cases r; cases q; exact .nil
  | k :: ks, _, _, r, q => by
    rw [pvNs] at r
    cases r with
    | cons r1 r2 =>
      cases q with
      | cons q1 q2 => exact .cons (nkey_is I r1 q1) (nkeys_is I r2 q2)
end
end
section
variable {X : Cx} {pins : List (Addr × Obj)} {σ : L2.St} {H : Hp} {s : Shared} {ρ : List Addr} {μ : Sto}
/-- the dict with its number, in the heap -/
structure DIs (X : Cx) (H : Hp) (s : Shared) (ρ : List Addr) (a : Addr) (kvs : List (PV × PV)) : Prop where
  mu : Mut (H a)
  sys : (a == sysModules) = false
  len : kvs.length ≤ sizeLine
  raw : ∃ es ep, s.heap.DictRaw a es ep
  kind : (∃ vs, s.heap.DictOf (mixKind X.prog X.w) a vs ∧ PrF X.K ρ H kvs vs) ∨ ∃ xs, s.heap.DictOfH (nestedKind X.prog X.w) a xs ∧ PrN X.K ρ H kvs xs
theorem prn_is (I : Inv X pins σ H s) : ∀ {kvs : List (PV × PV)} {xs : List (NestedKey × Addr × Value)}, PrN X.K ρ H kvs xs → ∀ x ∈ xs, (nestedKind X.prog X.w).is s.heap x.1 x.2.1
  | _, _, .nil, x, hx => by cases hx
  | _, _, .cons h t, x, hx => by
    rcases List.mem_cons.mp hx with e | hx
    · subst e
      exact ⟨nkey_is I (v := .ref _) (h.1 ▸ h.2.2.1) rfl, h.2.1⟩
    · exact prn_is I t x hx
theorem dis_of (I : Inv X pins σ H s) (t : RSt X.prog X.w X.K ρ H μ) {i : Nat} {a : Addr} {kvs : List (PV × PV)} (ha : ρ[i]? = some a) (e : μ[i]? = some (.dct kvs)) : DIs X H s ρ a kvs := by
  obtain ⟨o, h1, h2, ex, hl, es, ep, hd, h3⟩ := t.obj i a _ ha e
  have ho : s.heap.get? a = some o := (I.hok a _ h1).1
  refine ⟨by rw [h1]; trivial, h2, hl, ⟨es, ep, o, ho, ex, hd⟩, ?_⟩
  rcases h3 with ⟨vs, k1, k2, k3, k4⟩ | ⟨xs, k1, k2, k4⟩
  · exact .inl ⟨vs, ⟨o, es, ep, ho, ex, hd, k1, k2, k3⟩, k4⟩
  · exact .inr ⟨xs, ⟨o, es, ep, ho, ex, hd, k1, prn_is I k4, k2⟩, k4⟩
/-- with a key of its kind -/
def DKy (X : Cx) (H : Hp) (s : Shared) (ρ : List Addr) (a : Addr) (kvs : List (PV × PV)) (k : PV) (u : Value) : Prop :=
  (∃ vs k', pvK k' = k ∧ (mixKind X.prog X.w).is k' u = true ∧ s.heap.DictOf (mixKind X.prog X.w) a vs ∧ PrF X.K ρ H kvs vs) ∨
  ∃ xs n b, pvN n = k ∧ n.depth ≤ 8 ∧ u = .ref b ∧ RV X.K ρ H k (.ref b) ∧ (nestedKind X.prog X.w).is s.heap n b ∧ s.heap.DictOfH (nestedKind X.prog X.w) a xs ∧ PrN X.K ρ H kvs xs
theorem tup_of_ref {K : PySem.W.Frag} {n : NestedKey} {p : PV} {b : Addr} (e : p = pvN n) (r : RV K ρ H p (.ref b)) : isTup p = true := by
  subst e
  cases n with
  | none => rw [pvN] at r; cases r
  | num i => rw [pvN] at r; cases r
  | text x => rw [pvN] at r; cases r
  | tup ks => rfl
theorem not_tup {k : Key} : isTup (pvK k) = false := by cases k <;> rfl
theorem pairs_nil {P : Program} {w : World} {es : List DictEntry} (h : Pairs (mixKind P w) es []) : es = [] := by cases h; rfl
theorem flat_nil (d : DIs X H s ρ a []) : s.heap.DictOf (mixKind X.prog X.w) a [] := by
  rcases d.kind with ⟨vs, h1, h2⟩ | ⟨xs, h1, h2⟩
  · cases h2; exact h1
  · cases h2
    obtain ⟨o, es, ep, k1, k2, k3, k4, k5, k6⟩ := h1
    have : es = #[] := by
      cases es with
      | mk l =>
        have : l = [] := k4
        rw [this]
    subst this
    exact ⟨o, #[], ep, k1, k2, k3, (fun e he => by simp at he), .nil, List.nodup_nil⟩
theorem nest_nil (d : DIs X H s ρ a []) : s.heap.DictOfH (nestedKind X.prog X.w) a [] := by
  rcases d.kind with ⟨vs, h1, h2⟩ | ⟨xs, h1, h2⟩
  · cases h2
    obtain ⟨o, es, ep, k1, k2, k3, k4, k5, k6⟩ := h1
    exact ⟨o, es, ep, k1, k2, k3, pairs_nil k5, (fun x hx => by cases hx), List.nodup_nil⟩
  · cases h2; exact h1
theorem dis_key (I : Inv X pins σ H s) (d : DIs X H s ρ a kvs) {k : PV} {y : V} {u : Value} (hk : keyIn kvs k = true) (rk : RV X.K ρ H k y) (ry : RelV y u) : DKy X H s ρ a kvs k u := by
  unfold keyIn at hk
  rw [Bool.and_eq_true] at hk
  obtain ⟨hk1, hk2⟩ := hk
  have flat : ∀ k', pvK k' = k → y = kV k' → DKy X H s ρ a kvs k u := by
    intro k' e1 e2
    subst e2
    have hu : (mixKind X.prog X.w).is k' u = true := kV_is ry
    rcases d.kind with ⟨vs, h1, h2⟩ | ⟨xs, h1, h2⟩
    · exact .inl ⟨vs, k', e1, hu, h1, h2⟩
    · cases h2 with
      | nil => exact .inl ⟨[], k', e1, hu, flat_nil d, .nil⟩
      | cons h t =>
        have z : (isTup _ == isTup k) = true := hk2
        rw [tup_of_ref h.1 h.2.2.1, ← e1, not_tup] at z
        cases z
  cases k with
  | int i => cases rk; exact flat (.inl i) rfl rfl
  | str x => cases rk; exact flat (.inr x) rfl rfl
  | tup ps =>
    have hk1 : (match nkOf (.tup ps) with | some n => decide (n.depth ≤ 8) | none => false) = true := hk1
    cases e : nkOf (.tup ps) with
    | none => rw [e] at hk1; cases hk1
    | some n =>
      rw [e] at hk1
      have hd : n.depth ≤ 8 := of_decide_eq_true hk1
      have en := nkOf_pv e
      cases rk with
      | @tup _ vs b h1 h2 =>
        obtain rfl : u = Value.ref b := ry
        have rk' : RV X.K ρ H (.tup ps) (.ref b) := .tup h1 h2
        have is : (nestedKind X.prog X.w).is s.heap n b := ⟨nkey_is I (v := .ref b) (by rw [en]; exact rk') rfl, hd⟩
        rcases d.kind with ⟨vs, h1, h2⟩ | ⟨xs, h1, h2⟩
        · cases h2 with
          | nil => exact .inr ⟨[], n, b, en, hd, rfl, rk', is, nest_nil d, .nil⟩
          | cons h t =>
            have z : (isTup _ == isTup (PV.tup ps)) = true := hk2
            rw [h.1, not_tup] at z
            cases z
        · exact .inr ⟨xs, n, b, en, hd, rfl, rk', is, h1, h2⟩
  | _ => cases hk1
/-- what it holds there -/
theorem relop_some {α β : Type} {R : α → β → Prop} {a : α} {o : Option β} (h : RelOp R (some a) o) : ∃ b, o = some b ∧ R a b := by
  cases o with
  | none => exact h.elim
  | some b => exact ⟨b, rfl, h⟩
theorem relop_isSome {α β : Type} {R : α → β → Prop} {o : Option α} {u : Option β} (h : RelOp R o u) : u.isSome = o.isSome := by
  cases o <;> cases u <;> first | rfl | exact h.elim
variable {A : Around} {E : Value → Shared → Prop} {a : Addr} {kvs : List (PV × PV)} {k : PV} {u : Value}
theorem dd_getItem {Q : Value → Shared → Prop} {v : PV} (hu : A.units + 9 < cLine) (I : Inv X pins σ H s) (d : DKy X H s ρ a kvs k u) (g : dget kvs k = some v) (h : ∀ x w' s', Inv X pins σ H s' → RV X.K ρ H v x → RelV x w' → Q w' s') :
    wpAny (model X.prog X.w) A (getItem (.ref a) u) Q E s := by
  rcases d with ⟨vs, k', e1, e2, e3, e4⟩ | ⟨xs, n, b, e1, e2, rfl, e3, e4, e5, e6⟩
  · subst e1
    have r := pr_get (fun {a b} => pvK_inj) e4 k'
    rw [g] at r
    obtain ⟨w', hw, x, r1, r2⟩ := relop_some r
    exact wpAny_getItem_of e2 e3.mapOf hw (h x w' _ (I.tok _) r2 r1)
  · subst e1
    have r := pr_get (fun {a b} => pvN_inj) (prn_pairs e6) n
    rw [g, valueAt_pairsH] at r
    obtain ⟨w', hw, x, r1, r2⟩ := relop_some r
    obtain ⟨p, hp, hp2⟩ := Option.map_eq_some_iff.mp hw
    refine wpAny_getItem_heap (show A.in1.units + 8 < cLine from by show A.units + 1 + 8 < cLine; omega) e4 e5 hp ?_
    rw [hp2]
    exact h x w' _ (I.tok _) r2 r1
theorem dd_in {Q : Value → Shared → Prop} (hu : A.units + 9 < cLine) (I : Inv X pins σ H s) (sys : (a == sysModules) = false) (d : DKy X H s ρ a kvs k u) (h : ∀ s', Inv X pins σ H s' → Q (.bool (dget kvs k).isSome) s') :
    wpAny (model X.prog X.w) A (compareOp .In u (.ref a)) Q E s := by
  rcases d with ⟨vs, k', e1, e2, e3, e4⟩ | ⟨xs, n, b, e1, e2, rfl, e3, e4, e5, e6⟩
  · subst e1
    refine wpAny_in_of e2 sys e3.mapOf ?_
    rw [relop_isSome (pr_get (fun {a b} => pvK_inj) e4 k')]
    exact h _ (I.tok _)
  · subst e1
    refine wpAny_in_heap (show A.in1.units + 8 < cLine from by show A.units + 1 + 8 < cLine; omega) e4 sys e5 ?_
    have r := relop_isSome (pr_get (fun {a b} => pvN_inj) (prn_pairs e6) n)
    rw [valueAt_pairsH, Option.isSome_map] at r
    rw [r]
    exact h _ (I.tok _)
theorem dd_notIn {Q : Value → Shared → Prop} (hu : A.units + 9 < cLine) (I : Inv X pins σ H s) (sys : (a == sysModules) = false) (d : DKy X H s ρ a kvs k u) (h : ∀ s', Inv X pins σ H s' → Q (.bool (!(dget kvs k).isSome)) s') :
    wpAny (model X.prog X.w) A (compareOp .NotIn u (.ref a)) Q E s := by
  rcases d with ⟨vs, k', e1, e2, e3, e4⟩ | ⟨xs, n, b, e1, e2, rfl, e3, e4, e5, e6⟩
  · subst e1
    refine wpAny_notIn_of e2 sys e3.mapOf ?_
    rw [relop_isSome (pr_get (fun {a b} => pvK_inj) e4 k')]
    exact h _ (I.tok _)
  · subst e1
    refine wpAny_notIn_heap (show A.in1.units + 8 < cLine from by show A.units + 1 + 8 < cLine; omega) e4 sys e5 ?_
    have r := relop_isSome (pr_get (fun {a b} => pvN_inj) (prn_pairs e6) n)
    rw [valueAt_pairsH, Option.isSome_map] at r
    rw [r]
    exact h _ (I.tok _)
/-- the object at d is a dict still, of as many entries, at the same count of changes -/
def EpSame (d : Addr) (h h' : Heap) : Prop := ∀ o es ep, h.get? d = some o → o.data = .dict es ep → ∃ o' es', h'.get? d = some o' ∧ o'.data = .dict es' ep ∧ es'.size = es.size
end
section
open Sem (wp)
variable {prog : Program} {w : World} {κ : Type} [DecidableEq κ] {A : Around} {E : Value → Shared → Prop} {s : Shared} {d a : Addr} {k : κ}
theorem epSame_upd {h : Heap} {o : Obj} {es : Array DictEntry} {ep : Nat} {f : Array DictEntry → Array DictEntry} (ho : h.get? d = some o) (hd : o.data = .dict es ep) (hs : (f es).size = es.size) : EpSame d h (h.update d (Obj.mapDict f)) := by
  intro o1 es1 ep1 h1 h2
  rw [ho] at h1
  cases h1
  rw [hd] at h2
  cases h2
  exact ⟨_, _, Heap.get?_update_self _ ho (Obj.isFreed_of_dict (Obj.data_mapDict hd _)), Obj.data_mapDict hd _, hs⟩
theorem flat_old {knd : KeyKind prog w κ} {key v : Value} {kvs : List (κ × Value)} {Q : Unit → Shared → Prop} (hkey : knd.is k key = true) (hm : s.heap.DictOf knd d kvs) (hin : (kvs.any fun kv => decide (kv.1 = k)) = true)
    (hQ : ∀ h', h'.DictOf knd d (stored kvs k v) → Heap.SameBut d s.heap h' → EpSame d s.heap h' → Q () { s with heap := h', toks := s.toks + 1 }) : wpAny (model prog w) A (dictSet d key v) Q E s := by
  obtain ⟨o, es, ep, ho, hc, hdt, hk, hp, hnd⟩ := hm
  unfold dictSet
  try (with_reducible refine wpAny_holding ?_)
  refine wpAny_bind (knd.pyHash hkey (?_ : wpAny _ _ _ _ _ _))
  unfold dictSetHashed
  try (with_reducible refine wpAny_holding ?_)
  refine wpAny_bind (wpAny_dictFind_of (s := { s with toks := s.toks + 1 }) hkey ho hdt hk ?_)
  have hix : (es.findIdx? fun e => knd.is k e.key) = kvs.findIdx? fun kv => decide (kv.1 = k) := by
    have := hp.findIdx k
    obtain ⟨l⟩ := es
    simpa using this
  cases hi : es.findIdx? fun e => knd.is k e.key with
  | some i =>
    refine wpAny_bind (wpAny_rule (wpAny_bind (wpAny_updateDict (s := { s with toks := s.toks + 1 }) ho hdt (wpAny_point (hQ _ ⟨_, _, ep, Heap.get?_update_self _ ho (Obj.isFreed_of_dict (Obj.data_mapDict hdt _)), hc.mapDict _, Obj.data_mapDict hdt _, hk.modify _ _, ?_, ?_⟩ (Heap.SameBut.update ..) (epSame_upd ho hdt (by simp)))))))
    · have hl : (es.toList.findIdx? fun e => knd.is k e.key) = some i := by
        obtain ⟨l⟩ := es
        simpa using hi
      have q := hp.modify hnd hl v
      rw [stored, if_pos hin]
      obtain ⟨l⟩ := es
      simpa using q
    · rw [stored, if_pos hin, keys_map_store]
      exact hnd
  | none =>
    exfalso
    rw [hi] at hix
    have hnot := not_mem_of_findIdx_none hix.symm
    obtain ⟨kv, h1, h2⟩ := List.any_eq_true.mp hin
    exact hnot (List.mem_map.mpr ⟨kv, h1, of_decide_eq_true h2⟩)
theorem nest_old {knd : HeapKind prog w κ} {v : Value} {xs : List (κ × Addr × Value)} {Q : Unit → Shared → Prop} (hu : knd.room A) (hkey : knd.is s.heap k a) (hm : s.heap.DictOfH knd d xs) (hin : (atKey xs k).isSome = true)
    (hQ : ∀ h', h'.DictOfH knd d (storedH xs k a v) → Heap.SameBut d s.heap h' → EpSame d s.heap h' → Q () { s with heap := h', toks := s.toks + knd.draws k }) : wpAny (model prog w) A (dictSet d (.ref a) v) Q E s := by
  obtain ⟨o, es, ep, ho, hc, hdt, he, his, hnd⟩ := hm
  unfold dictSet
  try (with_reducible refine wpAny_holding ?_)
  refine wpAny_bind (knd.pyHash hu hkey (?_ : wpAny _ _ _ _ _ _))
  unfold dictSetHashed
  try (with_reducible refine wpAny_holding ?_)
  refine wpAny_bind (wpAny_dictFind_heap (s := { s with toks := s.toks + knd.draws k }) hu hkey ho hdt he his hnd (fun hno => ?_) (fun j p hj => ?_))
  · rw [atKey_none_of_get hno] at hin
    cases hin
  · refine wpAny_bind (wpAny_rule (wpAny_bind (wpAny_updateDict (s := { s with toks := s.toks + knd.draws k }) ho hdt (wpAny_point (hQ _ ⟨_, _, ep, Heap.get?_update_self _ ho (Obj.isFreed_of_dict (Obj.data_mapDict hdt _)), hc.mapDict _, Obj.data_mapDict hdt _, ?_, ?_, ?_⟩ (Heap.SameBut.update ..) (epSame_upd ho hdt (by simp)))))))
    · rw [storedH_old (atKey_of_get hnd hj)]
      have q := modify_map_putAt (entryOfKey knd) (fun e : DictEntry => { e with val := v }) k v (fun _ _ => rfl) hnd hj
      rw [← he] at q
      obtain ⟨l⟩ := es
      simpa using q
    · rw [storedH_old (atKey_of_get hnd hj)]
      intro x hx
      obtain ⟨y, hy, rfl⟩ := List.mem_map.mp hx
      have q : (putAt k v y).1 = y.1 ∧ (putAt k v y).2.1 = y.2.1 := by
        unfold putAt
        split <;> exact ⟨rfl, rfl⟩
      rw [q.1, q.2]
      exact knd.keeps (his y hy) ho hdt (Heap.SameBut.update ..)
    · rw [storedH_old (atKey_of_get hnd hj), List.map_map]
      have q : ((fun x : κ × Addr × Value => x.1) ∘ putAt k v) = fun x => x.1 := by
        funext y
        show (putAt k v y).1 = y.1
        unfold putAt
        split <;> rfl
      rw [q]
      exact hnd
theorem setItem_by {key v : Value} {Q : Unit → Shared → Prop} (hT : s.TypeIs (.ref d) "dict") (h : wpAny (model prog w) A.in1 (dictSet d key v) Q E s) : wpAny (model prog w) A (setItem (.ref d) key v) Q E s := by
  unfold setItem
  try (with_reducible refine wpAny_holding ?_)
  refine wpAny_bind (wpAny_sequenceKey hT (by decide) (?_ : wpAny _ _ _ _ _ _))
  refine wpAny_bind (wpAny_callSpecial?_slot (name := Str.ofString "__setitem__") hT slot_dict_setitem (wpAny_call_entry slot_dict_setitem hT entry_dict_setitem ?_ (args_dict_setitem _ _ _)))
  show wpAny _ _ (Builtin.Dict.notOrdered "__setitem__" ⟨[Value.ref d, key, v], []⟩ >>= _) _ _ s
  refine wpAny_bind (wpAny_notOrdered_dict hT (?_ : wpAny _ _ _ _ _ _))
  show wpAny _ A.in1 (dictSet d key v >>= _) _ _ s
  exact wpAny_bind (wpAny_mono h (fun _ s' q => wpAny_pure ⟨.none, rfl, wpAny_pure q⟩) fun _ _ e => e)
end
section
variable {X : Cx} {pins : List (Addr × Obj)} {σ : L2.St} {H : Hp} {s : Shared} {ρ : List Addr} {μ : Sto} {A : Around} {E : Value → Shared → Prop} {a : Addr} {kvs : List (PV × PV)} {k : PV} {u : Value}
theorem dd_write {h' : Heap} {t' : Nat} {o : Obj} (I : Inv X pins σ H s) (mu : Mut (H a)) (hs : Heap.SameBut a s.heap h') (he : h'.get? a = some o) : Inv X pins σ (upd H a (dO a o)) { s with heap := h', toks := t' } :=
  I.write (x := a) (e := a) mu (.inl rfl) (fun b q hb z => (hs.2 b hb).trans z) ⟨o, he⟩ ⟨he, ⟨o, he⟩, fun h1 h2 z k => k _ z⟩
theorem dw_of {h' : Heap} {o : Obj} {es : Array DictEntry} {ep : Nat} (I : Inv X pins σ H s) (he : h'.get? a = some o) (hd : o.data = .dict es ep)
    (h : (∀ o0 es0 ep0, s.heap.get? a = some o0 → o0.data = .dict es0 ep0 → es0.size < es.size) ∨ EpSame a s.heap h') : DW H a (dO a o) := by
  intro o0 es0 ep0 e1 e2
  have e3 : s.heap.get? a = some o0 := (I.hok a _ e1).1
  rcases h with h | h
  · have := h o0 es0 ep0 e3 e2
    exact ⟨o, es, ep, rfl, hd, by omega, fun z => by omega⟩
  · obtain ⟨o', es', h1, h2, h3⟩ := h o0 es0 ep0 e3 e2
    rw [he] at h1
    cases h1
    rw [hd] at h2
    cases h2
    exact ⟨o, es, _, rfl, hd, by omega, fun _ => rfl⟩
theorem dd_store {h' : Heap} (I : Inv X pins σ H s) (mu : Mut (H a)) (sys : (a == sysModules) = false) {i : Nat} (ha : ρ[i]? = some a) (t : RSt X.prog X.w X.K ρ H μ) {kvs' : List (PV × PV)} (hl : kvs'.length ≤ sizeLine)
    (hg : (∀ o0 es0 ep0, s.heap.get? a = some o0 → o0.data = .dict es0 ep0 → es0.size < kvs'.length) ∨ EpSame a s.heap h')
    (d : (∃ vs, h'.DictOf (mixKind X.prog X.w) a vs ∧ PrF X.K ρ H kvs' vs) ∨ ∃ xs, h'.DictOfH (nestedKind X.prog X.w) a xs ∧ PrN X.K ρ H kvs' xs) :
    ∃ o, h'.get? a = some o ∧ Step X.K ρ H ρ (upd H a (dO a o)) ∧ RSt X.prog X.w X.K ρ (upd H a (dO a o)) (μ.set i (.dct kvs')) := by
  rcases d with ⟨vs, ⟨o, es, ep, h1, h2, h3, h4, h5, h6⟩, r⟩ | ⟨xs, ⟨o, es, ep, h1, h2, h3, h4, h5, h6⟩, r⟩
  · have hz : es.size = kvs'.length := by rw [Paired.length r, ← h5.length]; exact Array.length_toList.symm
    have dw : DW H a (dO a o) := dw_of I h1 h3 (by rw [hz]; exact hg)
    have st : Step X.K ρ H ρ (upd H a (dO a o)) := Step.write (List.mem_of_getElem? ha) mu dw
    refine ⟨o, h1, st, t.write ha mu dw ⟨o, upd_same, sys, h2, hl, es, ep, h3, .inl ⟨vs, h4, h5, h6, Paired.mapP r fun p q h => ⟨h.1, h.2.step st.grow⟩⟩⟩⟩
  · have hz : es.size = kvs'.length := by rw [Paired.length r]; exact size_of_entries h4
    have dw : DW H a (dO a o) := dw_of I h1 h3 (by rw [hz]; exact hg)
    have st : Step X.K ρ H ρ (upd H a (dO a o)) := Step.write (List.mem_of_getElem? ha) mu dw
    refine ⟨o, h1, st, t.write ha mu dw ⟨o, upd_same, sys, h2, hl, es, ep, h3, .inr ⟨xs, h4, h6, Paired.mapP r fun p q h => ⟨h.1, h.2.1, h.2.2.1.step st, h.2.2.2.step st.grow⟩⟩⟩⟩
/-- a key that is not there: the dict grows -/
theorem any_get (kvs : List (PV × PV)) (k : PV) : (kvs.any fun kv => decide (kv.1 = k)) = (dget kvs k).isSome := by
  unfold dget
  rw [Option.isSome_map]
  induction kvs with
  | nil => rfl
  | cons q r ih =>
    rw [List.any_cons, List.find?_cons]
    cases c : decide (q.1 = k) with
    | true => rfl
    | false => rw [Bool.false_or]; exact ih
theorem dput_new {kvs : List (PV × PV)} {k v : PV} (h : dget kvs k = none) : (dput kvs k v).length = kvs.length + 1 := by
  unfold dput
  rw [any_get, h]
  simp
theorem raw_len (D : DIs X H s ρ a kvs) {o0 : Obj} {es0 : Array DictEntry} {ep0 : Nat} (h1 : s.heap.get? a = some o0) (h2 : o0.data = .dict es0 ep0) : es0.size = kvs.length := by
  rcases D.kind with ⟨vs, ⟨o, es, ep, k1, k2, k3, k4, k5, k6⟩, r⟩ | ⟨xs, ⟨o, es, ep, k1, k2, k3, k4, k5, k6⟩, r⟩
  · rw [k1] at h1
    cases h1
    rw [k3] at h2
    cases h2
    rw [Paired.length r, ← k5.length]
    exact Array.length_toList.symm
  · rw [k1] at h1
    cases h1
    rw [k3] at h2
    cases h2
    rw [Paired.length r]
    exact size_of_entries k4
theorem dd_setItem {Q : Unit → Shared → Prop} {vp : PV} {vx : V} {vu : Value} {i : Nat} (hu : A.units + 9 < cLine) (I : Inv X pins σ H s) (t : RSt X.prog X.w X.K ρ H μ) (ha : ρ[i]? = some a) (D : DIs X H s ρ a kvs) (d : DKy X H s ρ a kvs k u) (rv : RV X.K ρ H vp vx) (rv2 : RelV vx vu)
    (hl : kvs.length < sizeLine) (h : ∀ H' s', Step X.K ρ H ρ H' → RSt X.prog X.w X.K ρ H' (μ.set i (.dct (dput kvs k vp))) → Inv X pins σ H' s' → Q () s') :
    wpAny (model X.prog X.w) A (setItem (.ref a) u vu) Q E s := by
  have hlen := length_dput kvs k vp
  rcases d with ⟨vs, k', e1, e2, e3, e4⟩ | ⟨xs, n, b, e1, e2, rfl, e3, e4, e5, e6⟩
  · subst e1
    have hz : vs.length ≤ sizeLine := by rw [← Paired.length e4]; exact D.len
    cases c : dget kvs (pvK k') with
    | none =>
      refine wpAny_setItem_pairs (hsz := hz) e2 e3 fun h' dd' hs => ?_
      obtain ⟨o, h1, st, t'⟩ := dd_store I D.mu D.sys ha t (kvs' := dput kvs (pvK k') vp) (by omega) (.inl fun o0 es0 ep0 q1 q2 => by rw [raw_len D q1 q2, dput_new c]; omega) (.inl ⟨_, dd', pr_put (fun {a b} => pvK_inj) e4 k' ⟨vx, rv2, rv⟩⟩)
      exact h _ _ st t' (dd_write I D.mu hs h1)
    | some p0 =>
      refine setItem_by e3.typeIs (flat_old e2 e3 (by rw [← pr_any (fun {a b} => pvK_inj) e4 k', any_get, c]; rfl) fun h' dd' hs ep => ?_)
      obtain ⟨o, h1, st, t'⟩ := dd_store I D.mu D.sys ha t (kvs' := dput kvs (pvK k') vp) (by omega) (.inr ep) (.inl ⟨_, dd', pr_put (fun {a b} => pvK_inj) e4 k' ⟨vx, rv2, rv⟩⟩)
      exact h _ _ st t' (dd_write I D.mu hs h1)
  · subst e1
    have hz : xs.length ≤ sizeLine := by rw [← Paired.length e6]; exact D.len
    have hr : A.in1.units + 8 < cLine := by show A.units + 1 + 8 < cLine; omega
    cases c : dget kvs (pvN n) with
    | none =>
      refine wpAny_setItem_heap (hsz := hz) hr e4 e5 fun h' dd' hs => ?_
      obtain ⟨o, h1, st, t'⟩ := dd_store I D.mu D.sys ha t (kvs' := dput kvs (pvN n) vp) (by omega) (.inl fun o0 es0 ep0 q1 q2 => by rw [raw_len D q1 q2, dput_new c]; omega) (.inr ⟨_, dd', prn_put e6 e2 e3 ⟨vx, rv2, rv⟩⟩)
      exact h _ _ st t' (dd_write I D.mu hs h1)
    | some p0 =>
      refine setItem_by e5.typeIs (nest_old hr e4 e5 (by rw [← any_pairsH, ← pr_any (fun {a b} => pvN_inj) (prn_pairs e6) n, any_get, c]; rfl) fun h' dd' hs ep => ?_)
      obtain ⟨o, h1, st, t'⟩ := dd_store I D.mu D.sys ha t (kvs' := dput kvs (pvN n) vp) (by omega) (.inr ep) (.inr ⟨_, dd', prn_put e6 e2 e3 ⟨vx, rv2, rv⟩⟩)
      exact h _ _ st t' (dd_write I D.mu hs h1)
end
end DL
namespace DL
open PySem PySem.Spec PyProof.Rows L2
def dctAt (μ : Sto) (i : Nat) : Option (List (PV × PV)) := match μ[i]? with
  | some (.dct kvs) => some kvs
  | _ => none
theorem dctAt_get {μ : Sto} {i : Nat} {kvs : List (PV × PV)} (h : dctAt μ i = some kvs) : μ[i]? = some (.dct kvs) := by
  unfold dctAt at h
  split at h
  · cases h; assumption
  · cases h
/-- a[k] of a tuple, a list, a text, a dict -/
def vIx : VF := fun xs μ => match xs with
  | [.ref i, k] => match dctAt μ i with
    | some kvs => if keyIn kvs k = true then match dget kvs k with
        | some v => .ok v μ
        | none => .bad
      else .bad
    | none => vItem [.ref i, k] μ
  | [.tup ps, k] => vItem [.tup ps, k] μ
  | [.str z, k] => vItem [.str z, k] μ
  | _ => .bad
/-- p in c -/
def isIn (μ : Sto) (p c : PV) : Option Bool := match c with
  | .ref i => match dctAt μ i with
    | some kvs => if keyIn kvs p = true then some (dget kvs p).isSome else none
    | none => inSeq μ p c
  | _ => inSeq μ p c
def vIn : VF := fun xs μ => match xs with
  | [p, c] => match isIn μ p c with
    | some b => .ok (.bl b) μ
    | none => .bad
  | _ => .bad
def vNotIn : VF := fun xs μ => match xs with
  | [p, c] => match isIn μ p c with
    | some b => .ok (.bl (!b)) μ
    | none => .bad
  | _ => .bad
def lenOf (μ : Sto) (p : PV) : Option Nat := match p with
  | .tup ps => some ps.length
  | .str z => if z.length ≤ sizeLine then some z.length else none
  | .ref i => match dctAt μ i with
    | some kvs => some kvs.length
    | none => (seqAt μ i).map (·.length)
  | _ => none
def vLen : VF := fun xs μ => match xs with
  | [p] => match lenOf μ p with
    | some n => .ok (.int n) μ
    | none => .bad
  | _ => .bad
/-- == and != where one side is a dict: the other is {} -/
def dEmp (μ : Sto) (p q : PV) : Option Bool := match p, q with
  | .ref i, .ref j => match dctAt μ i, dctAt μ j with
    | some kvs, some [] => some kvs.isEmpty
    | _, _ => none
  | _, _ => none
def vEqA : VF := fun xs μ => match xs with
  | [p, q] => match dEmp μ p q with
    | some b => .ok (.bl b) μ
    | none => vEq [p, q] μ
  | _ => .bad
def vNeA : VF := fun xs μ => match xs with
  | [p, q] => match dEmp μ p q with
    | some b => .ok (.bl (!b)) μ
    | none => vNe [p, q] μ
  | _ => .bad
/-- d.get(k), d.get(k, x), d.setdefault(k, x) -/
def vDGet : VF := fun xs μ => match xs with
  | [.ref i, k] => match dctAt μ i with
    | some kvs => if keyIn kvs k = true then .ok ((dget kvs k).getD .non) μ else .bad
    | none => .bad
  | [.ref i, k, x] => match dctAt μ i with
    | some kvs => if keyIn kvs k = true then .ok ((dget kvs k).getD x) μ else .bad
    | none => .bad
  | _ => .bad
section
variable {prog : Program} {w : World} {A : Around} {E : Value → Shared → Prop} {s : Shared}
theorem raw_samePairs {nm : String} {a b : Addr} {es es' : Array DictEntry} {ep ep' : Nat} {Q : Bool → Shared → Prop} (ha : (a == sysModules) = false) (hb : (b == sysModules) = false)
    (da : s.heap.DictRaw a es ep) (db : s.heap.DictRaw b es' ep') (hsz : ¬ es.size = es'.size) (h : Q false s) : wpAny (model prog w) A (Builtin.Dict.samePairs nm a b) Q E s := by
  obtain ⟨oa, hoa, _, hda⟩ := da
  obtain ⟨ob, hob, _, hdb⟩ := db
  unfold Builtin.Dict.samePairs Builtin.Dict.showsAll
  rw [if_neg (show ¬ (a == sysModules) = true by rw [ha]; exact Bool.false_ne_true), if_neg (show ¬ (b == sysModules) = true by rw [hb]; exact Bool.false_ne_true)]
  refine wpAny_bind (wpAny_pure (wpAny_bind (wpAny_pure ?_)))
  refine wpAny_bind (wpAny_dictEntries hoa hda ?_)
  dsimp only
  refine wpAny_bind (wpAny_dictEntries hob hdb ?_)
  rw [if_pos (by simpa using hsz)]
  exact wpAny_bind (wpAny_rule (wpAny_pure h))
theorem raw_eq {a b : Addr} {es es' : Array DictEntry} {ep ep' : Nat} {Q : Value → Shared → Prop} (ha : (a == sysModules) = false) (hb : (b == sysModules) = false)
    (da : s.heap.DictRaw a es ep) (db : s.heap.DictRaw b es' ep') (hsz : ¬ es.size = es'.size) (hu : A.units < cLine) (h : Q (.bool false) s) : wpAny (model prog w) A (compareOp .Eq (.ref a) (.ref b)) Q E s := by
  refine wpAny_richCompare_same_room (op := .Eq) da.typeIs db.typeIs PySem.F.slot_dict_eq (wpAny_call_entry PySem.F.slot_dict_eq da.typeIs PySem.F.entry_dict_eq ?_ (PySem.F.args_dict_eq_2 _ _)) hu
  show wpAny _ _ (Builtin.Dict.dictSlotArgs "__eq__" ⟨[.ref a, .ref b], []⟩ >>= _) _ _ s
  refine wpAny_bind ?_
  unfold Builtin.Dict.dictSlotArgs
  refine wpAny_bind (wpAny_notOrdered_dict da.typeIs ?_)
  show wpAny _ _ (pure (Value.ref a, Value.ref b)) _ _ s
  refine wpAny_pure ?_
  refine wpAny_bind (wpAny_isInstance (T := "dict") db.typeIs PySem.F.sub_dict_dict ?_)
  simp only [Bool.not_true, Bool.false_eq_true, if_false]
  refine wpAny_bind (wpAny_pure (wpAny_bind (wpAny_pure ?_)))
  refine wpAny_bind (raw_samePairs ha hb da db hsz ?_)
  refine wpAny_pure ⟨_, rfl, ?_, ?_⟩
  · exact fun x => nomatch x
  · simpa using h
theorem raw_ne {a b : Addr} {es es' : Array DictEntry} {ep ep' : Nat} {Q : Value → Shared → Prop} (ha : (a == sysModules) = false) (hb : (b == sysModules) = false)
    (da : s.heap.DictRaw a es ep) (db : s.heap.DictRaw b es' ep') (hsz : ¬ es.size = es'.size) (hu : A.units < cLine) (h : Q (.bool true) s) : wpAny (model prog w) A (compareOp .NotEq (.ref a) (.ref b)) Q E s := by
  refine wpAny_richCompare_same_room (op := .NotEq) da.typeIs db.typeIs PySem.F.slot_dict_ne (wpAny_call_entry PySem.F.slot_dict_ne da.typeIs PySem.F.entry_dict_ne ?_ (PySem.F.args_dict_ne_2 _ _)) hu
  show wpAny _ _ (Builtin.Dict.dictSlotArgs "__ne__" ⟨[.ref a, .ref b], []⟩ >>= _) _ _ s
  refine wpAny_bind ?_
  unfold Builtin.Dict.dictSlotArgs
  refine wpAny_bind (wpAny_notOrdered_dict da.typeIs ?_)
  show wpAny _ _ (pure (Value.ref a, Value.ref b)) _ _ s
  refine wpAny_pure ?_
  refine wpAny_bind (wpAny_isInstance (T := "dict") db.typeIs PySem.F.sub_dict_dict ?_)
  simp only [Bool.not_true, Bool.false_eq_true, if_false]
  refine wpAny_bind (wpAny_pure (wpAny_bind (wpAny_pure ?_)))
  refine wpAny_bind (raw_samePairs ha hb da db hsz ?_)
  refine wpAny_pure ⟨_, rfl, ?_, ?_⟩
  · exact fun x => nomatch x
  · simpa using h
end
section
variable {X : Cx} {pins : List (Addr × Obj)} {σ : L2.St} {H : Hp} {s : Shared} {ρ : List Addr} {μ : Sto} {a b : Addr} {kvs : List (PV × PV)}
/-- the raw entries, as many as the pairs -/
theorem DIs.size (d : DIs X H s ρ a kvs) : ∃ es ep, s.heap.DictRaw a es ep ∧ es.size = kvs.length := by
  rcases d.kind with ⟨vs, h1, h2⟩ | ⟨xs, h1, h2⟩
  · obtain ⟨es, ep, k1, k2, _⟩ := h1.raw
    exact ⟨es, ep, k1, by rw [k2, Paired.length h2]⟩
  · obtain ⟨es, ep, k1, k2, _⟩ := h1.raw
    exact ⟨es, ep, k1, by rw [k2, Paired.length h2]⟩
theorem DIs.typeIs (d : DIs X H s ρ a kvs) : s.TypeIs (.ref a) "dict" := let ⟨_, _, h⟩ := d.raw; h.typeIs
theorem DIs.noDict (d : DIs X H s ρ a kvs) : ∃ ob, s.heap.get? a = some ob ∧ ob.dict = none := let ⟨_, _, o, h1, h2, _⟩ := d.raw; ⟨o, h1, h2.2.1⟩
end
section
variable {X : Cx} {W : EW}
theorem vIx_item {p k : PV} {μ : Sto} {P : Program} {w : World} {K : PySem.W.Frag} {ρ : List Addr} {H : Hp} {Q : VK} (hn : ∀ i, p = .ref i → dctAt μ i = none) (h : Post P w K W ρ H (vIx [p, k] μ) (RV K) Q) : Post P w K W ρ H (vItem [p, k] μ) (RV K) Q := by
  cases p with
  | ref i =>
    have h : Post P w K W ρ H (match dctAt μ i with
      | some kvs => if keyIn kvs k = true then match dget kvs k with
          | some v => .ok v μ
          | none => .bad
        else .bad
      | none => vItem [.ref i, k] μ) (RV K) Q := h
    rw [hn i rfl] at h
    exact h
  | tup ps => exact h
  | str z => exact h
  | _ => exact h.elim
theorem oi_ix (hu : X.A.units + 9 < cLine) : OI X W vIx := by
  intro value slice pins s σ H x y v u Q I rx ry h hs
  obtain ⟨ρ, μ, ps, r, t, q⟩ := h
  cases r with
  | @cons p _ _ _ r1 r' =>
    cases r' with
    | @cons k _ _ _ r2 r'' =>
      cases r''
      by_cases hn : ∀ i, p = .ref i → dctAt μ i = none
      · exact oi_item (W := W) value slice pins s σ H x y v u Q I rx ry ⟨ρ, μ, [p, k], .cons r1 (.cons r2 .nil), t, vIx_item hn q⟩ hs
      · cases r1 with
        | @ref i a ha =>
          cases e : dctAt μ i with
          | none => exact absurd (fun j (z : PV.ref i = .ref j) => by cases z; exact e) hn
          | some kvs =>
            have q : Post X.prog X.w X.K W ρ H (match dctAt μ i with
              | some kvs => if keyIn kvs k = true then match dget kvs k with
                  | some v => .ok v μ
                  | none => .bad
                else .bad
              | none => vItem [.ref i, k] μ) (RV X.K) Q := q
            rw [e] at q
            by_cases c : keyIn kvs k = true
            · simp only [if_pos c] at q
              cases e2 : dget kvs k with
              | none => rw [e2] at q; exact q.elim
              | some vp =>
                rw [e2] at q
                obtain rfl : v = Value.ref a := rx
                have D := dis_of I t ha (dctAt_get e)
                have d := dis_key I D c r2 ry
                unfold subscriptTail
                refine wpAny_bind ?_
                rw [getitemInPython_of_ne D.typeIs.not_modules]
                refine wpAny_bind (wpAny_specialOf D.typeIs PySem.F.slot_dict_getitem.lookup ?_)
                have fin : wpAny (model X.prog X.w) X.A (subscripted slice false (.ref a) u) (fun r s₃ => wpAny (model X.prog X.w) X.A (letTemporaryGo value (.ref a) r >>= fun _ => pure r) (EP X pins σ Q) X.xe s₃) X.xe s := by
                  rw [hs]
                  refine wpAny_operating (dd_getItem hu I d e2 fun x' w' s' I' r3 r4 => wpAny_bind (wpAny_letTemporaryGo (wpAny_pure ⟨x', H, I', r4, q ρ x' H Step.refl r3 t⟩)))
                first
                  | exact wpAny_pure (wpAny_bind fin)
                  | exact wpAny_bind (wpAny_pure (wpAny_bind fin))
                  | exact wpAny_bind fin
            · simp only [if_neg c] at q
              exact q.elim
        | _ => exact absurd (fun j z => by cases z) hn
theorem in_seq (hu : X.A.units + 65 < cLine) {pins : List (Addr × Obj)} {σ : L2.St} {H : Hp} {s : Shared} {ρ : List Addr} {μ : Sto} {p c : PV} {x y : V} {v u : Value} {b : Bool} (I : Inv X pins σ H s) (rx : RelV x v) (ry : RelV y u)
    (r1 : RV X.K ρ H p x) (r2 : RV X.K ρ H c y) (t : RSt X.prog X.w X.K ρ H μ) (h : inSeq μ p c = some b) :
    (∀ (E : Value → Shared → Prop) (Q : Value → Shared → Prop), (∀ s', Inv X pins σ H s' → Q (.bool b) s') → wpAny (model X.prog X.w) X.A (compareOp .In v u) Q E s) ∧
    (∀ (E : Value → Shared → Prop) (Q : Value → Shared → Prop), (∀ s', Inv X pins σ H s' → Q (.bool (!b)) s') → wpAny (model X.prog X.w) X.A (compareOp .NotIn v u) Q E s) := by
  have data : (match pdat μ 12 p, pdat μ 12 c with
    | some d, some (.list ds) => if (SeqAt.shaped d && SeqAt.shaped (.list ds)) = true then some (ds.any fun z => PyData.eqv z d) else none
    | some d, some (.tuple ds) => if (SeqAt.shaped d && SeqAt.shaped (.tuple ds)) = true then some (ds.any fun z => PyData.eqv z d) else none
    | _, _ => none) = some b →
    (∀ (E : Value → Shared → Prop) (Q : Value → Shared → Prop), (∀ s', Inv X pins σ H s' → Q (.bool b) s') → wpAny (model X.prog X.w) X.A (compareOp .In v u) Q E s) ∧
    (∀ (E : Value → Shared → Prop) (Q : Value → Shared → Prop), (∀ s', Inv X pins σ H s' → Q (.bool (!b)) s') → wpAny (model X.prog X.w) X.A (compareOp .NotIn v u) Q E s) := by
    intro h
    cases e1 : pdat μ 12 p with
    | none => rw [e1] at h; cases h
    | some d =>
      have k1 := pdat_of t 12 p x d r1 e1
      obtain ⟨as, a1⟩ := Dp.reads I d x v k1 rx
      cases e2 : pdat μ 12 c with
      | none => rw [e1, e2] at h; cases h
      | some dc =>
        rw [e1, e2] at h
        have k2 := pdat_of t 12 c y dc r2 e2
        obtain ⟨bs, a2⟩ := Dp.reads I dc y u k2 ry
        cases dc with
        | list ds =>
          by_cases cc : (SeqAt.shaped d && SeqAt.shaped (.list ds)) = true
          · simp only [if_pos cc, Option.some.injEq] at h
            subst h
            rw [Bool.and_eq_true] at cc
            exact ⟨fun E Q hq => SeqAt.in_list_reads a2 a1 (SeqAt.canLay_of_shaped cc.2) (SeqAt.canLay_of_shaped cc.1) (room_in_shaped cc.1 hu) (hq _ I),
              fun E Q hq => SeqAt.notIn_list_reads a2 a1 (SeqAt.canLay_of_shaped cc.2) (SeqAt.canLay_of_shaped cc.1) (room_in_shaped cc.1 hu) (hq _ I)⟩
          · simp only [if_neg cc] at h
            cases h
        | tuple ds =>
          by_cases cc : (SeqAt.shaped d && SeqAt.shaped (.tuple ds)) = true
          · simp only [if_pos cc, Option.some.injEq] at h
            subst h
            rw [Bool.and_eq_true] at cc
            exact ⟨fun E Q hq => SeqAt.in_tuple_reads a2 a1 (SeqAt.canLay_of_shaped cc.2) (SeqAt.canLay_of_shaped cc.1) (room_in_shaped cc.1 hu) (hq _ I),
              fun E Q hq => SeqAt.notIn_tuple_reads a2 a1 (SeqAt.canLay_of_shaped cc.2) (SeqAt.canLay_of_shaped cc.1) (room_in_shaped cc.1 hu) (hq _ I)⟩
          · simp only [if_neg cc] at h
            cases h
        | _ => cases h
  cases r2 with
  | str z =>
    cases r1 with
    | str a =>
      have h : some (strIn a z) = some b := h
      cases h
      obtain ⟨t1, rfl⟩ := rx
      obtain ⟨t2, rfl⟩ := ry
      have e : strIn a z = !(Builtin.Str.occurrences z a 0 z.length 1).isEmpty := by
        unfold strIn
        by_cases c : a.cps.size = 1
        · rw [if_pos c]
          obtain ⟨⟨l⟩⟩ := a
          cases l with
          | nil => cases c
          | cons k l =>
            cases l with
            | nil => exact (PySem.StrLaws.found_one z k).symm
            | cons _ _ => simp at c
        · rw [if_neg c]
      rw [e]
      refine ⟨fun E Q hq => PyProof.Rows.in_str (hq _ I), fun E Q hq => ?_⟩
      exact PyProof.Rows.notIn_str (hq _ I)
    | _ => cases h
  | tup h1 h2 => exact data h
  | ref ha => exact data h
  | _ => exact data h
theorem in_any (hu : X.A.units + 65 < cLine) {pins : List (Addr × Obj)} {σ : L2.St} {H : Hp} {s : Shared} {ρ : List Addr} {μ : Sto} {p c : PV} {x y : V} {v u : Value} {b : Bool} (I : Inv X pins σ H s) (rx : RelV x v) (ry : RelV y u)
    (r1 : RV X.K ρ H p x) (r2 : RV X.K ρ H c y) (t : RSt X.prog X.w X.K ρ H μ) (h : isIn μ p c = some b) :
    (∀ (E : Value → Shared → Prop) (Q : Value → Shared → Prop), (∀ s', Inv X pins σ H s' → Q (.bool b) s') → wpAny (model X.prog X.w) X.A (compareOp .In v u) Q E s) ∧
    (∀ (E : Value → Shared → Prop) (Q : Value → Shared → Prop), (∀ s', Inv X pins σ H s' → Q (.bool (!b)) s') → wpAny (model X.prog X.w) X.A (compareOp .NotIn v u) Q E s) := by
  cases r2 with
  | @ref i a ha =>
    have h : (match dctAt μ i with
      | some kvs => if keyIn kvs p = true then some (dget kvs p).isSome else none
      | none => inSeq μ p (.ref i)) = some b := h
    cases e : dctAt μ i with
    | none => rw [e] at h; exact in_seq hu I rx ry r1 (.ref ha) t h
    | some kvs =>
      rw [e] at h
      by_cases c : keyIn kvs p = true
      · simp only [if_pos c, Option.some.injEq] at h
        subst h
        obtain rfl : u = Value.ref a := ry
        have D := dis_of I t ha (dctAt_get e)
        have d := dis_key I D c r1 rx
        exact ⟨fun E Q hq => dd_in (by omega) I D.sys d hq, fun E Q hq => dd_notIn (by omega) I D.sys d hq⟩
      · simp only [if_neg c] at h
        cases h
  | tup h1 h2 => exact in_seq hu I rx ry r1 (.tup h1 h2) t h
  | str z => exact in_seq hu I rx ry r1 (.str z) t h
  | non => exact in_seq hu I rx ry r1 .non t h
  | bl k => exact in_seq hu I rx ry r1 (.bl k) t h
  | int k => exact in_seq hu I rx ry r1 (.int k) t h
  | ty n => exact in_seq hu I rx ry r1 (.ty n) t h
  | glb n => exact in_seq hu I rx ry r1 (.glb n) t h
  | exc e1 e2 e3 e4 e5 e6 => exact in_seq hu I rx ry r1 (.exc e1 e2 e3 e4 e5 e6) t h
theorem o2_in (hu : X.A.units + 65 < cLine) : O2 X W (compareOp .In) vIn := o2_of fun pins s σ H x y v u Q ρ μ p q I rx ry r1 r2 t h => by
  have h : Post X.prog X.w X.K W ρ H (match isIn μ p q with | some b => .ok (.bl b) μ | none => .bad) (RV X.K) Q := h
  cases e : isIn μ p q with
  | none => rw [e] at h; exact h.elim
  | some b =>
    rw [e] at h
    exact (in_any hu I rx ry r1 r2 t e).1 _ _ fun s' I' => ⟨.bl b, H, I', rfl, h ρ _ H Step.refl (.bl _) t⟩
theorem o2_notin (hu : X.A.units + 65 < cLine) : O2 X W (compareOp .NotIn) vNotIn := o2_of fun pins s σ H x y v u Q ρ μ p q I rx ry r1 r2 t h => by
  have h : Post X.prog X.w X.K W ρ H (match isIn μ p q with | some b => .ok (.bl (!b)) μ | none => .bad) (RV X.K) Q := h
  cases e : isIn μ p q with
  | none => rw [e] at h; exact h.elim
  | some b =>
    rw [e] at h
    exact (in_any hu I rx ry r1 r2 t e).2 _ _ fun s' I' => ⟨.bl (!b), H, I', rfl, h ρ _ H Step.refl (.bl _) t⟩
theorem dEmp_of {pins : List (Addr × Obj)} {σ : L2.St} {H : Hp} {s : Shared} {ρ : List Addr} {μ : Sto} {p q : PV} {x y : V} {v u : Value} {b : Bool} (hu : X.A.units < cLine) (I : Inv X pins σ H s) (rx : RelV x v) (ry : RelV y u)
    (r1 : RV X.K ρ H p x) (r2 : RV X.K ρ H q y) (t : RSt X.prog X.w X.K ρ H μ) (h : dEmp μ p q = some b) :
    (∀ (E : Value → Shared → Prop) (Q : Value → Shared → Prop), Q (.bool b) s → wpAny (model X.prog X.w) X.A (compareOp .Eq v u) Q E s) ∧
    (∀ (E : Value → Shared → Prop) (Q : Value → Shared → Prop), Q (.bool (!b)) s → wpAny (model X.prog X.w) X.A (compareOp .NotEq v u) Q E s) := by
  unfold dEmp at h
  cases r1 with
  | @ref i a ha =>
    cases r2 with
    | @ref j b' hb =>
      dsimp only at h
      cases e1 : dctAt μ i with
      | none => rw [e1] at h; cases h
      | some kvs =>
        cases e2 : dctAt μ j with
        | none => rw [e1, e2] at h; cases h
        | some js =>
          rw [e1, e2] at h
          cases js with
          | cons _ _ => cases h
          | nil =>
            simp only [Option.some.injEq] at h
            obtain rfl : v = Value.ref a := rx
            obtain rfl : u = Value.ref b' := ry
            have D1 := dis_of I t ha (dctAt_get e1)
            have D2 := dis_of I t hb (dctAt_get e2)
            cases kvs with
            | nil =>
              subst h
              exact ⟨fun E Q hq => PySem.W.keq_eq (knd := mixKind X.prog X.w) (r := true) D1.sys D2.sys (flat_nil D1) (flat_nil D2) hu (fun _ => .nil) hq,
                fun E Q hq => PySem.W.keq_ne (knd := mixKind X.prog X.w) (r := true) D1.sys D2.sys (flat_nil D1) (flat_nil D2) hu (fun _ => .nil) hq⟩
            | cons kv kvs =>
              subst h
              obtain ⟨es, ep, k1, k2⟩ := D1.size
              obtain ⟨es', ep', k3, k4⟩ := D2.size
              have hsz : ¬ es.size = es'.size := by rw [k2, k4]; simp
              exact ⟨fun E Q hq => raw_eq D1.sys D2.sys k1 k3 hsz hu hq, fun E Q hq => raw_ne D1.sys D2.sys k1 k3 hsz hu hq⟩
    | _ => cases h
  | _ => cases h
theorem o2_eqA (hu : X.A.units + 64 < cLine) : O2 X W (compareOp .Eq) vEqA := o2_of fun pins s σ H x y v u Q ρ μ p q I rx ry r1 r2 t h => by
  have h : Post X.prog X.w X.K W ρ H (match dEmp μ p q with | some b => .ok (.bl b) μ | none => vEq [p, q] μ) (RV X.K) Q := h
  cases e : dEmp μ p q with
  | none =>
    rw [e] at h
    exact o2_eq (W := W) hu pins s σ H x y v u Q I rx ry ⟨ρ, μ, [p, q], .cons r1 (.cons r2 .nil), t, h⟩
  | some b =>
    rw [e] at h
    exact (dEmp_of (by omega) I rx ry r1 r2 t e).1 _ _ ⟨.bl b, H, I, rfl, h ρ _ H Step.refl (.bl _) t⟩
theorem o2_neA (hu : X.A.units + 64 < cLine) : O2 X W (compareOp .NotEq) vNeA := o2_of fun pins s σ H x y v u Q ρ μ p q I rx ry r1 r2 t h => by
  have h : Post X.prog X.w X.K W ρ H (match dEmp μ p q with | some b => .ok (.bl (!b)) μ | none => vNe [p, q] μ) (RV X.K) Q := h
  cases e : dEmp μ p q with
  | none =>
    rw [e] at h
    exact o2_ne (W := W) hu pins s σ H x y v u Q I rx ry ⟨ρ, μ, [p, q], .cons r1 (.cons r2 .nil), t, h⟩
  | some b =>
    rw [e] at h
    exact (dEmp_of (by omega) I rx ry r1 r2 t e).2 _ _ ⟨.bl (!b), H, I, rfl, h ρ _ H Step.refl (.bl _) t⟩
/-- len -/
theorem DIs.callLen {pins : List (Addr × Obj)} {σ : L2.St} {H : Hp} {s : Shared} {ρ : List Addr} {a : Addr} {kvs : List (PV × PV)} {A : Around} {E : Value → Shared → Prop} {Q : Value → Shared → Prop} (D : DIs X H s ρ a kvs) (I : Inv X pins σ H s)
    (h : ∀ t s', Inv X pins σ H s' → Q (.int kvs.length t) s') : wpAny (model X.prog X.w) A (call (.builtin "len") [.ref a]) Q E s := by
  have z := D.len
  rw [sizeLine_eq] at z
  rcases D.kind with ⟨vs, h1, h2⟩ | ⟨xs, h1, h2⟩
  · refine call_len_dict D.sys h1 (by rw [← Paired.length h2]; omega) ?_
    rw [← Paired.length h2]
    exact h _ _ (I.tok _)
  · refine call_len_dictH D.sys h1 (by rw [← Paired.length h2]; omega) ?_
    rw [← Paired.length h2]
    exact h _ _ (I.tok _)
theorem oc_len : OC X W (.builtin "len") vLen := oc1_of fun pins s σ H xs us Q ρ μ ps I r rp t h => by
  cases rp with
  | nil => exact h.elim
  | @cons p x _ _ r1 r2 =>
    cases r2 with
    | cons _ _ => exact h.elim
    | nil =>
      have h : Post X.prog X.w X.K W ρ H (match lenOf μ p with | some n => .ok (.int n) μ | none => .bad) (RV X.K) Q := h
      cases e : lenOf μ p with
      | none => rw [e] at h; exact h.elim
      | some n =>
        rw [e] at h
        have q : Q (.int n) H := h ρ _ H Step.refl (.int _) t
        cases r1 with
        | tup h1 h2 =>
          cases e
          rw [h2.length] at q
          exact call_len_seq pins s σ H _ us Q I r ⟨_, _, rfl, .inr h1, q⟩
        | str z =>
          have e : (if z.length ≤ sizeLine then some z.length else none) = some n := e
          by_cases c : z.length ≤ sizeLine
          · rw [if_pos c] at e
            cases e
            exact call_len_str pins s σ H _ us Q I r ⟨z, rfl, c, q⟩
          · rw [if_neg c] at e
            cases e
        | @ref i a ha =>
          have e : (match dctAt μ i with | some kvs => some kvs.length | none => (seqAt μ i).map (·.length)) = some n := e
          cases e1 : dctAt μ i with
          | some kvs =>
            rw [e1] at e
            cases e
            obtain ⟨u, rfl, rx⟩ := vals1 r
            obtain rfl : u = Value.ref a := rx
            exact (dis_of I t ha (dctAt_get e1)).callLen I fun tk s' I' => ⟨.int kvs.length, H, I', ⟨tk, rfl⟩, q⟩
          | none =>
            rw [e1] at e
            obtain ⟨qs, e2, rfl⟩ := Option.map_eq_some_iff.mp e
            obtain ⟨vs, h1, h2⟩ := seqAt_of t ha e2
            rw [h2.length] at q
            exact call_len_seq pins s σ H _ us Q I r ⟨_, _, rfl, .inl h1, q⟩
        | _ => cases e
/-- a method call: the receiver of this type -/
def dM (tp : PV → Sto → Bool) (f : VF) (d : DE) (ds : DA) : DE := fun η μ => (d η μ).bind fun p μ1 => if tp p μ1 = true then (ds η μ1).bind fun ps μ2 => f (p :: ps) μ2 else .bad
def isStrP : PV → Sto → Bool := fun p _ => match p with | .str _ => true | _ => false
def isLstP : PV → Sto → Bool := fun p μ => match p with | .ref i => (seqAt μ i).isSome | _ => false
def tyE (X : Cx) (tp : PV → Sto → Bool) (x : V) (H : Hp) : Prop := ∃ ρ μ p, RV X.K ρ H p x ∧ RSt X.prog X.w X.K ρ H μ ∧ tp p μ = true
theorem ty_str : TyOk X "str" (tyE X isStrP) := fun pins σ H s x v I rx ⟨ρ, μ, p, r, t, h⟩ => by
  cases r with
  | str z =>
    obtain ⟨tk, rfl⟩ := rx
    exact ⟨typeIs_str s z tk, fun _ e => nomatch e⟩
  | _ => cases h
theorem ty_lst : TyOk X "list" (tyE X isLstP) := fun pins σ H s x v I rx ⟨ρ, μ, p, r, t, h⟩ => by
  cases r with
  | @ref i a ha =>
    have h : (seqAt μ i).isSome = true := h
    obtain ⟨ps, e⟩ := Option.isSome_iff_exists.mp h
    obtain ⟨vs, h1, h2⟩ := seqAt_of t ha e
    exact tyV_is I rx (.inl ⟨rfl, vs, h1⟩)
  | _ => cases h
theorem dM_of {tp : PV → Sto → Bool} {f : VF} {d : DE} {ds : DA} {σ : L2.St} {H : Hp} {Q : VK} (h : T X.prog X.w X.K W (dM tp f d ds) σ H Q) :
    T X.prog X.w X.K W d σ H fun x H1 => tyE X tp x H1 ∧ TL X.prog X.w X.K W ds σ H1 fun vs H2 => rL X.prog X.w X.K W f (x :: vs) H2 Q := by
  obtain ⟨ρ, η, μ, en, s, q⟩ := h
  refine ⟨ρ, η, μ, en, s, (Post.bind q).mono fun x H1 ⟨ρ1, a, μ1, st, r, s1, q1⟩ => ?_⟩
  by_cases c : tp a μ1 = true
  · simp only [if_pos c] at q1
    refine ⟨⟨ρ1, μ1, a, r, s1, c⟩, ρ1, η, μ1, en.step st, s1, (Post.bind q1).mono fun vs H2 ⟨ρ2, qs, μ2, st2, r2, s2, q2⟩ => ?_⟩
    exact ⟨ρ2, μ2, a :: qs, .cons (r.step st2) r2, s2, q2⟩
  · simp only [if_neg c] at q1
    exact q1.elim
theorem le_m {o e : Expr} {es : List Expr} {T id : String} {name : Str} {apos cpos : Pos} {tp : PV → Sto → Bool} {f : VF} {d : DE} {ds : DA} (ht : TyOk X T (tyE X tp)) (pa : PlainAttrs T) (slot : Slot T name id) (hty : typeOf (.builtin id) = pure (.type "method_descriptor")) (hm : OM X W id f) (ho : LE X W o d) (ha : LA X W (e :: es) ds)
    (hbase : attributeBase o name X.env (eval o X.env) = eval o X.env := by rfl)
    (hfew : ((backTo cpos (starEach (e :: es) X.env)).all (fun x => !x.1) && (backToKw cpos (keywordEach [] X.env)).all (fun x => x.1.isSome)
      && decide ((e :: es).length + ([] : List Keyword).length + (if ([] : List Keyword).isEmpty then 0 else 1) < 30)) = true := by rfl)
    (hline : (apos.endLine == cpos.line) = true := by rfl) (hs : starEach (e :: es) X.env = (false, eval e X.env) :: starEach es X.env := by rfl) (hplain : (backTo cpos (starEach es X.env)).any (·.1) = false := by rfl) :
    LE X W (.Call (.Attribute o name apos) (e :: es) [] cpos) (dM tp f d ds) := (pe_mG ht pa slot hty hm ho ha hbase hfew hline hs hplain).impD fun _ _ _ h => dM_of h
theorem le_cb {x : Str} {e : Expr} {es : List Expr} {p pos : Pos} {f : VF} {ds : DA} {id : String} (hc : OC X W (.builtin id) f) (hg : Gl X x) (hm : X.mg x = none) (hv : bootBuiltins x = some (.builtin id)) (ha : LA X W (e :: es) ds) (hn : x ≠ "__name__" := by decide) (hdb : (x == ("__debug__" : Str)) = false := by decide)
    (he : starEach (e :: es) X.env = (false, eval e X.env) :: starEach es X.env := by rfl) (hpl : (backTo pos (starEach es X.env)).any (·.1) = false := by rfl) :
    LE X W (.Call (.Name x p) (e :: es) [] pos) (dApp f ds) := (pe_callB hc hg hm hv ha hn hdb he hpl).impD fun _ _ _ h => app_of h
theorem le_ct {x : Str} {e : Expr} {es : List Expr} {p pos : Pos} {f : VF} {ds : DA} {T : String} (hc : OC X W (.type T) f) (hg : Gl X x) (hm : X.mg x = none) (hv : bootBuiltins x = some (.type T)) (ha : LA X W (e :: es) ds) (hn : x ≠ "__name__" := by decide) (hdb : (x == ("__debug__" : Str)) = false := by decide)
    (he : starEach (e :: es) X.env = (false, eval e X.env) :: starEach es X.env := by rfl) (hpl : (backTo pos (starEach es X.env)).any (·.1) = false := by rfl) :
    LE X W (.Call (.Name x p) (e :: es) [] pos) (dApp f ds) := (pe_callTy hc hg hm hv ha hn hdb he hpl).impD fun _ _ _ h => app_of h
end
end DL
namespace DL
open PySem PySem.Spec PyProof.Rows L2
theorem tuple_mul1 (l : Addr) (items : Array Value) (n : Nat) (sl : Array (Option Value)) (dd : Option Addr) (u : Tok) :
    Meets (Builtin.«tuple.__mul__» ⟨[.ref l, .int 1 u], []⟩) (fun _ R s => s.heap.get? l = some { cls := .type "tuple", dict := dd, data := .seq items n, slots := sl } ∧ R (.ok (.ret (.ref l))) s) :=
  .of_wp fun prog w A R s h => by
    obtain ⟨hp, g, d, tk, os⟩ := s
    obtain ⟨hl, h⟩ := h
    have f1 := AutoSeq1.idx_int
    have c1 : (items.isEmpty || (1 : Int) == 1) = true := by simp
    wp_walk using wpAny_loadPart' hl
    repeat (first
      | exact ⟨_, rfl, h⟩
      | (rw [if_pos c1]; wp_walk using wpAny_loadPart' hl)
      | (refine wpAny_ite_true (decide_eq_true c1) ?_; wp_walk using wpAny_loadPart' hl))
def vMulA : VF := fun xs μ => match xs with
  | [.tup ps, .int k] => if k = 1 then .ok (.tup ps) μ else vMul [.tup ps, .int k] μ
  | [p, q] => vMul [p, q] μ
  | _ => .bad
section
variable {X : Cx} {W : EW}
theorem o2_mulA : O2 X W (binaryOp .Mult) vMulA := o2_of fun pins s σ H x y v u Q ρ μ p q I rx ry r1 r2 t h => by
  have other : Post X.prog X.w X.K W ρ H (vMul [p, q] μ) (RV X.K) Q → wpAny (model X.prog X.w) X.A (binaryOp .Mult v u) (EP X pins σ Q) X.xe s := fun h =>
    o2_mul (W := W) pins s σ H x y v u Q I rx ry ⟨ρ, μ, [p, q], .cons r1 (.cons r2 .nil), t, h⟩
  cases r1 with
  | @tup ps vs l h1 h2 =>
    cases r2 with
    | int k =>
      have h : Post X.prog X.w X.K W ρ H (if k = 1 then .ok (.tup ps) μ else vMul [.tup ps, .int k] μ) (RV X.K) Q := h
      by_cases c : k = 1
      · rw [if_pos c] at h
        subst c
        cases rx
        obtain ⟨tk, rfl⟩ := ry
        obtain ⟨its, r, ⟨⟨cls, dd, data, sl⟩, ho, hc, n, hd⟩, hs⟩ := I.tuple h1
        simp only at hc hd
        subst hc hd
        refine wpAny_binaryOp_repeat_ref (T := "tuple") (U := "int") (by decide) ⟨_, ho, rfl⟩ (fun s' => typeIs_int s' 1 tk) noFill_tuple_mul F.fills_int_mul F.slot_int_rmul repeat_tuple F.slot_int_index.lookup
          (call_meets F.slot_int_rmul (typeIs_int s 1 tk) F.entry_int_rmul (F.args_int_rmul_2 _ _) (int_rmul_tuple 1 tk l its.toArray n dd sl)
            ⟨ho, rfl, ⟨_, ho, rfl⟩, call_meets F.slot_tuple_mul ⟨_, ho, rfl⟩ F.entry_tuple_mul (F.args_tuple_mul_2 _ _) (tuple_mul1 l its.toArray n sl dd tk) ⟨ho, ?_⟩⟩)
        exact ⟨.ref l, H, I, rfl, h ρ _ H Step.refl (.tup h1 h2) t⟩
      · rw [if_neg c] at h
        exact other h
    | _ => exact other h
  | non => exact other (by cases r2 <;> exact h)
  | bl b => exact other (by cases r2 <;> exact h)
  | int i => exact other (by cases r2 <;> exact h)
  | str z => exact other (by cases r2 <;> exact h)
  | ty n => exact other (by cases r2 <;> exact h)
  | glb a => exact other (by cases r2 <;> exact h)
  | exc _ _ _ _ _ _ => exact other (by cases r2 <;> exact h)
  | ref ha => exact other (by cases r2 <;> exact h)
def storeL (i v : PV) (ps : List PV) : Option (List PV) := match i with
  | .int k => (ixN ps.length k).map fun n => ps.set n v
  | _ => none
/-- of a list, of a dict: the store behind it -/
def vStore (o i v : PV) (μ : Sto) : Option Sto := match o with
  | .ref j => match dctAt μ j with
    | some kvs => if keyIn kvs i = true ∧ kvs.length < sizeLine then some (μ.set j (.dct (dput kvs i v))) else none
    | none => match (isLst μ j).bind (storeL i v) with
      | some ps => some (μ.set j (.lst ps))
      | none => none
  | _ => none
def gItem (d1 d2 : DE) : DG := fun p η μ => (d1 η μ).bind fun o μ1 => (d2 η μ1).bind fun i μ2 => match vStore o i p μ2 with
  | some μ3 => .ok η μ3
  | none => .bad
def rStore (P : Program) (w : World) (K : PySem.W.Frag) : TSet := fun ox ix vx H Q => ∃ ρ μ o i v μ', RV K ρ H o ox ∧ RV K ρ H i ix ∧ RV K ρ H v vx ∧ RSt P w K ρ H μ ∧ vStore o i v μ = some μ' ∧ ∀ H', Step K ρ H ρ H' → RSt P w K ρ H' μ' → Q H'
theorem set_any (hu : X.A.units + 9 < cLine) : PSet X (rStore X.prog X.w X.K) := by
  intro pins s σ H ox ix vx ov iv u Q I ro ri rv h
  obtain ⟨ρ, μ, o, i, v, μ', r1, r2, r3, t, e, q⟩ := h
  cases r1 with
  | @ref j a ha =>
    obtain rfl : ov = Value.ref a := ro
    have e : (match dctAt μ j with
      | some kvs => if keyIn kvs i = true ∧ kvs.length < sizeLine then some (μ.set j (.dct (dput kvs i v))) else none
      | none => match (isLst μ j).bind (storeL i v) with
        | some ps => some (μ.set j (.lst ps))
        | none => none) = some μ' := e
    cases e1 : dctAt μ j with
    | some kvs =>
      rw [e1] at e
      by_cases c : keyIn kvs i = true ∧ kvs.length < sizeLine
      · simp only [if_pos c, Option.some.injEq] at e
        subst e
        have D := dis_of I t ha (dctAt_get e1)
        exact dd_setItem hu I t ha D (dis_key I D c.1 r2 ri) r3 rv c.2 fun H' s' st t' I' => ⟨H', I', q H' st t'⟩
      · simp only [if_neg c] at e
        cases e
    | none =>
      rw [e1] at e
      cases e2 : isLst μ j with
      | none => simp only [e2, Option.bind_none] at e; cases e
      | some ps =>
        simp only [e2, Option.bind_some] at e
        obtain ⟨vs, h1, h2⟩ := isLst_of t ha e2
        cases r2 with
        | int k =>
          have e : (match (ixN ps.length k).map (fun n => ps.set n v) with
            | some ps => some (μ.set j (.lst ps))
            | none => none) = some μ' := e
          cases e3 : ixN ps.length k with
          | none => rw [e3] at e; cases e
          | some n =>
            rw [e3, Option.map_some] at e
            simp only [Option.some.injEq] at e
            subst e
            obtain ⟨st, t'⟩ := write_lst t ha h1 (h2.set r3 n)
            exact set_list pins s σ H (.ref a) (.int k) vx _ iv u Q I rfl ri rv ⟨a, vs, k, n, rfl, rfl, h1, by rw [← h2.length]; exact e3, q _ st t'⟩
        | _ => cases e
  | _ => cases e
theorem lg_item {o i : Expr} {pos : Pos} {d1 d2 : DE} {js : List Nat} (hu : X.A.units + 9 < cLine) (ho : LE X W o d1) (hi : LE X W i d2)
    (ha : ∀ v, assign (.Subscript o i pos) X.env v = (do
      let ov ← holding [v] (eval o X.env)
      let iv ← holding [v, ov] (eval i X.env)
      standAt pos
      holding [v, ov, iv] (setItem ov iv v)
      release [v, ov, iv] []) := by intro _; rfl) : LG X W js (.Subscript o i pos) (gItem d1 d2) := (pg_sub ho hi (set_any hu) ha).impD fun v σ H Q ⟨ρ, η, μ, p, en, r, s, q⟩ => by
  refine ⟨ρ, η, μ, en, s, (Post.bind q).mono fun ox H1 ⟨ρ1, o, μ1, st, r1, s1, q1⟩ => ?_⟩
  refine ⟨ρ1, η, μ1, en.step st, s1, (Post.bind q1).mono fun ix H2 ⟨ρ2, i, μ2, st2, r2, s2, q2⟩ => ?_⟩
  cases e : vStore o i p μ2 with
  | none => rw [e] at q2; exact q2.elim
  | some μ3 =>
    rw [e] at q2
    exact ⟨ρ2, μ2, o, i, p, μ3, r1.step st2, r2, (r.step st).step st2, s2, e, fun H' st' s' => q2 ρ2 σ H' st' ⟨((en.step st).step st2).step st', .refl⟩ s'⟩
inductive Tg where
  | non | bl | int | str | tup | lst | dct | own (C : Addr) | exc (C : Addr)
  deriving DecidableEq
def tgOf (p : PV) (μ : Sto) : Option Tg := match p with
  | .non => some .non
  | .bl _ => some .bl
  | .int _ => some .int
  | .str _ => some .str
  | .tup _ => some .tup
  | .ref i => match μ[i]? with
    | some (.lst _) => some .lst
    | some (.rol _) => some .lst
    | some (.dct _) => some .dct
    | some (.ins C _) => some (.own C)
    | none => none
  | .exc C _ => some (.exc C)
  | _ => none
def tgVal : Tg → Value
  | .non => .type "NoneType"
  | .bl => .type "bool"
  | .int => .type "int"
  | .str => .type "str"
  | .tup => .type "tuple"
  | .lst => .type "list"
  | .dct => .type "dict"
  | .own C => .ref C
  | .exc C => .ref C
def vIsi (f : Tg → Option Bool) : VF := fun xs μ => match xs with
  | [p] => match (tgOf p μ).bind f with
    | some b => .ok (.bl b) μ
    | none => .bad
  | _ => .bad
/-- an own class, for isinstance -/
structure OwnI (K : PySem.W.Frag) (C : Addr) : Prop where
  cl : Cls K C
  ha : PySem.W.findIn K (.ref C) "__class__" = some (some (.builtin "object.__class__"))
  hn : PySem.W.specialIn K (.builtin "object.__class__") "__get__" = some (some (.builtin "getset_descriptor.__get__"))
  htk : PySem.W.takesIn K (.builtin "object.__class__") = some true
  hm : PySem.W.mroIn K C (.type "object") = some true
/-- an own exception class, for isinstance -/
structure ExcI (K : PySem.W.Frag) (C : Addr) : Prop where
  cl : (PySem.W.clsIn K C).isSome = true
  ga : PySem.W.findIn K (.ref C) "__getattribute__" = some (some (.builtin "BaseException.__getattribute__"))
  gt : PySem.W.findIn K (.ref C) "__getattr__" = some none
  be : PySem.W.subIn K (.ref C) (.type "BaseException") = some true
  ha : PySem.W.findIn K (.ref C) "__class__" = some (some (.builtin "object.__class__"))
  hn : PySem.W.specialIn K (.builtin "object.__class__") "__get__" = some (some (.builtin "getset_descriptor.__get__"))
  ht : PySem.W.takesIn K (.builtin "object.__class__") = some true
  hm : PySem.W.mroIn K C (.type "object") = some true
/-- what isinstance(.., c) answers -/
structure IsiC (K : PySem.W.Frag) (c : Value) (f : Tg → Option Bool) : Prop where
  one : ∀ t b, f t = some b → PySem.W.kitOne K (tgVal t) c = some b
  own : ∀ C b, f (.own C) = some b → OwnI K C
  exc : ∀ C b, f (.exc C) = some b → ExcI K C
theorem isi_of {c : Value} {f : Tg → Option Bool} {pins : List (Addr × Obj)} {σ : L2.St} {H : Hp} {s : Shared} {ρ : List Addr} {μ : Sto} {p : PV} {x : V} {u : Value} {tg : Tg} {b : Bool} {Q : Value → Shared → Prop} {E : Value → Shared → Prop} (F : IsiC X.K c f) (I : Inv X pins σ H s) (t : RSt X.prog X.w X.K ρ H μ) (r : RV X.K ρ H p x) (rx : RelV x u)
    (h1 : tgOf p μ = some tg) (h2 : f tg = some b) (h : ∀ tk, Q (.bool b) { s with toks := tk }) : wpAny (model X.prog X.w) X.A (call (.builtin "isinstance") [u, c]) Q E s := by
  have e := F.one tg b h2
  have go : ∀ {P : Heap → Prop}, PySem.W.KitX X.K u (tgVal tg) P → P s.heap → u ≠ .builtin "__main__.__loader__#opaque" → wpAny (model X.prog X.w) X.A (call (.builtin "isinstance") [u, c]) Q E s := fun Z p hx => PySem.W.kia_one Z I.kIn p e hx h
  cases r with
  | non => cases h1; cases (show u = Value.none from rx); exact go PySem.W.kitx_none True.intro (fun z => nomatch z)
  | bl y => cases h1; cases (show u = Value.bool y from rx); exact go PySem.W.kitx_bool True.intro (fun z => nomatch z)
  | int i => cases h1; obtain ⟨t, q⟩ := (show ∃ t, u = Value.int i t from rx); cases q; exact go PySem.W.kitx_int True.intro (fun z => nomatch z)
  | str y => cases h1; obtain ⟨t, q⟩ := (show ∃ t, u = Value.str y t from rx); cases q; exact go PySem.W.kitx_str True.intro (fun z => nomatch z)
  | tup k1 k2 =>
    cases h1
    cases rx
    obtain ⟨its, rv, pl, _⟩ := I.tuple k1
    exact go PySem.W.kitx_tuple pl.typeIs (fun z => nomatch z)
  | @ref i a ha =>
    cases (show u = Value.ref a from rx)
    have h1 : (match μ[i]? with
      | some (.lst _) => some Tg.lst
      | some (.rol _) => some .lst
      | some (.dct _) => some .dct
      | some (.ins C _) => some (.own C)
      | none => none) = some tg := h1
    cases e1 : μ[i]? with
    | none => rw [e1] at h1; cases h1
    | some ob =>
      rw [e1] at h1
      cases ob with
      | lst ps =>
        cases h1
        obtain ⟨vs, k1, k2⟩ := seqAt_of t ha (show seqAt μ i = some ps by unfold seqAt; rw [e1])
        obtain ⟨its, rv, pl, _⟩ := I.list k1
        exact go PySem.W.kitx_list pl.isList.typeIs (fun z => nomatch z)
      | rol ps =>
        cases h1
        obtain ⟨vs, k1, k2⟩ := seqAt_of t ha (show seqAt μ i = some ps by unfold seqAt; rw [e1])
        obtain ⟨its, rv, pl, _⟩ := I.list k1
        exact go PySem.W.kitx_list pl.isList.typeIs (fun z => nomatch z)
      | dct kvs =>
        cases h1
        exact go PySem.W.kitx_dict (dis_of I t ha e1).typeIs (fun z => nomatch z)
      | ins C fs =>
        cases h1
        obtain ⟨dx, gs, k1, k2, k3⟩ := t.obj i a _ ha e1
        have O := F.own C b h2
        obtain ⟨P, Z, p, hx⟩ := kit_of I (x := .ref a) (u := .ref a) rfl (.base (.ins k1 O.cl O.ha O.hn O.htk O.hm))
        exact go Z p hx
  | @exc C a d oe od fs p x e1 e2 e3 e4 e5 r =>
    cases h1
    cases (show u = Value.ref a from rx)
    have O := F.exc C b h2
    have ha := (I.hok a _ e1).1
    have hd := (I.hok d _ e5).1
    exact go (PySem.W.kitx_exc (x := a) (ox := oe) (od := some od) O.cl O.ga O.gt O.be O.ha O.hn O.ht O.hm) ⟨ha, e2, by unfold PySem.W.notCls; rw [e4] <;> rfl, by rw [e3]; exact hd⟩ (fun z => nomatch z)
  | _ => cases h1
theorem oc_isi {c : Value} {v0 : V} {f : Tg → Option Bool} (F : IsiC X.K c f) (hv : ∀ u, RelV v0 u → u = c) : CallR X (.builtin "isinstance") (fun xs H Q => ∃ x, xs = [x, v0] ∧ rL X.prog X.w X.K W (vIsi f) [x] H Q) := by
  intro pins s σ H xs us Q I r h
  obtain ⟨x, rfl, ρ, μ, ps, rp, t, q⟩ := h
  obtain ⟨u, u', rfl, r1, r2⟩ := vals2 r
  obtain rfl := hv u' r2
  cases rp with
  | @cons p _ _ _ rp1 rp2 =>
    cases rp2
    have q : Post X.prog X.w X.K W ρ H (match (tgOf p μ).bind f with | some b => .ok (.bl b) μ | none => .bad) (RV X.K) Q := q
    cases e : tgOf p μ with
    | none => rw [e] at q; exact q.elim
    | some tg =>
      rw [e, Option.bind_some] at q
      cases e2 : f tg with
      | none => rw [e2] at q; exact q.elim
      | some b =>
        rw [e2] at q
        exact isi_of F I t rp1 r1 e e2 fun tk => ⟨.bl b, H, I.tok tk, rfl, q ρ _ H Step.refl (.bl _) t⟩
theorem le_isi {c : Value} {v0 : V} {f : Tg → Option Bool} {e ce : Expr} {p pos : Pos} {d : DE} (F : IsiC X.K c f) (hv : ∀ u, RelV v0 u → u = c) (hg : Gl X "isinstance") (hm : X.mg "isinstance" = none) (h1 : LE X W e d) (h2 : PE X ce (tC v0))
    (s1 : starEach (e :: [ce]) X.env = (false, eval e X.env) :: starEach [ce] X.env := by rfl) (s2 : starEach (ce :: []) X.env = (false, eval ce X.env) :: starEach [] X.env := by rfl) (hpl : (backTo pos (starEach [ce] X.env)).any (·.1) = false := by rfl) :
    LE X W (.Call (.Name "isinstance" p) [e, ce] [] pos) (dApp (vIsi f) (dCons d dNil)) :=
  (pe_callB (oc_isi (W := W) F hv) hg hm (by decide +kernel) (pa_cons h1 (pa_cons h2 pa_nil s2) s1) (by decide) (by decide) s1 hpl).impD fun σ H Q h => (app1 h).mono fun x H1 h => ⟨x, rfl, h⟩
end
/-- isinstance(.., a built-in type) -/
def isiB (n : Tg) (cs : List Addr) : Tg → Option Bool
  | .own C => if C ∈ cs then some false else none
  | .exc _ => none
  | t => some (decide (t = n) || (decide (t = .bl) && decide (n = .int)))
def builtTg (n : Tg) : Prop := n = .int ∨ n = .str ∨ n = .bl ∨ n = .tup ∨ n = .lst ∨ n = .dct
theorem isiB_of {K : PySem.W.Frag} {n : Tg} {cs : List Addr} (hb : builtTg n) (hc : ∀ C ∈ cs, OwnI K C ∧ PySem.W.kitOne K (.ref C) (tgVal n) = some false) : IsiC K (tgVal n) (isiB n cs) where
  one := fun t b h => by
    cases t with
    | own C =>
      have h : (if C ∈ cs then some false else none) = some b := h
      by_cases c : C ∈ cs
      · rw [if_pos c] at h
        cases h
        exact (hc C c).2
      · rw [if_neg c] at h
        cases h
    | exc C => cases h
    | _ => rcases hb with e | e | e | e | e | e <;> subst e <;> (cases h; exact kit_ty (by decide +kernel))
  own := fun C b h => by
    have h : (if C ∈ cs then some false else none) = some b := h
    by_cases c : C ∈ cs
    · exact (hc C c).1
    · rw [if_neg c] at h
      cases h
  exc := fun C b h => nomatch h
end DL
namespace DL
open PySem PySem.Spec PyProof.Rows L2
section
variable {X : Cx} {W : EW} {pins : List (Addr × Obj)} {σ : L2.St} {H : Hp} {s : Shared} {ρ : List Addr} {μ : Sto}
/-- a new object, whatever it is, is known by itself -/
theorem ext_laid {h' : Heap} {a : Addr} {o : Obj} {t' : Nat} (I : Inv X pins σ H s) (k : ∀ b u, s.heap.get? b = some u → h'.get? b = some u) (hp : s.heap.objs.size ≤ a) (he : h'.get? a = some o) :
    Inv X pins σ (upd H a (dO a o)) { s with heap := h', toks := t' } := I.laid (o := dO a o) k hp ⟨he, ⟨o, he⟩, fun h1 h2 z k => k _ z⟩
theorem obj_empty {P : Program} {w : World} {K : PySem.W.Frag} {ρ : List Addr} {H : Hp} : DObj P w K ρ H { cls := .type "dict", data := .dict #[] } [] :=
  ⟨⟨rfl, rfl, rfl⟩, Nat.zero_le _, #[], 0, rfl, .inl ⟨[], (fun e he => by simp at he), .nil, List.nodup_nil, .nil⟩⟩
theorem ne_sys (I : Inv X pins σ H s) {a : Addr} (h : s.heap.objs.size ≤ a) : (a == sysModules) = false := beq_eq_false_iff_ne.mpr (Ne.symm (Nat.ne_of_lt (Nat.lt_of_lt_of_le I.big h)))
def dNewD : DE := fun _ μ => .ok (.ref μ.length) (μ ++ [.dct []])
theorem le_newD {pos : Pos} : LE X W (.Dict [] [] pos) dNewD := ⟨fun pins s σ H Q I ⟨ρ, η, μ, en, t, q⟩ => by
  have hn : H s.heap.objs.size = none := I.hok.fresh (Nat.le_refl _)
  have I1 : Inv X pins σ (upd H s.heap.objs.size (dO s.heap.objs.size { cls := .type "dict", data := .dict #[] })) { s with heap := s.heap.push { cls := .type "dict", data := .dict #[] }, toks := s.toks } :=
    ext_laid I (fun _ _ q => Heap.get?_push_of_some _ q) (Nat.le_refl _) (Heap.get?_push_size _ rfl)
  refine wpAny_Dict_empty ⟨.ref s.heap.objs.size, _, I1, rfl, ?_⟩
  exact q (ρ ++ [s.heap.objs.size]) (.ref s.heap.objs.size) _ (Step.new hn) (.ref t.nextId) (t.new hn ⟨_, upd_same, ne_sys I (Nat.le_refl _), obj_empty⟩)⟩
end
abbrev RPs (K : PySem.W.Frag) (ρ : List Addr) (H : Hp) : List (PV × PV) → List (V × V) → Prop := Paired fun p q => RV K ρ H p.1 q.1 ∧ RV K ρ H p.2 q.2
section
variable {X : Cx} {W : EW}
def vList : VF := fun xs μ => match xs with
  | [.tup ps] => .ok (.ref μ.length) (μ ++ [.lst ps])
  | [.ref i] => match seqAt μ i with
    | some ps => .ok (.ref μ.length) (μ ++ [.lst ps])
    | none => .bad
  | _ => .bad
def vTuple : VF := fun xs μ => match xs with
  | [.tup ps] => .ok (.tup ps) μ
  | [.ref i] => match seqAt μ i with
    | some ps => .ok (.tup ps) μ
    | none => .bad
  | _ => .bad
theorem oc_list : OC X W (.type "list") vList := oc1_of fun pins s σ H xs us Q ρ μ ps I r rp t h => by
  cases rp with
  | nil => exact h.elim
  | cons r1 r2 =>
    cases r2 with
    | cons _ _ => cases r1 <;> exact h.elim
    | nil =>
      cases r1 with
      | tup h1 h2 => exact call_list_of pins s σ H _ us Q I r ⟨_, _, rfl, .inr h1, fun l hl => ok_lst t h2 hl h⟩
      | @ref i a ha =>
        have h : Post X.prog X.w X.K W ρ H (match seqAt μ i with
          | some ps => .ok (.ref μ.length) (μ ++ [.lst ps])
          | none => .bad) (RV X.K) Q := h
        cases e : seqAt μ i with
        | none => rw [e] at h; exact h.elim
        | some ps =>
          rw [e] at h
          obtain ⟨vs, h1, h2⟩ := seqAt_of t ha e
          exact call_list_of pins s σ H _ us Q I r ⟨_, _, rfl, .inl h1, fun l hl => ok_lst t h2 hl h⟩
      | _ => exact h.elim
theorem oc_tuple : OC X W (.type "tuple") vTuple := oc1_of fun pins s σ H xs us Q ρ μ ps I r rp t h => by
  cases rp with
  | nil => exact h.elim
  | cons r1 r2 =>
    cases r2 with
    | cons _ _ => cases r1 <;> exact h.elim
    | nil =>
      cases r1 with
      | tup h1 h2 => exact call_tuple_of pins s σ H _ us Q I r ⟨_, _, rfl, .inr ⟨h1, h ρ _ H Step.refl (.tup h1 h2) t⟩⟩
      | @ref i a ha =>
        have h : Post X.prog X.w X.K W ρ H (match seqAt μ i with
          | some ps => .ok (.tup ps) μ
          | none => .bad) (RV X.K) Q := h
        cases e : seqAt μ i with
        | none => rw [e] at h; exact h.elim
        | some ps =>
          rw [e] at h
          obtain ⟨vs, h1, h2⟩ := seqAt_of t ha e
          exact call_tuple_of pins s σ H _ us Q I r ⟨_, _, rfl, .inl ⟨h1, fun l hl => ok_tup t h2 hl h⟩⟩
      | _ => exact h.elim
end
end DL
namespace DL
open PySem PySem.Spec PyProof.Rows L2
def vOf : Value → V
  | .bool b => .bl b
  | .int i _ => .int i
  | .str x _ => .str x
  | .bytes b _ => .byt b
  | .float b _ => .flt b
  | .ref a => .ref a
  | .type n => .ty n
  | _ => .non
theorem vOf_of {x : V} {u : Value} (a : L2.RelV x u) : vOf u = x := by
  cases x with
  | non => cases a; rfl
  | bl b => cases a; rfl
  | int i => obtain ⟨t, rfl⟩ := a; rfl
  | str z => obtain ⟨t, rfl⟩ := a; rfl
  | byt z => obtain ⟨t, rfl⟩ := a; rfl
  | flt z => obtain ⟨t, rfl⟩ := a; rfl
  | ref z => cases a; rfl
  | ty z => cases a; rfl
theorem relV_uniq {x y : V} {u : Value} (a : L2.RelV x u) (b : L2.RelV y u) : x = y := (vOf_of a).symm.trans (vOf_of b)
theorem vals_uniq : ∀ {xs ys : List V} {us : List Value}, Vals xs us → Vals ys us → xs = ys
  | _, _, _, .nil, .nil => rfl
  | _, _, _, .cons a t, .cons b t' => by rw [relV_uniq a b, vals_uniq t t']
section
variable (P : Program) (w : World) (K : PySem.W.Frag) (ρ0 : List Addr) (H0 : Hp) (gd : Sto → Bool)
def gS (H : Hp) (ρ : List Addr) (μ : Sto) : Prop := Grow K ρ0 H0 ρ H ∧ RSt P w K ρ H μ ∧ gd μ = true
/-- values that stand already -/
def J1 (its : List PV) : It :=
  ⟨fun i H => (∃ ρ μ, gS P w K ρ0 H0 gd H ρ μ) ∧ i < its.length, fun i H x H' => H' = H ∧ ∀ ρ μ p, gS P w K ρ0 H0 gd H ρ μ → its[i]? = some p → RV K ρ H p x, fun i H => (∃ ρ μ, gS P w K ρ0 H0 gd H ρ μ) ∧ i = its.length⟩
/-- new tuples -/
def J2 (its : List (List PV)) : It :=
  ⟨fun i H => (∃ ρ μ, gS P w K ρ0 H0 gd H ρ μ) ∧ i < its.length, fun i H x H' => ∃ T vs, x = .ref T ∧ H T = none ∧ H' = upd H T (.tup vs) ∧ ∀ ρ μ ps, gS P w K ρ0 H0 gd H ρ μ → its[i]? = some ps → RVs K ρ H ps vs, fun i H => (∃ ρ μ, gS P w K ρ0 H0 gd H ρ μ) ∧ i = its.length⟩
theorem wk1 (its : List PV) : Wk P w K (J1 P w K ρ0 H0 gd its) ρ0 H0 its gd where
  go := fun i p ρ H μ gr t hg hp => ⟨⟨⟨ρ, μ, gr, t, hg⟩, (List.getElem?_eq_some_iff.mp hp).1⟩, fun x H' ⟨e, h⟩ => by
    subst e
    exact ⟨Step.refl, t, h ρ μ p ⟨gr, t, hg⟩ hp⟩⟩
  stop := fun ρ H μ gr t hg => ⟨⟨ρ, μ, gr, t, hg⟩, rfl⟩
theorem wk2 (its : List (List PV)) : Wk P w K (J2 P w K ρ0 H0 gd its) ρ0 H0 (its.map PV.tup) gd where
  go := fun i p ρ H μ gr t hg hp => by
    rw [List.getElem?_map] at hp
    obtain ⟨ps, hp', rfl⟩ := Option.map_eq_some_iff.mp hp
    clear hp
    have hp := hp'
    refine ⟨⟨⟨ρ, μ, gr, t, hg⟩, (List.getElem?_eq_some_iff.mp hp').1⟩, fun x H' ⟨T, vs, e1, hT, e2, h⟩ => ?_⟩
    subst e1 e2
    exact ⟨Step.quiet hT, t.quiet hT, .tup (SqT.of upd_same) ((h ρ μ ps ⟨gr, t, hg⟩ hp).step (Step.quiet hT))⟩
  stop := fun ρ H μ gr t hg => ⟨⟨ρ, μ, gr, t, hg⟩, by rw [List.length_map]⟩
end
/-- what stands in the heap, of which its are the values -/
structure Src (P : Program) (w : World) (K : PySem.W.Frag) (ρ0 : List Addr) (H0 : Hp) (gd : Sto → Bool) (its : List PV) (con : Heap → List V → Prop) : Prop where
  fn : ∀ h vs vs', con h vs → con h vs' → vs = vs'
  val : ∀ (X : Cx) (pins : List (Addr × Obj)) (σ : L2.St) (H : Hp) (s : Shared), X.prog = P → X.w = w → X.K = K → Inv X pins σ H s → ∀ ρ μ, gS P w K ρ0 H0 gd H ρ μ → ∃ vs, con s.heap vs ∧ RVs K ρ H its vs
/-- an iterator's own state, in cells of its own -/
structure Own (own : List Addr) (it : Addr) (tn : Nat → Heap → Prop) : Prop where
  mem : it ∈ own
  obj : ∀ i h, tn i h → ∀ b ∈ own, ∃ o, h.get? b = some o ∧ ∀ v, o.data ≠ .cell v
  keep : ∀ i h h', tn i h → (∀ b ∈ own, ∀ o, h.get? b = some o → h'.get? b = some o) → tn i h'
  self : ∀ (prog : Program) (w : World) (A : Around) (i : Nat) (s : Shared) (Q : Value → Shared → Prop) (E : Value → Shared → Prop), tn i s.heap → Q (.ref it) s → wpAny (model prog w) A (pyIter (.ref it)) Q E s
section
variable {P : Program} {w : World} {K : PySem.W.Frag} {ρ0 : List Addr} {H0 : Hp} {gd : Sto → Bool} {own : List Addr} {it : Addr} {tn : Nat → Heap → Prop} {tg : Expr}
/-- values that stand already -/
theorem turn1 {its : List PV} {con : Heap → List V → Prop} (S : Src P w K ρ0 H0 gd its con) (O : Own own it tn)
    (goes : ∀ (A : Around) (i : Nat) (h : Heap) (vs : List V), A.handled = none → con h vs → tn i h → (∀ b ∈ own, b < h.objs.size) → ∃ fp wr Y St, GoesN P w A tg it fp wr vs.length Y St ∧ St i h ∧ (∀ b ∈ wr, b ∈ own) ∧ (∀ j h, St j h → tn j h) ∧ ∀ j h0 v h', Y j h0 v h' → ∃ x, vs[j]? = some x ∧ L2.RelV x v) :
    Turn P w K tg (J1 P w K ρ0 H0 gd its) own it tn where
  mem := O.mem
  obj := O.obj
  keep := O.keep
  item := by
    intro X hP hw hK hc i pins s σ H E I hf st hg
    obtain ⟨⟨ρ, μ, g⟩, hlt⟩ := hg
    obtain ⟨vs, c, r⟩ := S.val X pins σ H s hP hw hK I ρ μ g
    have hl := r.length
    obtain ⟨fp, wr, Y, St, G, st1, hw1, hst, hY⟩ := goes X.A i s.heap vs (I.ok.hd hc) c st fun b hb => let ⟨o, ho, _⟩ := O.obj i _ st b hb; Heap.lt_size ho
    refine wpAny_mono (G.goes i s (fun u s2 => ∃ x H', Inv X pins σ H' s2 ∧ L2.RelV x u ∧ (J1 P w K ρ0 H0 gd its).yld i H x H' ∧ tn (i + 1) s2.heap ∧ ∀ b ∈ own, H' b = none) E (by omega) st1 fun v h' tk hy st2 hk htk => ?_) (fun _ _ q => q) fun _ _ e => e
    obtain ⟨x, hx, rx⟩ := hY i _ v h' hy
    refine ⟨x, H, I.turnedL (t' := tk) (ch := wr) hk (fun b hb => hf b (hw1 b hb)), rx, ⟨rfl, fun ρ' μ' p g' hp => ?_⟩, hst _ _ st2, fun b hb => (hf b hb).1⟩
    obtain ⟨vs', c', r'⟩ := S.val X pins σ H s hP hw hK I ρ' μ' g'
    have := S.fn _ _ _ c c'
    subst this
    obtain ⟨y, hy1, hy2⟩ := r'.get hp
    rw [hx] at hy1
    cases hy1
    exact hy2
  done := by
    intro X hP hw hK hc i pins s σ H E I hf st hg
    obtain ⟨⟨ρ, μ, g⟩, rfl⟩ := hg
    obtain ⟨vs, c, r⟩ := S.val X pins σ H s hP hw hK I ρ μ g
    obtain ⟨fp, wr, Y, St, G, st1, hw1, hst, hY⟩ := goes X.A its.length s.heap vs (I.ok.hd hc) c st fun b hb => let ⟨o, ho, _⟩ := O.obj _ _ st b hb; Heap.lt_size ho
    rw [r.length] at st1
    exact G.stops s (fun s1 => Inv X pins σ H s1) E st1 fun h' tk hk htk => I.turnedL (t' := tk) (ch := wr) hk fun b hb => hf b (hw1 b hb)
  self := fun A i s Q E st q => O.self P w A i s Q E st q
/-- new tuples of what stands in two places -/
theorem turn2 {its : List (List PV)} {con : Heap → List (List V) → Prop} (fn : ∀ h vs vs', con h vs → con h vs' → vs = vs')
    (val : ∀ (X : Cx) (pins : List (Addr × Obj)) (σ : L2.St) (H : Hp) (s : Shared), X.prog = P → X.w = w → X.K = K → Inv X pins σ H s → ∀ ρ μ, gS P w K ρ0 H0 gd H ρ μ → ∃ vs : List (List V), con s.heap vs ∧ its.length = vs.length ∧ ∀ (i : Nat) (ps : List PV), its[i]? = some ps → ∃ ws : List V, vs[i]? = some ws ∧ RVs K ρ H ps ws ∧ ws.length ≤ 3)
    (O : Own own it tn)
    (goes : ∀ (A : Around) (i : Nat) (h : Heap) (vs : List (List V)), A.handled = none → con h vs → tn i h → (∀ b ∈ own, b < h.objs.size) → ∃ fp wr Y St, GoesN P w A tg it fp wr vs.length Y St ∧ St i h ∧ (∀ b ∈ wr, b ∈ own) ∧ (∀ j h, St j h → tn j h) ∧
      ∀ j h0 v h', Y j h0 v h' → ∃ (T : Addr) (ws : List V) (us : List Value), vs[j]? = some ws ∧ v = .ref T ∧ h0.objs.size ≤ T ∧ Vals ws us ∧ h'.IsTuple T us.toArray) :
    Turn P w K tg (J2 P w K ρ0 H0 gd its) own it tn where
  mem := O.mem
  obj := O.obj
  keep := O.keep
  item := by
    intro X hP hw hK hc i pins s σ H E I hf st hg
    obtain ⟨⟨ρ, μ, g⟩, hlt⟩ := hg
    obtain ⟨vs, c, hl, r⟩ := val X pins σ H s hP hw hK I ρ μ g
    obtain ⟨fp, wr, Y, St, G, st1, hw1, hst, hY⟩ := goes X.A i s.heap vs (I.ok.hd hc) c st fun b hb => let ⟨o, ho, _⟩ := O.obj i _ st b hb; Heap.lt_size ho
    refine wpAny_mono (G.goes i s (fun u s2 => ∃ x H', Inv X pins σ H' s2 ∧ L2.RelV x u ∧ (J2 P w K ρ0 H0 gd its).yld i H x H' ∧ tn (i + 1) s2.heap ∧ ∀ b ∈ own, H' b = none) E (by omega) st1 fun v h' tk hy st2 hk htk => ?_) (fun _ _ q => q) fun _ _ e => e
    obtain ⟨T, ws, us, hx, ev, hT, rv, ht⟩ := hY i _ v h' hy
    subst ev
    have hlw : ws.length ≤ sizeLine := by
      obtain ⟨ps, hp⟩ : ∃ ps, its[i]? = some ps := ⟨its[i], List.getElem?_eq_getElem hlt⟩
      obtain ⟨ws', e1, _, e3⟩ := r i ps hp
      rw [hx] at e1
      cases e1
      exact Nat.le_trans e3 (by rw [sizeLine_eq]; omega)
    have new : ObjOk X.prog X.w (upd H T (.tup ws)) h' T (.tup ws) := ⟨hlw, us, rv, ht⟩
    refine ⟨.ref T, _, I.turnedNew (t' := tk) (ch := wr) hk (fun b hb => hf b (hw1 b hb)) hT new, rfl, ⟨T, ws, rfl, I.hok.fresh hT, rfl, fun ρ' μ' p g' hp => ?_⟩, hst _ _ st2, fun b hb => ?_⟩
    · obtain ⟨vs', c', _, r'⟩ := val X pins σ H s hP hw hK I ρ' μ' g'
      have := fn _ _ _ c c'
      subst this
      obtain ⟨y, hy1, hy2, _⟩ := r' i p hp
      rw [hx] at hy1
      cases hy1
      exact hy2
    · obtain ⟨o, ho, _⟩ := O.obj i _ st b hb
      rw [upd_ne (Nat.ne_of_lt (Nat.lt_of_lt_of_le (Heap.lt_size ho) hT))]
      exact (hf b hb).1
  done := by
    intro X hP hw hK hc i pins s σ H E I hf st hg
    obtain ⟨⟨ρ, μ, g⟩, rfl⟩ := hg
    obtain ⟨vs, c, hl, r⟩ := val X pins σ H s hP hw hK I ρ μ g
    obtain ⟨fp, wr, Y, St, G, st1, hw1, hst, hY⟩ := goes X.A its.length s.heap vs (I.ok.hd hc) c st fun b hb => let ⟨o, ho, _⟩ := O.obj _ _ st b hb; Heap.lt_size ho
    rw [hl] at st1
    exact G.stops s (fun s1 => Inv X pins σ H s1) E st1 fun h' tk hk htk => I.turnedL (t' := tk) (ch := wr) hk fun b hb => hf b (hw1 b hb)
  self := fun A i s Q E st q => O.self P w A i s Q E st q
end
end DL
namespace DL
open PySem PySem.Spec PyProof.Rows L2
def signs (z : Str) : List PV := z.cps.toList.map fun c => PV.str ⟨#[c]⟩
def sameSeq (μ : Sto) (i : Nat) (ps : List PV) : Bool := match seqAt μ i with
  | some qs => PV.beqs qs ps
  | none => false
def sameKvs : List (PV × PV) → List (PV × PV) → Bool
  | [], [] => true
  | a :: as, b :: bs => PV.beq a.1 b.1 && PV.beq a.2 b.2 && sameKvs as bs
  | _, _ => false
def sameDct (μ : Sto) (i : Nat) (ps : List (PV × PV)) : Bool := match dctAt μ i with
  | some qs => sameKvs qs ps
  | none => false
theorem sameSeq_of {μ : Sto} {i : Nat} {ps : List PV} (h : sameSeq μ i ps = true) : seqAt μ i = some ps := by
  unfold sameSeq at h
  cases e : seqAt μ i with
  | none => rw [e] at h; cases h
  | some qs => rw [e] at h; rw [PV.eqs_of qs ps h]
theorem sameKvs_of : ∀ {a b : List (PV × PV)}, sameKvs a b = true → a = b
  | [], [], _ => rfl
  | (a1, a2) :: as, (b1, b2) :: bs, h => by
    unfold sameKvs at h
    rw [Bool.and_eq_true, Bool.and_eq_true] at h
    rw [PV.eq_of a1 b1 h.1.1, PV.eq_of a2 b2 h.1.2, sameKvs_of h.2]
  | [], _ :: _, h => by cases h
  | _ :: _, [], h => by cases h
theorem sameDct_of {μ : Sto} {i : Nat} {ps : List (PV × PV)} (h : sameDct μ i ps = true) : dctAt μ i = some ps := by
  unfold sameDct at h
  cases e : dctAt μ i with
  | none => rw [e] at h; cases h
  | some qs => rw [e] at h; rw [sameKvs_of h]
/-- a tuple, a text, a list: what is walked, and what must stand at each turn -/
def srcOf (p : PV) (μ : Sto) : Option (List PV × (Sto → Bool)) := match p with
  | .tup ps => some (ps, fun _ => true)
  | .str z => some (signs z, fun _ => true)
  | .ref i => match seqAt μ i with
    | some ps => some (ps, fun μ' => sameSeq μ' i ps)
    | none => none
  | _ => none
/-- a kind of thing that is walked: its iterator when made, the cells that it reads, the iterator's state -/
structure Kd (v : Value) (con : Heap → List V → Prop) (o : Obj) (src : List Addr) (tn : Addr → Nat → Heap → Prop) : Prop where
  beg : ∀ h vs, con h vs → ∃ Hb, Begins v o Hb ∧ Hb h
  live : ∀ h vs, con h vs → ∀ b ∈ src, b < h.objs.size
  apart : ∀ h vs it i, con h vs → tn it i h → it ∉ src
  tn0 : ∀ h it, h.get? it = some o → tn it 0 h
  obj : ∀ it i h, tn it i h → ∃ o, h.get? it = some o ∧ ∀ v, o.data ≠ .cell v
  keep : ∀ it i h h', tn it i h → (∀ o, h.get? it = some o → h'.get? it = some o) → tn it i h'
  self : ∀ (prog : Program) (w : World) (A : Around) (it : Addr) (i : Nat) (s : Shared) (Q : Value → Shared → Prop) (E : Value → Shared → Prop), tn it i s.heap → Q (.ref it) s → wpAny (model prog w) A (pyIter (.ref it)) Q E s
  draws : ∀ (prog : Program) (w : World) (A : Around) it h vs, A.handled = none → con h vs → it ∉ src → ∃ (Pv : Nat → Value → Prop) (So : Heap → Prop), Draws prog w A it (it :: src) vs.length Pv (fun i h => tn it i h ∧ So h) ∧ So h ∧ ∀ i v, Pv i v → ∃ x, vs[i]? = some x ∧ L2.RelV x v
  goes : ∀ (prog : Program) (w : World) (A : Around) (tg : Expr) it h vs, A.handled = none → con h vs → it ∉ src → ∃ (Pv : Nat → Value → Prop) (So : Heap → Prop), Goes prog w A tg it (it :: src) [it] vs.length (fun i v _ => Pv i v) (fun i h => tn it i h ∧ So h) ∧ So h ∧ ∀ i v, Pv i v → ∃ x, vs[i]? = some x ∧ L2.RelV x v
def conL (a : Addr) : Heap → List V → Prop := fun h vs => ∃ us : List Value, h.IsList a us.toArray ∧ Vals vs us
def conT (a : Addr) : Heap → List V → Prop := fun h vs => ∃ us : List Value, h.IsTuple a us.toArray ∧ Vals vs us
def conS (x : Str) : Heap → List V → Prop := fun _ vs => vs = x.cps.toList.map fun c => V.str ⟨#[c]⟩
theorem vals_at {vs : List V} {us : List Value} (r : Vals vs us) {i : Nat} {v : Value} (h : us.toArray[i]? = some v) : ∃ x, vs[i]? = some x ∧ L2.RelV x v := by
  have hu : us[i]? = some v := by simpa using h
  have hl := r.length
  obtain ⟨hi, _⟩ := List.getElem?_eq_some_iff.mp hu
  obtain ⟨u, h1, h2⟩ := r.get (List.getElem?_eq_getElem (h := (by omega : i < vs.length)))
  rw [hu] at h1
  cases h1
  exact ⟨_, List.getElem?_eq_getElem (by omega), h2⟩
theorem kd_list (a : Addr) : Kd (.ref a) (conL a) { cls := .type "list_iterator", data := .fields #[.ref a, .int 0 0] } [a] (fun it i h => h.IsListIter it a i) where
  beg := fun h vs ⟨us, h1, h2⟩ => ⟨_, begins_list a us.toArray, h1⟩
  live := fun h vs ⟨us, ⟨o, h1, _⟩, h2⟩ b hb => by
    rw [List.mem_singleton.mp hb]
    exact Heap.lt_size h1
  apart := fun h vs it i ⟨us, ⟨o, h1, h2, _⟩, _⟩ ⟨o', k1, k2, _⟩ hm => by
    rw [List.mem_singleton.mp hm, h1] at k1
    cases k1
    rw [h2] at k2
    injection k2 with k2
    exact absurd k2 (by decide)
  tn0 := fun h it e => ⟨_, e, rfl, rfl⟩
  obj := fun it i h ⟨o, h1, h2, h3⟩ => ⟨o, h1, fun v z => by rw [h3] at z; cases z⟩
  keep := fun it i h h' st k => st.at k
  self := fun prog w A it i s Q E st q => wpAny_pyIter_listiter st q
  draws := fun prog w A it h vs hh ⟨us, h1, h2⟩ hn => ⟨_, _, (by rw [h2.length]; exact (Draws.list hh it a (fun e => hn (by simp [e])) us.toArray)), h1, fun i v hv => vals_at h2 hv⟩
  goes := fun prog w A tg it h vs hh ⟨us, h1, h2⟩ hn => ⟨_, _, (by rw [h2.length]; exact (Goes.list hh it a (fun e => hn (by simp [e])) us.toArray)), h1, fun i v hv => vals_at h2 hv⟩
theorem kd_tup (a : Addr) : Kd (.ref a) (conT a) { cls := .type "tuple_iterator", data := .fields #[.ref a, .int 0 0] } [a] (fun it i h => h.IsTupleIter it a i) where
  beg := fun h vs ⟨us, h1, h2⟩ => ⟨_, begins_tuple a us.toArray, h1⟩
  live := fun h vs ⟨us, ⟨o, h1, _⟩, h2⟩ b hb => by
    rw [List.mem_singleton.mp hb]
    exact Heap.lt_size h1
  apart := fun h vs it i ⟨us, ⟨o, h1, h2, _⟩, _⟩ ⟨o', k1, k2, _⟩ hm => by
    rw [List.mem_singleton.mp hm, h1] at k1
    cases k1
    rw [h2] at k2
    injection k2 with k2
    exact absurd k2 (by decide)
  tn0 := fun h it e => ⟨_, e, rfl, rfl⟩
  obj := fun it i h ⟨o, h1, h2, h3⟩ => ⟨o, h1, fun v z => by rw [h3] at z; cases z⟩
  keep := fun it i h h' st k => st.at k
  self := fun prog w A it i s Q E st q => wpAny_pyIter_tupleiter st q
  draws := fun prog w A it h vs hh ⟨us, h1, h2⟩ hn => ⟨_, _, (by rw [h2.length]; exact (Draws.tuple hh it a (fun e => hn (by simp [e])) us.toArray)), h1, fun i v hv => vals_at h2 hv⟩
  goes := fun prog w A tg it h vs hh ⟨us, h1, h2⟩ hn => ⟨_, _, (by rw [h2.length]; exact (Goes.tuple hh it a (fun e => hn (by simp [e])) us.toArray)), h1, fun i v hv => vals_at h2 hv⟩
theorem sign_at {x : Str} {i : Nat} {v : Value} (h : SignAt x i v) : ∃ y, (x.cps.toList.map fun c => V.str ⟨#[c]⟩)[i]? = some y ∧ L2.RelV y v := by
  obtain ⟨c, u, h1, rfl⟩ := h
  refine ⟨.str ⟨#[c]⟩, ?_, u, rfl⟩
  rw [List.getElem?_map]
  have : x.cps.toList[i]? = some c := by simpa using h1
  rw [this]
  rfl
theorem kd_str (x : Str) (t : Tok) : Kd (.str x t) (conS x) { cls := .type (strIterType x), data := .fields #[.str x t, .int 0 0] } [] (fun it i h => h.IsStrIter it (strIterType x) x t i) where
  beg := fun h vs _ => ⟨_, begins_text x t, trivial⟩
  live := fun h vs _ b hb => by cases hb
  apart := fun h vs it i _ _ hm => by cases hm
  tn0 := fun h it e => ⟨_, e, rfl, rfl⟩
  obj := fun it i h ⟨o, h1, h2, h3⟩ => ⟨o, h1, fun v z => by rw [h3] at z; cases z⟩
  keep := fun it i h h' ⟨o, h1, r⟩ k => ⟨o, k o h1, r⟩
  self := fun prog w A it i s Q E st q => by
    cases ha : x.cps.all (· < 128)
    · exact wpAny_pyIter_striter_wide (by simpa [strIterType, ha] using st) q
    · exact wpAny_pyIter_striter_ascii (by simpa [strIterType, ha] using st) q
  draws := fun prog w A it h vs hh e hn => ⟨_, fun _ => True, (by
    have D := Draws.text (prog := prog) (w := w) (A := A) hh it x t
    rw [show vs.length = x.cps.size by rw [show vs = _ from e]; simp]
    exact ⟨fun i h st => D.live i h st.1, fun i h h' st k => ⟨D.frame i h h' st.1 k, trivial⟩, fun i s Q E hi st hQ => D.item i s Q E hi st.1 fun y h' tk a b c => hQ y h' tk a ⟨b, trivial⟩ c, fun s Q E st hE => D.done s Q E st.1 hE⟩), trivial, fun i v hv => by rw [show vs = _ from e]; exact sign_at hv⟩
  goes := fun prog w A tg it h vs hh e hn => ⟨_, fun _ => True, (by
    have D := Goes.text (prog := prog) (w := w) (A := A) (target := tg) hh it x t
    rw [show vs.length = x.cps.size by rw [show vs = _ from e]; simp]
    exact ⟨D.sub, fun i h h' st k => ⟨D.frame i h h' st.1 k, trivial⟩, fun i s Q E hi st hQ => D.goes i s Q E hi st.1 fun y h' tk a b c d => hQ y h' tk a ⟨b, trivial⟩ c d, fun s Q E st hE => D.stops s Q E st.1 hE, fun i s Q E st q => D.self i s Q E st.1 q⟩), trivial, fun i v hv => by rw [show vs = _ from e]; exact sign_at hv⟩
/-- the values of what is walked -/
theorem src_list {P : Program} {w : World} {K : PySem.W.Frag} {ρ0 : List Addr} {H0 : Hp} {i : Nat} {a : Addr} {ps : List PV} (ha : ρ0[i]? = some a) : Src P w K ρ0 H0 (fun μ => sameSeq μ i ps) ps (conL a) where
  fn := fun h vs vs' ⟨us, ⟨o, h1, h2, n, h3⟩, h4⟩ ⟨us', ⟨o', k1, k2, n', k3⟩, k4⟩ => by
    rw [h1] at k1
    cases k1
    rw [h3] at k3
    injection k3 with e1 e2
    have e1 : us = us' := by simpa using e1
    subst e1
    exact vals_uniq h4 k4
  val := fun X pins σ H s hP hw hK I ρ μ g => by
    subst hP hw hK
    obtain ⟨gr, t, hg⟩ := g
    obtain ⟨vs, h1, h2⟩ := seqAt_of t (gr.get _ _ ha) (sameSeq_of hg)
    obtain ⟨us, r, pl, _⟩ := I.list h1
    exact ⟨vs, ⟨us, pl.isList, r⟩, h2⟩
theorem src_tup {P : Program} {w : World} {K : PySem.W.Frag} {ρ0 : List Addr} {H0 : Hp} {a : Addr} {ps : List PV} {vs : List V} (h1 : SqT K H0 a vs) (h2 : RVs K ρ0 H0 ps vs) : Src P w K ρ0 H0 (fun _ => true) ps (conT a) where
  fn := fun h vs vs' ⟨us, ⟨o, h1, h2, n, h3⟩, h4⟩ ⟨us', ⟨o', k1, k2, n', k3⟩, k4⟩ => by
    rw [h1] at k1
    cases k1
    rw [h3] at k3
    injection k3 with e1 e2
    have e1 : us = us' := by simpa using e1
    subst e1
    exact vals_uniq h4 k4
  val := fun X pins σ H s hP hw hK I ρ μ g => by
    subst hP hw hK
    obtain ⟨gr, t, hg⟩ := g
    obtain ⟨us, r, pl, _⟩ := I.tuple (gr.tup _ _ h1)
    exact ⟨vs, ⟨us, pl, r⟩, h2.grow gr⟩
theorem signs_rel {K : PySem.W.Frag} {ρ : List Addr} {H : Hp} : ∀ l : List Nat, RVs K ρ H (l.map fun c => PV.str ⟨#[c]⟩) (l.map fun c => V.str ⟨#[c]⟩)
  | [] => .nil
  | c :: l => .cons (.str _) (signs_rel l)
theorem src_str {P : Program} {w : World} {K : PySem.W.Frag} {ρ0 : List Addr} {H0 : Hp} {x : Str} : Src P w K ρ0 H0 (fun _ => true) (signs x) (conS x) where
  fn := fun h vs vs' e e' => by rw [show vs = _ from e, show vs' = _ from e']
  val := fun X pins σ H s hP hw hK I ρ μ g => ⟨_, rfl, signs_rel _⟩
/-- all three -/
theorem src_any {P : Program} {w : World} {K : PySem.W.Frag} {ρ : List Addr} {H : Hp} {μ : Sto} {p : PV} {x : V} {u : Value} {its : List PV} {gd : Sto → Bool} (t : RSt P w K ρ H μ) (r : RV K ρ H p x) (rx : L2.RelV x u) (h : srcOf p μ = some (its, gd)) :
    gd μ = true ∧ ∃ con o src tn, Src P w K ρ H gd its con ∧ Kd u con o src tn := by
  cases r with
  | tup h1 h2 =>
    cases h
    cases rx
    exact ⟨rfl, _, _, _, _, src_tup h1 h2, kd_tup _⟩
  | str z =>
    cases h
    obtain ⟨tk, rfl⟩ := rx
    exact ⟨rfl, _, _, _, _, src_str, kd_str z tk⟩
  | @ref i a ha =>
    have h : (match seqAt μ i with | some ps => some (ps, fun μ' => sameSeq μ' i ps) | none => none) = some (its, gd) := h
    cases e : seqAt μ i with
    | none => rw [e] at h; cases h
    | some ps =>
      rw [e] at h
      cases h
      cases rx
      refine ⟨?_, _, _, _, _, src_list ha, kd_list a⟩
      show sameSeq μ i its = true
      unfold sameSeq
      rw [e]
      exact PV.beqs_self its
  | _ => cases h
end DL
namespace DL
open PySem PySem.Spec PyProof.Rows L2
section
variable {X : Cx} {W : EW}
theorem own_one {v : Value} {con : Heap → List V → Prop} {o : Obj} {src : List Addr} {tn : Addr → Nat → Heap → Prop} (k : Kd v con o src tn) (it : Addr) : Own [it] it (tn it) where
  mem := by simp
  obj := fun i h st b hb => by
    rw [List.mem_singleton.mp hb]
    exact k.obj it i h st
  keep := fun i h h' st kp => k.keep it i h h' st (kp it (by simp))
  self := fun prog w A i s Q E st q => k.self prog w A it i s Q E st q
theorem goes_one {P : Program} {w : World} {A : Around} {tg : Expr} {v : Value} {con : Heap → List V → Prop} {o : Obj} {src : List Addr} {tn : Addr → Nat → Heap → Prop} (k : Kd v con o src tn) (it : Addr) (i : Nat) (h : Heap) (vs : List V) (hh : A.handled = none) (c : con h vs) (st : tn it i h) :
    ∃ fp wr Y St, GoesN P w A tg it fp wr vs.length Y St ∧ St i h ∧ (∀ b ∈ wr, b ∈ [it]) ∧ (∀ j h, St j h → tn it j h) ∧ ∀ j h0 v h', Y j h0 v h' → ∃ x, vs[j]? = some x ∧ L2.RelV x v := by
  obtain ⟨Pv, So, G, hs, hv⟩ := k.goes P w A tg it h vs hh c (k.apart h vs it i c st)
  exact ⟨_, _, _, _, G.toN, ⟨st, hs⟩, fun b hb => hb, fun j h z => z.1, fun j h0 v h' z => hv j v z⟩
theorem meets_enum1 {v : Value} {o : Obj} {Hb : Heap → Prop} (B : Begins v o Hb) :
    Meets (Builtin.«enumerate.__new__» ⟨[.type "enumerate", v], []⟩) (fun _ R s => Hb s.heap ∧ R (.ok (.ret (.ref (s.heap.push o).objs.size))) { s with heap := (s.heap.push o).push { cls := .type "enumerate", data := .fields #[.none, .bool false, .ref s.heap.objs.size, rawInt 0, .none, .none] } }) :=
  .of_wp fun prog w A R s h => by
    obtain ⟨hp, g, d, tk, os⟩ := s
    obtain ⟨h1, h⟩ := h
    have hsub := sub_enumerate
    have qq : ∀ {A' : Around} {E : Value → Shared → Prop} {Q : Value → Shared → Prop}, Q (.ref hp.objs.size) ⟨hp.push o, g, d, tk, os⟩ → wpAny (model prog w) A' (pyIter v) Q E ⟨hp, g, d, tk, os⟩ := fun q => B.iter prog w _ _ ⟨hp, g, d, tk, os⟩ _ h1 q
    wp_walk using qq
    refine wpAny_stack_any fun st => wpAny_pure ?_
    split
    · rename_i c _ _ _ _ _
      cases (c == Value.type "enumerate") <;> (wp_walk using qq; exact ⟨_, rfl, h⟩)
    · wp_walk using qq
      exact ⟨_, rfl, h⟩
theorem enum1_begins {prog : Program} {w : World} {A : Around} {E : Value → Shared → Prop} {s : Shared} {v : Value} {o : Obj} {Hb : Heap → Prop} {Q : Value → Shared → Prop} (B : Begins v o Hb) (h1 : Hb s.heap)
    (h : ∀ h', IsEnum h' (s.heap.objs.size + 1) s.heap.objs.size 0 .none → h'.get? s.heap.objs.size = some o → (∀ b o, s.heap.get? b = some o → h'.get? b = some o) → Q (.ref (s.heap.objs.size + 1)) { s with heap := h' }) :
    wpAny (model prog w) A (call (.type "enumerate") [v]) Q E s := by
  have hz : (s.heap.push o).objs.size = s.heap.objs.size + 1 := Heap.size_push ..
  have he : IsEnum ((s.heap.push o).push { cls := .type "enumerate", data := .fields #[.none, .bool false, .ref s.heap.objs.size, rawInt 0, .none, .none] }) (s.heap.objs.size + 1) s.heap.objs.size 0 .none := by
    have z := Heap.get?_push_size (s.heap.push o) (o := { cls := .type "enumerate", data := .fields #[.none, .bool false, .ref s.heap.objs.size, rawInt 0, .none, .none] }) rfl
    rw [hz] at z
    exact z
  refine callType_new F.called_enumerate (by decide) (F.typeCall_enumerate_1 _) (F.newCall_enumerate_1 _) (fun obj => F.args_object_init_2 obj _) F.entry_enumerate_new (meets_enum1 B) ⟨h1, ?_⟩
  rw [hz]
  exact ⟨⟨_, he, rfl⟩, h _ he (Heap.get?_push_of_some _ (Heap.get?_push_size _ B.free)) fun b o x => Heap.get?_push_of_some _ (Heap.get?_push_of_some _ x)⟩
def enum2 : List PV → Nat → List (List PV)
  | [], _ => []
  | p :: r, n => [.int n, p] :: enum2 r (n + 1)
theorem enum2_length : ∀ (its : List PV) (n : Nat), (enum2 its n).length = its.length
  | [], _ => rfl
  | p :: r, n => by rw [enum2, List.length_cons, List.length_cons, enum2_length r]
theorem enum2_get : ∀ (its : List PV) (n i : Nat) {ps : List PV}, (enum2 its n)[i]? = some ps → ∃ p, its[i]? = some p ∧ ps = [.int ((n + i : Nat) : Int), p]
  | [], _, _, _, h => by simp [enum2] at h
  | p :: r, n, 0, ps, h => by
    simp [enum2] at h
    exact ⟨p, rfl, by rw [← h]; rfl⟩
  | p :: r, n, i + 1, ps, h => by
    obtain ⟨q, h1, h2⟩ := enum2_get r (n + 1) i (ps := ps) (by simpa [enum2] using h)
    exact ⟨q, by simpa using h1, by rw [h2, show n + 1 + i = n + (i + 1) by omega]⟩
def enumV (vs : List V) : List (List V) := vs.zipIdx.map fun x => [.int (x.2 : Int), x.1]
theorem enumV_get {vs : List V} {i : Nat} {x : V} (h : vs[i]? = some x) : (enumV vs)[i]? = some [.int (i : Int), x] := by
  unfold enumV
  rw [List.getElem?_map, List.getElem?_zipIdx, h]
  simp
theorem enumV_length (vs : List V) : (enumV vs).length = vs.length := by simp [enumV]
def dEnum (d : DE) : DI := fun η μ => (d η μ).bind fun p μ1 => match srcOf p μ1 with
  | some x => .ok ((enum2 x.1 0).map PV.tup, x.2) μ1
  | none => .bad
theorem own_enum {v : Value} {con : Heap → List V → Prop} {o : Obj} {src : List Addr} {tn : Addr → Nat → Heap → Prop} (k : Kd v con o src tn) (e it : Addr) : Own [e, it] e (fun i h => (∃ old, IsEnum h e it (0 + (i : Int)) old) ∧ tn it i h) where
  mem := by simp
  obj := fun i h st b hb => by
    obtain ⟨⟨old, he⟩, h2⟩ := st
    have hb : b = e ∨ b = it := by simpa using hb
    rcases hb with e1 | e1
    · rw [e1]; exact ⟨_, he, fun v z => nomatch z⟩
    · rw [e1]; exact k.obj it i h h2
  keep := fun i h h' st kp => by
    obtain ⟨⟨old, he⟩, h2⟩ := st
    exact ⟨⟨old, kp e (by simp) _ he⟩, k.keep it i h h' h2 (kp it (by simp))⟩
  self := fun prog w A i s Q E st q => by
    obtain ⟨⟨old, he⟩, h2⟩ := st
    exact wpAny_pyIter_enum he q
theorem li_enum {e : Expr} {d : DE} {p pos tpos : Pos} {elts : List Expr} {kk : Nat} (hg : Gl X "enumerate") (hm : X.mg "enumerate" = none) (h : LE X W e d) (hs : starEach [e] X.env = (false, eval e X.env) :: starEach [] X.env := by rfl) :
    LI X W (.Tuple elts kk tpos) (.Call (.Name "enumerate" p) [e] [] pos) (dEnum d) := ⟨fun pins s σ H R I ⟨ρ, η, μ, en, t, q⟩ => by
  have ha : LA X W [e] (dCons d dNil) := la_cons h la_nil hs
  refine Call_ (ld_blt I hg hm boot_enumerate (PyProof.Rows.callWith_type1 (thn (ha.run pos pins s σ H (fun vs H1 => ∃ x ρ1 p μ1, vs = [x] ∧ RV X.K ρ1 H1 p x ∧ RSt X.prog X.w X.K ρ1 H1 μ1 ∧
    Post X.prog X.w X.K W ρ1 H1 (match srcOf p μ1 with | some x => .ok ((enum2 x.1 0).map PV.tup, x.2) μ1 | none => .bad) (RI X.prog X.w X.K) R) I ⟨ρ, η, μ, en, t, ?_⟩) fun us s1 ⟨vs, H1, I1, r1, x, ρ1, p, μ1, ev, r, t1, q1⟩ => ?_) hs rfl))
  · unfold dCons dNil
    unfold dEnum at q
    cases e1 : d η μ with
    | ok pv μ1 =>
      rw [e1] at q
      intro ρ1 vs H1 st rv t1
      have rv : RVs X.K ρ1 H1 [pv] vs := rv
      cases rv with
      | cons r1 r2 =>
        cases r2
        exact ⟨_, ρ1, pv, μ1, rfl, r1, t1, Post.step st q⟩
    | err C v μ1 => rw [e1] at q; exact q
    | bad => rw [e1] at q; exact q
  · subst ev
    obtain ⟨u, rfl, rx⟩ := vals1 r1
    cases e1 : srcOf p μ1 with
    | none => rw [e1] at q1; exact q1.elim
    | some z =>
      obtain ⟨its, gd⟩ := z
      rw [e1] at q1
      obtain ⟨hgd, con, o, src, tn, S, k⟩ := src_any t1 r rx e1
      obtain ⟨vs, c, rv⟩ := S.val X pins σ H1 s1 rfl rfl rfl I1 ρ1 μ1 ⟨Step.refl.grow, t1, hgd⟩
      obtain ⟨Hb, B, hb⟩ := k.beg _ _ c
      have hsrc := k.live _ _ c
      refine enum1_begins B hb fun h' he ho hk => wpAny_pyIter_enum he ?_
      refine ⟨s1.heap.objs.size + 1, [s1.heap.objs.size + 1, s1.heap.objs.size], (fun i h => (∃ old, IsEnum h (s1.heap.objs.size + 1) s1.heap.objs.size (0 + (i : Int)) old) ∧ tn s1.heap.objs.size i h), J2 X.prog X.w X.K ρ1 H1 gd (enum2 its 0), H1, rfl, I1.kept (t' := s1.toks) hk, ?_, ⟨⟨Value.none, by simpa using he⟩, k.tn0 _ _ ho⟩, fun b hb => ?_, ?_⟩
      · refine turn2 (con := fun h vss => ∃ vs, con h vs ∧ vss = enumV vs) (fun h vs vs' ⟨a, a1, a2⟩ ⟨b, b1, b2⟩ => by rw [a2, b2, S.fn h a b a1 b1]) (fun X' pins' σ' H' s' hP hw hK I' ρ' μ' g => ?_) (own_enum k _ _) fun A i h vss hh cc st hlt => ?_
        · obtain ⟨vs', c', r'⟩ := S.val X' pins' σ' H' s' hP hw hK I' ρ' μ' g
          refine ⟨_, ⟨vs', c', rfl⟩, by rw [enum2_length, enumV_length, r'.length], fun i ps hp => ?_⟩
          obtain ⟨q, h1, h2⟩ := enum2_get its 0 i hp
          obtain ⟨y, h3, h4⟩ := r'.get h1
          refine ⟨_, enumV_get h3, ?_, by simp⟩
          rw [h2, Nat.zero_add]
          exact .cons (.int _) (.cons h4 .nil)
        · obtain ⟨vs', c', rfl⟩ := cc
          obtain ⟨⟨old, he'⟩, st'⟩ := st
          have ap := k.apart _ _ _ _ c' st'
          obtain ⟨Pv, So, D, hso, hv⟩ := k.draws X.prog X.w A.in1 s1.heap.objs.size h vs' hh c' ap
          have ne : s1.heap.objs.size + 1 ≠ s1.heap.objs.size := Nat.succ_ne_self _
          have nin : s1.heap.objs.size + 1 ∉ s1.heap.objs.size :: src := fun hm => by
            rcases List.mem_cons.mp hm with hm | hm
            · exact ne hm
            · have : s1.heap.objs.size + 1 < s1.heap.objs.size := hsrc _ hm
              omega
          have G := GoesN.enumFrom (elts := elts) (x1 := kk) (pos := tpos) 0 D (s1.heap.objs.size + 1) ne nin (List.mem_cons_self ..)
          rw [← enumV_length vs'] at G
          refine ⟨_, _, _, _, G, ⟨⟨old, he'⟩, st', hso⟩, fun b hb => hb, fun j h z => ⟨z.1, z.2.1⟩, fun j h0 v h' z => ?_⟩
          obtain ⟨T, tk, x, ev, hT, hp, ht⟩ := z
          obtain ⟨y, hy, ry⟩ := hv j x hp
          exact ⟨T, _, [.int (0 + (j : Int)) tk, x], enumV_get hy, ev, hT, .cons ⟨tk, by rw [Int.zero_add]⟩ (.cons ry .nil), ht⟩
      · have hb : b = s1.heap.objs.size + 1 ∨ b = s1.heap.objs.size := by simpa using hb
        have hle : s1.heap.objs.size ≤ b := by
          rcases hb with z | z
          · rw [z]; exact Nat.le_add_right _ _
          · rw [z]; exact Nat.le_refl _
        exact I1.fpOk hle (I1.hok.fresh hle)
      · exact q1 ρ1 _ H1 Step.refl (wk2 _ _ _ _ _ gd (enum2 its 0)) t1⟩
end
end DL
namespace DL
open PySem PySem.Spec PyProof.Rows L2
def zip2 : List PV → List PV → List (List PV)
  | p :: ps, q :: qs => [p, q] :: zip2 ps qs
  | _, _ => []
def dZip (da db : DE) : DI := fun η μ => (da η μ).bind fun p μ1 => (db η μ1).bind fun q μ2 => match srcOf p μ2, srcOf q μ2 with
  | some x, some y => .ok ((zip2 x.1 y.1).map PV.tup, fun μ' => x.2 μ' && y.2 μ') μ2
  | _, _ => .bad
end DL
namespace DL
open PySem PySem.Spec PyProof.Rows L2
/-- the entries of a dict, as its pairs tell -/
theorem pairs_flat {P : Program} {w : World} {K : PySem.W.Frag} {ρ : List Addr} {H : Hp} : ∀ {es : List DictEntry} {vs : List (Key × Value)} {kvs : List (PV × PV)}, Pairs (mixKind P w) es vs → PrF K ρ H kvs vs →
    ∃ ws : List (V × V), Paired (fun w e => L2.RelV w.1 e.key ∧ L2.RelV w.2 e.val) ws es ∧ RPs K ρ H kvs ws
  | [], [], [], .nil, .nil => ⟨[], .nil, .nil⟩
  | e :: es, v :: vs, p :: kvs, .cons h1 h2 t, .cons h t' => by
    obtain ⟨ws, a, b⟩ := pairs_flat t t'
    obtain ⟨y, y1, y2⟩ := h.2
    refine ⟨(kV v.1, y) :: ws, .cons ⟨relV_key (show keyIs v.1 e.key = true from h1), h2 ▸ y1⟩ a, .cons ⟨?_, y2⟩ b⟩
    rw [h.1]
    cases v with
    | mk k u => cases k with
      | inl i => exact .int i
      | inr x => exact .str x
theorem pairs_nest {P : Program} {w : World} {K : PySem.W.Frag} {ρ : List Addr} {H : Hp} : ∀ {xs : List (NestedKey × Addr × Value)} {kvs : List (PV × PV)}, PrN K ρ H kvs xs →
    ∃ ws : List (V × V), Paired (fun w e => L2.RelV w.1 e.key ∧ L2.RelV w.2 e.val) ws (xs.map (entryOfKey (nestedKind P w))) ∧ RPs K ρ H kvs ws
  | [], [], .nil => ⟨[], .nil, .nil⟩
  | x :: xs, p :: kvs, .cons h t => by
    obtain ⟨ws, a, b⟩ := pairs_nest (P := P) (w := w) t
    obtain ⟨y, y1, y2⟩ := h.2.2.2
    exact ⟨(.ref x.2.1, y) :: ws, .cons ⟨rfl, y1⟩ a, .cons ⟨h.2.2.1, y2⟩ b⟩
theorem dobj_pairs {P : Program} {w : World} {K : PySem.W.Frag} {ρ : List Addr} {H : Hp} {o : Obj} {kvs : List (PV × PV)} (D : DObj P w K ρ H o kvs) {es : Array DictEntry} {ep : Nat} (hd : o.data = .dict es ep) :
    ∃ ws : List (V × V), Paired (fun w e => L2.RelV w.1 e.key ∧ L2.RelV w.2 e.val) ws es.toList ∧ RPs K ρ H kvs ws := by
  obtain ⟨ex, hl, es', ep', h1, h2⟩ := D
  rw [hd] at h1
  injection h1 with e1 e2
  subst e1
  rcases h2 with ⟨vs, a, b, c, d⟩ | ⟨xs, a, b, d⟩
  · exact pairs_flat b d
  · obtain ⟨ws, h3, h4⟩ := pairs_nest (P := P) (w := w) d
    rw [a]
    exact ⟨ws, h3, h4⟩
/-- the dict at a stands so, and its entries have these values -/
def conD (a : Addr) (ep n : Nat) : Heap → List (V × V) → Prop := fun h ws => ∃ es, h.DictRaw a es ep ∧ es.size = n ∧ Paired (fun (w : V × V) (e : DictEntry) => L2.RelV w.1 e.key ∧ L2.RelV w.2 e.val) ws es.toList
theorem paired_uniq {ws : List (V × V)} {es : List DictEntry} (x : Paired (fun (w : V × V) (e : DictEntry) => L2.RelV w.1 e.key ∧ L2.RelV w.2 e.val) ws es) : ∀ {ws' : List (V × V)}, Paired (fun (w : V × V) (e : DictEntry) => L2.RelV w.1 e.key ∧ L2.RelV w.2 e.val) ws' es → ws = ws' := by
  induction x with
  | nil => intro ws' y; cases y; rfl
  | @cons p e ps es h t ih =>
    intro ws' y
    cases y with
    | @cons p' _ ps' _ h' t' =>
      rw [ih t']
      obtain ⟨p1, p2⟩ := p
      obtain ⟨q1, q2⟩ := p'
      have e1 : p1 = q1 := relV_uniq h.1 h'.1
      have e2 : p2 = q2 := relV_uniq h.2 h'.2
      rw [e1, e2]
theorem conD_fn {a : Addr} {ep n : Nat} {h : Heap} {ws ws' : List (V × V)} (x : conD a ep n h ws) (y : conD a ep n h ws') : ws = ws' := by
  obtain ⟨es, ⟨o, h1, h2, h3⟩, _, h4⟩ := x
  obtain ⟨es', ⟨o', k1, k2, k3⟩, _, k4⟩ := y
  rw [h1] at k1
  cases k1
  rw [h3] at k3
  injection k3 with e1 e2
  subst e1
  exact paired_uniq h4 k4
/-- from the start on -/
theorem conD_val {P : Program} {w : World} {K : PySem.W.Frag} {ρ0 : List Addr} {H0 : Hp} {μ0 : Sto} {i : Nat} {a : Addr} {kvs : List (PV × PV)} {X0 : Cx} {pins0 : List (Addr × Obj)} {σ0 : L2.St} {s0 : Shared} (hP0 : X0.prog = P) (hw0 : X0.w = w) (hK0 : X0.K = K)
    (I0 : Inv X0 pins0 σ0 H0 s0) (t0 : RSt P w K ρ0 H0 μ0) (ha : ρ0[i]? = some a) (e0 : μ0[i]? = some (.dct kvs)) :
    ∃ ep, ∀ (X : Cx) (pins : List (Addr × Obj)) (σ : L2.St) (H : Hp) (s : Shared), X.prog = P → X.w = w → X.K = K → Inv X pins σ H s → ∀ ρ μ, gS P w K ρ0 H0 (fun μ => sameDct μ i kvs) H ρ μ → ∃ ws, conD a ep kvs.length s.heap ws ∧ RPs K ρ H kvs ws := by
  subst hP0 hw0 hK0
  obtain ⟨o0, k1, k2, D0⟩ := t0.obj i a _ ha e0
  have g0 : s0.heap.get? a = some o0 := (I0.hok a _ k1).1
  have D0' := D0
  obtain ⟨ex, hl, es0, ep0, hd0, _⟩ := D0'
  refine ⟨ep0, fun X pins σ H s hP hw hK I ρ μ g => ?_⟩
  obtain ⟨gr, t, hg⟩ := g
  obtain ⟨o2, m1, m2, D2⟩ := t.obj i a _ (gr.get _ _ ha) (dctAt_get (sameDct_of hg))
  have g2 : s.heap.get? a = some o2 := (I.hok a _ m1).1
  obtain ⟨o', es', ep', n1, n2, n3, n4⟩ := gr.dct a o0 es0 ep0 k1 hd0
  have g3 : s.heap.get? a = some o' := (I.hok a _ n1).1
  rw [g2] at g3
  cases g3
  obtain ⟨ws0, w1, w2⟩ := dobj_pairs D0 hd0
  obtain ⟨ws, w3, w4⟩ := dobj_pairs D2 n2
  have l0 : es0.size = kvs.length := by rw [← Array.length_toList, ← Paired.length w1, Paired.length w2]
  have l2 : es'.size = kvs.length := by rw [← Array.length_toList, ← Paired.length w3, Paired.length w4]
  have := n4 (by omega)
  subst this
  exact ⟨ws, ⟨es', ⟨o2, g2, D2.1, n2⟩, l2, w3⟩, w4⟩
theorem paired_at {ws : List (V × V)} {es : Array DictEntry} (x : Paired (fun (w : V × V) (e : DictEntry) => L2.RelV w.1 e.key ∧ L2.RelV w.2 e.val) ws es.toList) {i : Nat} (hi : i < es.size) : ∃ y, ws[i]? = some y ∧ L2.RelV y.1 es[i].key ∧ L2.RelV y.2 es[i].val := by
  have hl : ws.length = es.size := by rw [Paired.length x, Array.length_toList]
  have hw : i < ws.length := by omega
  obtain ⟨e, h1, h2⟩ := paired_get x (List.getElem?_eq_getElem hw)
  have : es.toList[i]? = some es[i] := by simp [hi]
  rw [this] at h1
  cases h1
  exact ⟨_, List.getElem?_eq_getElem hw, h2⟩
theorem rps_fst {K : PySem.W.Frag} {ρ : List Addr} {H : Hp} : ∀ {kvs : List (PV × PV)} {ws : List (V × V)}, RPs K ρ H kvs ws → RVs K ρ H (kvs.map (·.1)) (ws.map (·.1))
  | [], [], .nil => .nil
  | _ :: _, _ :: _, .cons h t => .cons h.1 (rps_fst t)
theorem rps_snd {K : PySem.W.Frag} {ρ : List Addr} {H : Hp} : ∀ {kvs : List (PV × PV)} {ws : List (V × V)}, RPs K ρ H kvs ws → RVs K ρ H (kvs.map (·.2)) (ws.map (·.2))
  | [], [], .nil => .nil
  | _ :: _, _ :: _, .cons h t => .cons h.2 (rps_snd t)
theorem same_self {μ : Sto} {i : Nat} {kvs : List (PV × PV)} (h : dctAt μ i = some kvs) : sameDct μ i kvs = true := by
  unfold sameDct
  rw [h]
  show sameKvs kvs kvs = true
  clear h
  induction kvs with
  | nil => rfl
  | cons a r ih => obtain ⟨a1, a2⟩ := a; unfold sameKvs; rw [PV.beq_self, PV.beq_self, ih]; rfl
def srcK (p : PV) (μ : Sto) : Option (List PV × (Sto → Bool)) := match p with
  | .ref i => match dctAt μ i with
    | some kvs => some (kvs.map (·.1), fun μ' => sameDct μ' i kvs)
    | none => srcOf p μ
  | _ => srcOf p μ
def dItA (d : DE) : DI := fun η μ => (d η μ).bind fun p μ1 => match srcK p μ1 with
  | some x => .ok x μ1
  | none => .bad
/-- d.values(), d.items() -/
def dVals (d : DE) : DI := fun η μ => (d η μ).bind fun p μ1 => match p with
  | .ref i => match dctAt μ1 i with
    | some kvs => .ok (kvs.map (·.2), fun μ' => sameDct μ' i kvs) μ1
    | none => .bad
  | _ => .bad
def dItems (d : DE) : DI := fun η μ => (d η μ).bind fun p μ1 => match p with
  | .ref i => match dctAt μ1 i with
    | some kvs => .ok ((kvs.map fun kv => [kv.1, kv.2]).map PV.tup, fun μ' => sameDct μ' i kvs) μ1
    | none => .bad
  | _ => .bad
section
variable {X : Cx} {W : EW} {pins : List (Addr × Obj)} {σ : L2.St} {H : Hp} {s : Shared} {ρ : List Addr} {μ : Sto} {i : Nat} {a : Addr} {kvs : List (PV × PV)} {tg : Expr}
theorem goesN_n {P : Program} {w : World} {A : Around} {it : Addr} {fp wr : List Addr} {n m : Nat} {Y : Nat → Heap → Value → Heap → Prop} {St : Nat → Heap → Prop} (e : n = m) (G : GoesN P w A tg it fp wr n Y St) : GoesN P w A tg it fp wr m Y St := e ▸ G
/-- the dict at its start: its raw entries with the count of changes that stays -/
theorem conD_here (I : Inv X pins σ H s) (t : RSt X.prog X.w X.K ρ H μ) (ha : ρ[i]? = some a) (e : dctAt μ i = some kvs) :
    ∃ es ep, s.heap.DictRaw a es ep ∧ es.size = kvs.length ∧ ∀ (X1 : Cx) (pins : List (Addr × Obj)) (σ : L2.St) (H1 : Hp) (s : Shared), X1.prog = X.prog → X1.w = X.w → X1.K = X.K → Inv X1 pins σ H1 s → ∀ ρ1 μ, gS X.prog X.w X.K ρ H (fun μ => sameDct μ i kvs) H1 ρ1 μ → ∃ ws, conD a ep kvs.length s.heap ws ∧ RPs X.K ρ1 H1 kvs ws := by
  obtain ⟨ep, hc⟩ := conD_val (X0 := X) rfl rfl rfl I t ha (dctAt_get e)
  obtain ⟨ws, ⟨es, h1, h2, h3⟩, h4⟩ := hc X pins σ H s rfl rfl rfl I ρ μ ⟨Step.refl.grow, t, same_self e⟩
  exact ⟨es, ep, h1, h2, hc⟩
theorem ne_iter {h : Heap} {it : Addr} {es : Array DictEntry} {ep : Nat} (hr : h.DictRaw a es ep) {o : Obj} (ho : h.get? it = some o) (hc : o.cls ≠ .type "dict") : a ≠ it := by
  obtain ⟨o', h1, h2, _⟩ := hr
  rintro rfl
  rw [h1] at ho
  cases ho
  exact hc h2.1
theorem keys_turn {ep : Nat} (hc : ∀ (X1 : Cx) (pins : List (Addr × Obj)) (σ : L2.St) (H1 : Hp) (s : Shared), X1.prog = X.prog → X1.w = X.w → X1.K = X.K → Inv X1 pins σ H1 s → ∀ ρ1 μ, gS X.prog X.w X.K ρ H (fun μ => sameDct μ i kvs) H1 ρ1 μ → ∃ ws, conD a ep kvs.length s.heap ws ∧ RPs X.K ρ1 H1 kvs ws) (it : Addr) :
    Turn X.prog X.w X.K tg (J1 X.prog X.w X.K ρ H (fun μ => sameDct μ i kvs) (kvs.map (·.1))) [it] it (fun j h => h.IsKeyIter it a j kvs.length ep) := by
  refine turn1 (con := fun h vs => ∃ ws, conD a ep kvs.length h ws ∧ vs = ws.map (·.1)) ⟨fun h vs vs' ⟨x, x1, x2⟩ ⟨y, y1, y2⟩ => by rw [x2, y2, conD_fn x1 y1], fun X1 pins σ H1 s hP hw hK I ρ1 μ g => ?_⟩ ⟨by simp, fun j h ⟨o, h1, h2, h3⟩ b hb => ?_, fun j h h' st kp => st.at fun o e => kp it (by simp) o e, fun prog w A j s Q E st q => wpAny_pyIter_keyiter st q⟩ fun A j h vs hh c st hlt => ?_
  · obtain ⟨ws, c, r⟩ := hc X1 pins σ H1 s hP hw hK I ρ1 μ g
    exact ⟨_, ⟨ws, c, rfl⟩, rps_fst r⟩
  · rw [List.mem_singleton.mp hb]
    exact ⟨o, h1, fun v z => by rw [h3] at z; cases z⟩
  · obtain ⟨ws, ⟨es, hr, hsz, hp⟩, rfl⟩ := c
    have hl : (ws.map (·.1)).length = es.size := by rw [List.length_map, Paired.length hp, Array.length_toList]
    have hne : a ≠ it := by
      obtain ⟨o, h1, h2, h3⟩ := st
      exact ne_iter hr h1 (by rw [h2]; exact fun z => by injection z with z; exact absurd z (by decide))
    have G0 := (Goes.rawKeys (prog := X.prog) (w := X.w) (A := A) (target := tg) hh it a hne es ep).toN
    have G := goesN_n hl.symm G0
    refine ⟨_, _, _, _, G, ⟨by rw [hsz]; exact st, hr⟩, fun b hb => hb, fun j h z => by have := z.1; rw [hsz] at this; exact this, fun j h0 v h' ⟨hi, e⟩ => ?_⟩
    subst e
    obtain ⟨y, h1, h2, h3⟩ := paired_at hp hi
    exact ⟨y.1, by rw [List.getElem?_map, h1]; rfl, h2⟩
theorem vals_turn {ep : Nat} (hc : ∀ (X1 : Cx) (pins : List (Addr × Obj)) (σ : L2.St) (H1 : Hp) (s : Shared), X1.prog = X.prog → X1.w = X.w → X1.K = X.K → Inv X1 pins σ H1 s → ∀ ρ1 μ, gS X.prog X.w X.K ρ H (fun μ => sameDct μ i kvs) H1 ρ1 μ → ∃ ws, conD a ep kvs.length s.heap ws ∧ RPs X.K ρ1 H1 kvs ws) (it : Addr) :
    Turn X.prog X.w X.K tg (J1 X.prog X.w X.K ρ H (fun μ => sameDct μ i kvs) (kvs.map (·.2))) [it] it (fun j h => h.IsValIter it a j kvs.length ep) := by
  refine turn1 (con := fun h vs => ∃ ws, conD a ep kvs.length h ws ∧ vs = ws.map (·.2)) ⟨fun h vs vs' ⟨x, x1, x2⟩ ⟨y, y1, y2⟩ => by rw [x2, y2, conD_fn x1 y1], fun X1 pins σ H1 s hP hw hK I ρ1 μ g => ?_⟩ ⟨by simp, fun j h ⟨o, h1, h2, h3⟩ b hb => ?_, fun j h h' st kp => st.at fun o e => kp it (by simp) o e, fun prog w A j s Q E st q => wpAny_pyIter_valiter st q⟩ fun A j h vs hh c st hlt => ?_
  · obtain ⟨ws, c, r⟩ := hc X1 pins σ H1 s hP hw hK I ρ1 μ g
    exact ⟨_, ⟨ws, c, rfl⟩, rps_snd r⟩
  · rw [List.mem_singleton.mp hb]
    exact ⟨o, h1, fun v z => by rw [h3] at z; cases z⟩
  · obtain ⟨ws, ⟨es, hr, hsz, hp⟩, rfl⟩ := c
    have hl : (ws.map (·.2)).length = es.size := by rw [List.length_map, Paired.length hp, Array.length_toList]
    have hne : a ≠ it := by
      obtain ⟨o, h1, h2, h3⟩ := st
      exact ne_iter hr h1 (by rw [h2]; exact fun z => by injection z with z; exact absurd z (by decide))
    have G0 := (Goes.rawValues (prog := X.prog) (w := X.w) (A := A) (target := tg) hh it a hne es ep).toN
    have G := goesN_n hl.symm G0
    refine ⟨_, _, _, _, G, ⟨by rw [hsz]; exact st, hr⟩, fun b hb => hb, fun j h z => by have := z.1; rw [hsz] at this; exact this, fun j h0 v h' ⟨hi, e⟩ => ?_⟩
    subst e
    obtain ⟨y, h1, h2, h3⟩ := paired_at hp hi
    exact ⟨y.2, by rw [List.getElem?_map, h1]; rfl, h3⟩
theorem items_turn {elts : List Expr} {kk : Nat} {tpos : Pos} {ep : Nat} (hc : ∀ (X1 : Cx) (pins : List (Addr × Obj)) (σ : L2.St) (H1 : Hp) (s : Shared), X1.prog = X.prog → X1.w = X.w → X1.K = X.K → Inv X1 pins σ H1 s → ∀ ρ1 μ, gS X.prog X.w X.K ρ H (fun μ => sameDct μ i kvs) H1 ρ1 μ → ∃ ws, conD a ep kvs.length s.heap ws ∧ RPs X.K ρ1 H1 kvs ws) (it : Addr) :
    Turn X.prog X.w X.K (.Tuple elts kk tpos) (J2 X.prog X.w X.K ρ H (fun μ => sameDct μ i kvs) (kvs.map fun kv => [kv.1, kv.2])) [it] it (fun j h => ∃ ok ov, IsItemIter h it a j kvs.length ep ok ov) := by
  refine turn2 (con := fun h vss => ∃ ws, conD a ep kvs.length h ws ∧ vss = ws.map fun w => [w.1, w.2]) (fun h vs vs' ⟨x, x1, x2⟩ ⟨y, y1, y2⟩ => by rw [x2, y2, conD_fn x1 y1]) (fun X1 pins σ H1 s hP hw hK I ρ1 μ g => ?_) ⟨by simp, fun j h ⟨ok, ov, he⟩ b hb => ?_, fun j h h' ⟨ok, ov, he⟩ kp => ⟨ok, ov, kp it (by simp) _ he⟩, fun prog w A j s Q E ⟨ok, ov, he⟩ q => wpAny_pyIter_itemiter he q⟩ fun A j h vs hh c st hlt => ?_
  · obtain ⟨ws, c, r⟩ := hc X1 pins σ H1 s hP hw hK I ρ1 μ g
    refine ⟨_, ⟨ws, c, rfl⟩, by rw [List.length_map, List.length_map, Paired.length r], fun j ps hp => ?_⟩
    rw [List.getElem?_map] at hp
    obtain ⟨kv, h1, rfl⟩ := Option.map_eq_some_iff.mp hp
    obtain ⟨w, h2, h3⟩ := paired_get r h1
    exact ⟨_, by rw [List.getElem?_map, h2]; rfl, .cons h3.1 (.cons h3.2 .nil), by simp⟩
  · rw [List.mem_singleton.mp hb]
    exact ⟨_, he, fun v z => nomatch z⟩
  · obtain ⟨ws, ⟨es, hr, hsz, hp⟩, rfl⟩ := c
    have hl : (ws.map fun w => [w.1, w.2]).length = es.size := by rw [List.length_map, Paired.length hp, Array.length_toList]
    obtain ⟨ok, ov, he⟩ := st
    have hne : a ≠ it := ne_iter hr he (fun z => by injection z with z; exact absurd z (by decide))
    have G0 := GoesN.rawItems (prog := X.prog) (w := X.w) (A := A) (elts := elts) (x1 := kk) (pos := tpos) hh it a hne es ep
    have G := goesN_n hl.symm G0
    refine ⟨_, _, _, _, G, ⟨⟨ok, ov, by rw [hsz]; exact he⟩, hr⟩, fun b hb => hb, fun j h z => by have := z.1; rw [hsz] at this; exact this, fun j h0 v h' ⟨T, hi, e, hT, ht⟩ => ?_⟩
    obtain ⟨y, h1, h2, h3⟩ := paired_at hp hi
    exact ⟨T, _, [es[j].key, es[j].val], by rw [List.getElem?_map, h1]; rfl, e, hT, .cons h2 (.cons h3 .nil), ht⟩
end
end DL
namespace DL
open PySem PySem.Spec PyProof.Rows L2
section
variable {X : Cx} {W : EW}
theorem li_itA {tg e : Expr} {d : DE} (h : LE X W e d) : LI X W tg e (dItA d) := ⟨fun pins s σ H R I ⟨ρ, η, μ, en, t, q⟩ => by
  refine thn (h.run pins s σ H (fun x H1 => ∃ ρ1 p μ1, RV X.K ρ1 H1 p x ∧ RSt X.prog X.w X.K ρ1 H1 μ1 ∧ Post X.prog X.w X.K W ρ1 H1 (match srcK p μ1 with | some x => .ok x μ1 | none => .bad) (RI X.prog X.w X.K) R) I ⟨ρ, η, μ, en, t, (Post.bind q).mono fun x H1 ⟨ρ1, p, μ1, st, r, s1, q1⟩ => ⟨ρ1, p, μ1, r, s1, q1⟩⟩)
    fun u s1 ⟨x, H1, I1, rx, ρ1, p, μ1, r, t1, q1⟩ => ?_
  have plain : srcK p μ1 = srcOf p μ1 → wpAny (model X.prog X.w) X.A (pyIter u) (PIE X pins σ tg R) X.xe s1 := by
    intro e
    rw [e] at q1
    cases e1 : srcOf p μ1 with
    | none => rw [e1] at q1; exact q1.elim
    | some z =>
      obtain ⟨its, gd⟩ := z
      rw [e1] at q1
      obtain ⟨hg, con, o, src, tn, S, k⟩ := src_any t1 r rx e1
      obtain ⟨vs, c, rv⟩ := S.val X pins σ H1 s1 rfl rfl rfl I1 ρ1 μ1 ⟨Step.refl.grow, t1, hg⟩
      obtain ⟨Hb, B, hb⟩ := k.beg _ _ c
      refine B.iter _ _ _ _ _ _ hb ?_
      refine ⟨s1.heap.objs.size, [s1.heap.objs.size], tn s1.heap.objs.size, J1 X.prog X.w X.K ρ1 H1 gd its, H1, rfl, I1.kept (t' := s1.toks) fun b ob q => Heap.get?_push_of_some _ q, ?_, k.tn0 _ _ (Heap.get?_push_size _ B.free), fun b hb => ?_, ?_⟩
      · exact turn1 S (own_one k _) fun A i h vs hh c st _ => goes_one k _ i h vs hh c st
      · rw [List.mem_singleton.mp hb]
        exact I1.fpOk (Nat.le_refl _) (I1.hok.fresh (Nat.le_refl _))
      · exact q1 ρ1 _ H1 Step.refl (wk1 _ _ _ _ _ gd its) t1
  cases r with
  | @ref i a ha =>
    cases e : dctAt μ1 i with
    | none => exact plain (show (match dctAt μ1 i with | some kvs => _ | none => _) = _ by rw [e])
    | some kvs =>
      have q1 : Post X.prog X.w X.K W ρ1 H1 (match (match dctAt μ1 i with | some kvs => some (kvs.map (·.1), fun μ' => sameDct μ' i kvs) | none => srcOf (.ref i) μ1) with | some x => .ok x μ1 | none => .bad) (RI X.prog X.w X.K) R := q1
      rw [e] at q1
      obtain rfl : u = Value.ref a := rx
      obtain ⟨es, ep, hr, hsz, hc⟩ := conD_here I1 t1 ha e
      have D := dis_of I1 t1 ha (dctAt_get e)
      refine wpAny_pyIter_dict_raw D.sys hr (pi_one (tk := s1.toks) I1 _ (keys_turn hc _) ⟨_, Heap.get?_push_size _ rfl, rfl, by rw [hsz]; rfl⟩ ?_)
      exact q1 ρ1 _ H1 Step.refl (wk1 _ _ _ _ _ _ _) t1
  | _ => exact plain rfl⟩
theorem li_vals {tg e : Expr} {d : DE} {apos cpos : Pos} (h : LE X W e d) (hbase : attributeBase e "values" X.env (eval e X.env) = eval e X.env := by rfl) (hline : (apos.endLine == cpos.line) = true := by rfl) :
    LI X W tg (.Call (.Attribute e "values" apos) [] [] cpos) (dVals d) := ⟨fun pins s σ H R I ⟨ρ, η, μ, en, t, q⟩ => by
  refine wpAny_Call_method (T := "dict") (id := "dict.values") hbase rfl hline F.plainAttrs_dict F.slot_dict_values F.type_dict_values (thn (h.run pins s σ H (fun x H1 => ∃ ρ1 p μ1, RV X.K ρ1 H1 p x ∧ RSt X.prog X.w X.K ρ1 H1 μ1 ∧
    Post X.prog X.w X.K W ρ1 H1 (match p with
      | .ref i => match dctAt μ1 i with
        | some kvs => .ok (kvs.map (·.2), fun μ' => sameDct μ' i kvs) μ1
        | none => .bad
      | _ => .bad) (RI X.prog X.w X.K) R) I ⟨ρ, η, μ, en, t, (Post.bind q).mono fun x H1 ⟨ρ1, p, μ1, st, r, s1, q1⟩ => ⟨ρ1, p, μ1, r, s1, q1⟩⟩) fun u s1 ⟨x, H1, I1, rx, ρ1, p, μ1, r, t1, q1⟩ => ?_)
  cases r with
  | @ref i a ha =>
    cases e : dctAt μ1 i with
    | none => simp only [e] at q1; exact q1.elim
    | some kvs =>
      simp only [e] at q1
      obtain rfl : u = Value.ref a := rx
      obtain ⟨es, ep, hr, hsz, hc⟩ := conD_here I1 t1 ha e
      have D := dis_of I1 t1 ha (dctAt_get e)
      refine ⟨D.typeIs, fun b q => by cases q; exact D.noDict, ?_⟩
      have I2 : Inv X pins σ H1 { s1 with heap := s1.heap.push { cls := .type "dict_values", data := .fields #[.ref a] } } := I1.kept (t' := s1.toks) fun b ob q => Heap.get?_push_of_some _ q
      have fin : wpAny (model X.prog X.w) X.A (pyIter (.ref s1.heap.objs.size)) (PIE X pins σ tg R) X.xe { s1 with heap := s1.heap.push { cls := .type "dict_values", data := .fields #[.ref a] } } := by
        refine wpAny_pyIter_values_raw (d := a) ⟨_, Heap.get?_push_size _ rfl, rfl, rfl⟩ (hr.at fun o q => Heap.get?_push_of_some _ q) (pi_one (tk := s1.toks) I2 _ (vals_turn hc _) ⟨_, Heap.get?_push_size _ rfl, rfl, by rw [hsz]; rfl⟩ ?_)
        exact q1 ρ1 _ H1 Step.refl (wk1 _ _ _ _ _ _ _) t1
      show wpAny _ _ (callWith cpos (.builtin "dict.values") [.ref a] [] []) _ X.xe s1
      exact method_meetsIn F.slot_dict_values F.entry_dict_values rfl (PySem.evalArgs_none ⟨rfl, D.typeIs, F.args_dict_values_1 _, _, meets_dict_values_raw a D.sys, ⟨es, ep, hr⟩, fin⟩)
  | _ => exact q1.elim⟩
theorem li_items {e : Expr} {d : DE} {apos cpos tpos : Pos} {elts : List Expr} {kk : Nat} (h : LE X W e d) (hbase : attributeBase e "items" X.env (eval e X.env) = eval e X.env := by rfl) (hline : (apos.endLine == cpos.line) = true := by rfl) :
    LI X W (.Tuple elts kk tpos) (.Call (.Attribute e "items" apos) [] [] cpos) (dItems d) := ⟨fun pins s σ H R I ⟨ρ, η, μ, en, t, q⟩ => by
  refine wpAny_Call_method (T := "dict") (id := "dict.items") hbase rfl hline F.plainAttrs_dict F.slot_dict_items F.type_dict_items (thn (h.run pins s σ H (fun x H1 => ∃ ρ1 p μ1, RV X.K ρ1 H1 p x ∧ RSt X.prog X.w X.K ρ1 H1 μ1 ∧
    Post X.prog X.w X.K W ρ1 H1 (match p with
      | .ref i => match dctAt μ1 i with
        | some kvs => .ok ((kvs.map fun kv => [kv.1, kv.2]).map PV.tup, fun μ' => sameDct μ' i kvs) μ1
        | none => .bad
      | _ => .bad) (RI X.prog X.w X.K) R) I ⟨ρ, η, μ, en, t, (Post.bind q).mono fun x H1 ⟨ρ1, p, μ1, st, r, s1, q1⟩ => ⟨ρ1, p, μ1, r, s1, q1⟩⟩) fun u s1 ⟨x, H1, I1, rx, ρ1, p, μ1, r, t1, q1⟩ => ?_)
  cases r with
  | @ref i a ha =>
    cases e : dctAt μ1 i with
    | none => simp only [e] at q1; exact q1.elim
    | some kvs =>
      simp only [e] at q1
      obtain rfl : u = Value.ref a := rx
      obtain ⟨es, ep, hr, hsz, hc⟩ := conD_here I1 t1 ha e
      have D := dis_of I1 t1 ha (dctAt_get e)
      refine ⟨D.typeIs, fun b q => by cases q; exact D.noDict, ?_⟩
      have I2 : Inv X pins σ H1 { s1 with heap := s1.heap.push { cls := .type "dict_items", data := .fields #[.ref a] } } := I1.kept (t' := s1.toks) fun b ob q => Heap.get?_push_of_some _ q
      have fin : wpAny (model X.prog X.w) X.A (pyIter (.ref s1.heap.objs.size)) (PIE X pins σ (.Tuple elts kk tpos) R) X.xe { s1 with heap := s1.heap.push { cls := .type "dict_items", data := .fields #[.ref a] } } := by
        refine wpAny_pyIter_items_raw (d := a) ⟨_, Heap.get?_push_size _ rfl, rfl, rfl⟩ (hr.at fun o q => Heap.get?_push_of_some _ q) (pi_one (tk := s1.toks) I2 _ (items_turn hc _) ⟨.none, .none, ?_⟩ ?_)
        · rw [← hsz]
          exact Heap.get?_push_size _ rfl
        · exact q1 ρ1 _ H1 Step.refl (wk2 _ _ _ _ _ _ _) t1
      show wpAny _ _ (callWith cpos (.builtin "dict.items") [.ref a] [] []) _ X.xe s1
      exact method_meetsIn F.slot_dict_items F.entry_dict_items rfl (PySem.evalArgs_none ⟨rfl, D.typeIs, F.args_dict_items_1 _, _, meets_dict_items_raw a D.sys, ⟨es, ep, hr⟩, fin⟩)
  | _ => exact q1.elim⟩
def vListA : VF := fun xs μ => match xs with
  | [.ref i] => match dctAt μ i with
    | some kvs => .ok (.ref μ.length) (μ ++ [.lst (kvs.map (·.1))])
    | none => vList [.ref i] μ
  | [p] => vList [p] μ
  | _ => .bad
theorem oc_listA (hcm : X.calm = true) : OC X W (.type "list") vListA := oc1_of fun pins s σ H xs us Q ρ μ ps I r rp t h => by
  cases rp with
  | nil => exact h.elim
  | @cons p x _ _ r1 r2 =>
    cases r2 with
    | cons _ _ => cases r1 <;> exact h.elim
    | nil =>
      have plain : Post X.prog X.w X.K W ρ H (vList [p] μ) (RV X.K) Q → wpAny (model X.prog X.w) X.A (call (.type "list") us) (EP X pins σ Q) X.xe s := fun h => oc_list (W := W) pins s σ H _ us Q I r ⟨ρ, μ, [p], .cons r1 .nil, t, h⟩
      cases r1 with
      | @ref i a ha =>
        have h : Post X.prog X.w X.K W ρ H (match dctAt μ i with
          | some kvs => .ok (.ref μ.length) (μ ++ [.lst (kvs.map (·.1))])
          | none => vList [.ref i] μ) (RV X.K) Q := h
        cases e : dctAt μ i with
        | none => rw [e] at h; exact plain h
        | some kvs =>
          rw [e] at h
          obtain ⟨u, rfl, rx⟩ := vals1 r
          obtain rfl : u = Value.ref a := rx
          have D := dis_of I t ha (dctAt_get e)
          obtain ⟨o, k1, k2, D0⟩ := t.obj i a _ ha (dctAt_get e)
          have g0 : s.heap.get? a = some o := (I.hok a _ k1).1
          obtain ⟨ex, hl, es, ep, hd, _⟩ := id D0
          obtain ⟨ws, w1, w2⟩ := dobj_pairs D0 hd
          have lw : ws.length = es.size := by rw [Paired.length w1, Array.length_toList]
          have lk : kvs.length = ws.length := Paired.length w2
          refine PySem.W.kdl_call (kdl_raw D.sys ex hd) (I.ok.hd hcm) g0 (by omega) fun h' tk acc c' kp e' it => ?_
          have rv : Vals (ws.map (·.1)) acc.toList := by
            have hlen : acc.toList.length = ws.length := by rw [Array.length_toList, it.1, lw]
            have gen : ∀ (l : List V) (m : List Value), l.length = m.length → (∀ (j : Nat) (x : V) (y : Value), l[j]? = some x → m[j]? = some y → L2.RelV x y) → Vals l m := by
              intro l
              induction l with
              | nil => intro m h1 _; cases m with
                | nil => exact .nil
                | cons _ _ => cases h1
              | cons x l ih => intro m h1 h2; cases m with
                | nil => cases h1
                | cons y m => exact .cons (h2 0 x y rfl rfl) (ih m (by simpa using h1) fun j x y a b => h2 (j + 1) x y (by simpa using a) (by simpa using b))
            refine gen _ _ (by rw [List.length_map, hlen]) fun j x y h1 h2 => ?_
            rw [List.getElem?_map] at h1
            obtain ⟨w, h3, rfl⟩ := Option.map_eq_some_iff.mp h1
            obtain ⟨en, h4, h5⟩ := it.2 j y (by rw [← Array.getElem?_toList]; exact h2)
            obtain ⟨hj, h6⟩ := Array.getElem?_eq_some_iff.mp h4
            obtain ⟨z, h7, h8, _⟩ := paired_at w1 hj
            rw [h3] at h7
            cases h7
            rw [h5, ← h6]
            exact h8
          have hz : (ws.map (·.1)).length ≤ sizeLine := by rw [List.length_map]; omega
          have hn : H s.heap.objs.size = none := I.hok.fresh (Nat.le_refl _)
          refine ⟨.ref s.heap.objs.size, _, I.laid (t' := tk) (o := .lst (ws.map (·.1))) kp (Nat.le_refl _) ⟨hz, acc.toList, c', rv, by rw [Array.toArray_toList]; exact e'⟩, rfl, ok_lst t (rps_fst w2) hn h⟩
      | tup h1 h2 => exact plain h
      | str z => exact plain h
      | non => exact plain h
      | bl z => exact plain h
      | int z => exact plain h
      | ty z => exact plain h
      | glb z => exact plain h
      | exc _ _ _ _ _ _ => exact plain h
theorem le_lc {elt tg iter : Expr} {ifs : List Expr} {scope : Scope} {own : List (Str × Nat)} {pos : Pos} {di : DI} {g : DG} {tt : DT} {d : DE} {js : List Nat} (hc : X.calm = true) (hN : X.N.Nodup) (hi : LI X W tg iter di) (ok : BlkOk X.N X.env.scope scope own)
    (hg : ∀ (s : Shared) (H : Hp) (C : Addr) (cl : List (Str × Addr)) (fp : List Addr), LG (X.blk s H scope (compEnvC scope cl C X.env) fp) EW0 js tg g) (ht : ∀ (s : Shared) (H : Hp) (C : Addr) (cl : List (Str × Addr)) (fp : List Addr), LTs (X.blk s H scope (compEnvC scope cl C X.env) fp) EW0 ifs tt)
    (he : ∀ (s : Shared) (H : Hp) (C : Addr) (cl : List (Str × Addr)) (fp : List Addr), LE (X.blk s H scope (compEnvC scope cl C X.env) fp) EW0 elt d) (hj : ∀ i ∈ js, i ∈ own.map (·.2)) (hs : ∀ x, foldedSetIterable iter X.env x = pure x := by intro _; rfl) :
    LE X W (.ListComp elt [⟨tg, iter, ifs, 0⟩] scope pos) (dLc di g tt d (own.map (·.2))) := (pe_lc hc hN hi ok hg ht he hs).impD fun σ H Q h => lc_of hj h
theorem Grow.trans {K : PySem.W.Frag} {ρ ρ1 ρ2 : List Addr} {H H1 H2 : Hp} (a : Grow K ρ H ρ1 H1) (b : Grow K ρ1 H1 ρ2 H2) : Grow K ρ H ρ2 H2 := ⟨fun i x h => b.get i x (a.get i x h), fun c xs h => b.tup c xs (a.tup c xs h), a.dct.trans b.dct, fun c o u h => b.fz c o u (a.fz c o u h)⟩
theorem lcGo_nil {gd : Sto → Bool} {g : DG} {tt : DT} {el : Env' → Sto → List PV → Rz (List PV)} {η : Env'} {acc : List PV} {μ : Sto} : lcGo gd g tt el η [] acc μ = if gd μ = true then .ok acc μ else .bad := rfl
theorem lcGo_cons {gd : Sto → Bool} {g : DG} {tt : DT} {el : Env' → Sto → List PV → Rz (List PV)} {η : Env'} {acc rest : List PV} {p : PV} {μ : Sto} : lcGo gd g tt el η (p :: rest) acc μ = if gd μ = true then (calmR (g p η μ)).bind fun η1 μ1 => (calmR (tt η1 μ1)).bind fun k μ2 =>
      if k = true then (calmR (el η1 μ2 acc)).bind fun acc' μ3 => lcGo gd g tt el η rest acc' μ3
      else lcGo gd g tt el η rest acc μ2
    else .bad := rfl
/-- the inner loop, as what one turn of the outer one adds -/
def el2 (di1 : DI) (g1 : DG) (tt1 : DT) (d : DE) (vs1 : List Nat) : Env' → Sto → List PV → Rz (List PV) := fun η μ acc => (di1 η μ).bind fun x μ1 => lcGo x.2 g1 tt1 (elOne d) (wipeE η vs1) x.1 acc μ1
def dLc2 (di : DI) (g : DG) (tt : DT) (di1 : DI) (g1 : DG) (tt1 : DT) (d : DE) (vs vs1 : List Nat) : DE := fun η μ => (di η μ).bind fun x μ1 => (lcGo x.2 g tt (el2 di1 g1 tt1 d vs1) (wipeE η vs) x.1 [] μ1).bind lcEnd
theorem lc2_of {di di1 : DI} {g g1 : DG} {tt tt1 : DT} {d : DE} {vs vs1 js js1 : List Nat} {σ : L2.St} {H : Hp} {Q : VK} (hj : ∀ i ∈ js, i ∈ vs) (hj1 : ∀ i ∈ js1, i ∈ vs1) (h : T X.prog X.w X.K W (dLc2 di g tt di1 g1 tt1 d vs vs1) σ H Q) :
    tLc2 (TI' X.prog X.w X.K W di) (TG' X.prog X.w X.K EW0 js g) (TB X.prog X.w X.K EW0 tt) (TI' X.prog X.w X.K EW0 di1) (TG' X.prog X.w X.K EW0 js1 g1) (TB X.prog X.w X.K EW0 tt1) (T X.prog X.w X.K EW0 d) vs vs1 σ H Q := by
  obtain ⟨ρ, η, μ, en, s, q⟩ := h
  refine ⟨ρ, η, μ, en, s, (Post.bind q).mono fun J H1 ⟨ρ1, a, μ1, st, wk, s1, q1⟩ => ?_⟩
  obtain ⟨its, gd⟩ := a
  have wk : Wk X.prog X.w X.K J ρ1 H1 its gd := wk
  have en1 : REnv X.K ρ1 H1 (wipeE η vs) (wipe σ vs) := (en.step st).wipe vs
  intro D hD0
  refine ⟨fun i m H2 => i + m = its.length ∧ ∃ ρ2 μ2 acc, LcI X.prog X.w X.K ρ1 H1 D ρ2 H2 μ2 acc ∧
      Post X.prog X.w X.K W ρ1 H1 ((lcGo gd g tt (el2 di1 g1 tt1 d vs1) (wipeE η vs) (its.drop i) acc μ2).bind lcEnd) (RV X.K) Q, ⟨its.length, Nat.zero_add _, ρ1, μ1, [], LcI.start s1 hD0, q1⟩, ?_⟩
  rintro i m H2 ⟨hm, ρ2, μ2, acc, li, q2⟩
  cases e : its.drop i with
  | nil =>
    left
    rw [e] at q2
    unfold lcGo at q2
    by_cases c : gd μ2 = true
    · rw [if_pos c] at q2
      have hl : its.length ≤ i := List.drop_eq_nil_iff.mp e
      exact ⟨(show i = its.length by omega) ▸ wk.stop ρ2 H2 μ2 li.st.grow li.rs c, li.done hD0 q2⟩
    · rw [if_neg c] at q2
      exact q2.elim
  | cons p rest =>
    right
    have hp : its[i]? = some p := by
      have := congrArg (fun l => l[0]?) e
      simpa using this
    have hr : its.drop (i + 1) = rest := by
      rw [← List.drop_drop, e]
      rfl
    have hi : i < its.length := (List.getElem?_eq_some_iff.mp hp).1
    rw [e] at q2
    unfold lcGo at q2
    by_cases c : gd μ2 = true
    · rw [if_pos c] at q2
      obtain ⟨h1, h2⟩ := wk.go i p ρ2 H2 μ2 li.st.grow li.rs c hp
      refine ⟨h1, fun H' => (i + 1) + (m - 1) = its.length ∧ ∃ ρ2 μ2 acc, LcI X.prog X.w X.K ρ1 H1 D ρ2 H' μ2 acc ∧
        Post X.prog X.w X.K W ρ1 H1 ((lcGo gd g tt (el2 di1 g1 tt1 d vs1) (wipeE η vs) rest acc μ2).bind lcEnd) (RV X.K) Q, fun H' ⟨k1, k2⟩ => ⟨m - 1, by omega, k1, by rw [hr]; exact k2⟩, fun x H3 hy => ?_⟩
      obtain ⟨st3, s3, r3⟩ := h2 x H3 hy
      have li3 := li.step st3 s3
      have en3 : REnv X.K ρ2 H3 (wipeE η vs) (wipe σ vs) := en1.step li3.st
      cases eg : g p (wipeE η vs) μ2 with
      | err C v μ4 => rw [eg] at q2; exact q2.elim
      | bad => rw [eg] at q2; exact q2.elim
      | ok η1 μ4 =>
        rw [eg] at q2
        refine ⟨ρ2, _, μ2, p, en3, r3, s3, ?_⟩
        rw [eg]
        intro ρ4 σ4 H4 st4 rel4 s4
        have li4 := li3.step st4 s4
        refine ⟨by rw [(rel4.2.mono hj).wipe, wipe_wipe], ?_⟩
        have q2 : Post X.prog X.w X.K W ρ1 H1 (((calmR (tt η1 μ4)).bind fun k μ2 => if k = true then (calmR (el2 di1 g1 tt1 d vs1 η1 μ2 acc)).bind fun acc' μ3 => lcGo gd g tt (el2 di1 g1 tt1 d vs1) (wipeE η vs) rest acc' μ3 else lcGo gd g tt (el2 di1 g1 tt1 d vs1) (wipeE η vs) rest acc μ2).bind lcEnd) (RV X.K) Q := q2
        cases et : tt η1 μ4 with
        | err C v μ5 => rw [et] at q2; exact q2.elim
        | bad => rw [et] at q2; exact q2.elim
        | ok k μ5 =>
          rw [et] at q2
          refine ⟨ρ4, η1, μ4, rel4.1, s4, ?_⟩
          rw [et]
          intro ρ5 k' H5 st5 rel5 s5
          subst rel5
          have li5 := li4.step st5 s5
          have q2 : Post X.prog X.w X.K W ρ1 H1 ((if k = true then (calmR (el2 di1 g1 tt1 d vs1 η1 μ5 acc)).bind fun acc' μ3 => lcGo gd g tt (el2 di1 g1 tt1 d vs1) (wipeE η vs) rest acc' μ3 else lcGo gd g tt (el2 di1 g1 tt1 d vs1) (wipeE η vs) rest acc μ5).bind lcEnd) (RV X.K) Q := q2
          by_cases ck : k = true
          · simp only [if_pos ck] at q2 ⊢
            unfold el2 at q2
            cases ei : di1 η1 μ5 with
            | err C v μ6 => rw [ei] at q2; exact q2.elim
            | bad => rw [ei] at q2; exact q2.elim
            | ok z μ6 =>
              obtain ⟨its1, gd1⟩ := z
              rw [ei, Rz.bind_ok] at q2
              refine ⟨ρ5, η1, μ5, rel4.1.step st5, s5, ?_⟩
              rw [ei]
              intro ρ6 J1 H6 st6 wk1 s6
              have wk1 : Wk X.prog X.w X.K J1 ρ6 H6 its1 gd1 := wk1
              have li6 := li5.step st6 s6
              have en6 : REnv X.K ρ6 H6 (wipeE η1 vs1) (wipe σ4 vs1) := ((rel4.1.step st5).step st6).wipe vs1
              refine ⟨fun j k H7 => j + k = its1.length ∧ ∃ ρ7 μ7 acc7, LcI X.prog X.w X.K ρ1 H1 D ρ7 H7 μ7 acc7 ∧ Grow X.K ρ6 H6 ρ7 H7 ∧
                Post X.prog X.w X.K W ρ1 H1 (((calmR (lcGo gd1 g1 tt1 (elOne d) (wipeE η1 vs1) (its1.drop j) acc7 μ7)).bind fun acc' μ3 => lcGo gd g tt (el2 di1 g1 tt1 d vs1) (wipeE η vs) rest acc' μ3).bind lcEnd) (RV X.K) Q, ⟨its1.length, Nat.zero_add _, ρ6, μ6, acc, li6, Step.refl.grow, q2⟩, ?_⟩
              rintro j k7 H7 ⟨hk, ρ7, μ7, acc7, li7, gr7, q7⟩
              cases e7 : its1.drop j with
              | nil =>
                left
                rw [e7, lcGo_nil] at q7
                by_cases c7 : gd1 μ7 = true
                · rw [if_pos c7] at q7
                  have hl : its1.length ≤ j := List.drop_eq_nil_iff.mp e7
                  exact ⟨(show j = its1.length by omega) ▸ wk1.stop ρ7 H7 μ7 gr7 li7.rs c7, by omega, ρ7, μ7, acc7, li7, q7⟩
                · rw [if_neg c7] at q7
                  exact q7.elim
              | cons p1 rest1 =>
                right
                have hp1 : its1[j]? = some p1 := by
                  have := congrArg (fun l => l[0]?) e7
                  simpa using this
                have hr1 : its1.drop (j + 1) = rest1 := by
                  rw [← List.drop_drop, e7]
                  rfl
                have hi1 : j < its1.length := (List.getElem?_eq_some_iff.mp hp1).1
                rw [e7, lcGo_cons] at q7
                by_cases c7 : gd1 μ7 = true
                · rw [if_pos c7] at q7
                  obtain ⟨h1, h2⟩ := wk1.go j p1 ρ7 H7 μ7 gr7 li7.rs c7 hp1
                  refine ⟨h1, fun H' => (j + 1) + (k7 - 1) = its1.length ∧ ∃ ρ7 μ7 acc7, LcI X.prog X.w X.K ρ1 H1 D ρ7 H' μ7 acc7 ∧ Grow X.K ρ6 H6 ρ7 H' ∧
                    Post X.prog X.w X.K W ρ1 H1 (((calmR (lcGo gd1 g1 tt1 (elOne d) (wipeE η1 vs1) rest1 acc7 μ7)).bind fun acc' μ3 => lcGo gd g tt (el2 di1 g1 tt1 d vs1) (wipeE η vs) rest acc' μ3).bind lcEnd) (RV X.K) Q, fun H' ⟨k1, k2⟩ => ⟨k7 - 1, by omega, k1, by rw [hr1]; exact k2⟩, fun x H8 hy => ?_⟩
                  obtain ⟨st8, s8, r8⟩ := h2 x H8 hy
                  have li8 := li7.step st8 s8
                  have gr8 := gr7.trans st8.grow
                  have en8 : REnv X.K ρ7 H8 (wipeE η1 vs1) (wipe σ4 vs1) := en6.grow gr8
                  cases eg : g1 p1 (wipeE η1 vs1) μ7 with
                  | err C v μ4 => rw [eg] at q7; exact q7.elim
                  | bad => rw [eg] at q7; exact q7.elim
                  | ok η9 μ9 =>
                    rw [eg] at q7
                    refine ⟨ρ7, _, μ7, p1, en8, r8, s8, ?_⟩
                    rw [eg]
                    intro ρ9 σ9 H9 st9 rel9 s9
                    have li9 := li8.step st9 s9
                    have gr9 := gr8.trans st9.grow
                    refine ⟨by rw [(rel9.2.mono hj1).wipe, wipe_wipe], ?_⟩
                    have q7 : Post X.prog X.w X.K W ρ1 H1 (((calmR ((calmR (tt1 η9 μ9)).bind fun k μ2 => if k = true then (calmR (elOne d η9 μ2 acc7)).bind fun acc' μ3 => lcGo gd1 g1 tt1 (elOne d) (wipeE η1 vs1) rest1 acc' μ3 else lcGo gd1 g1 tt1 (elOne d) (wipeE η1 vs1) rest1 acc7 μ2)).bind fun acc' μ3 => lcGo gd g tt (el2 di1 g1 tt1 d vs1) (wipeE η vs) rest acc' μ3).bind lcEnd) (RV X.K) Q := q7
                    cases et : tt1 η9 μ9 with
                    | err C v μ5 => rw [et] at q7; exact q7.elim
                    | bad => rw [et] at q7; exact q7.elim
                    | ok b μ10 =>
                      rw [et] at q7
                      refine ⟨ρ9, η9, μ9, rel9.1, s9, ?_⟩
                      rw [et]
                      intro ρ10 b' H10 st10 rel10 s10
                      subst rel10
                      have li10 := li9.step st10 s10
                      have gr10 := gr9.trans st10.grow
                      have q7 : Post X.prog X.w X.K W ρ1 H1 (((calmR (if b = true then (calmR (elOne d η9 μ10 acc7)).bind fun acc' μ3 => lcGo gd1 g1 tt1 (elOne d) (wipeE η1 vs1) rest1 acc' μ3 else lcGo gd1 g1 tt1 (elOne d) (wipeE η1 vs1) rest1 acc7 μ10)).bind fun acc' μ3 => lcGo gd g tt (el2 di1 g1 tt1 d vs1) (wipeE η vs) rest acc' μ3).bind lcEnd) (RV X.K) Q := q7
                      by_cases cb : b = true
                      · simp only [if_pos cb] at q7 ⊢
                        unfold elOne at q7
                        by_cases cl : acc7.length < sizeLine
                        · simp only [if_pos cl] at q7
                          refine ⟨ρ10, η9, μ10, rel9.1.step st10, s10, ?_⟩
                          cases ee : d η9 μ10 with
                          | err C v μ6 => rw [ee] at q7; exact q7.elim
                          | bad => rw [ee] at q7; exact q7.elim
                          | ok pe μ11 =>
                            rw [ee] at q7
                            intro ρ11 y H11 st11 r11 s11
                            have li11 := li10.step st11 s11
                            obtain ⟨ws, e1, e2, li12⟩ := li11.push hD0 r11
                            have gr12 := (gr10.trans st11.grow).trans (Grow.write (K := X.K) (ρ := ρ11) (a := D) (u := .lst (ws ++ [y])) (by rw [e1]; trivial) (DW.lst e1))
                            exact ⟨ws, e1, by rw [e2]; exact cl, by omega, ρ11, μ11, _, li12, gr12, q7⟩
                        · simp only [if_neg cl] at q7
                          exact q7.elim
                      · simp only [if_neg cb] at q7 ⊢
                        exact ⟨by omega, ρ10, μ10, acc7, li10, gr10, q7⟩
                · rw [if_neg c7] at q7
                  exact q7.elim
          · simp only [if_neg ck] at q2 ⊢
            exact ⟨by omega, ρ5, μ5, acc, li5, q2⟩
    · rw [if_neg c] at q2
      exact q2.elim
theorem le_lc2 {elt tg iter tg1 iter1 : Expr} {ifs ifs1 : List Expr} {scope : Scope} {own : List (Str × Nat)} {vs1 : List Nat} {pos : Pos} {di di1 : DI} {g g1 : DG} {tt tt1 : DT} {d : DE} {js js1 : List Nat} (hc : X.calm = true) (hN : X.N.Nodup) (hi : LI X W tg iter di) (ok : BlkOk X.N X.env.scope scope own) (hv : ∀ i ∈ vs1, i ∈ own.map (·.2))
    (hg : ∀ (s : Shared) (H : Hp) (C : Addr) (cl : List (Str × Addr)) (fp : List Addr), LG (X.blk s H scope (compEnvC scope cl C X.env) fp) EW0 js tg g) (ht : ∀ (s : Shared) (H : Hp) (C : Addr) (cl : List (Str × Addr)) (fp : List Addr), LTs (X.blk s H scope (compEnvC scope cl C X.env) fp) EW0 ifs tt)
    (hi1 : ∀ (s : Shared) (H : Hp) (C : Addr) (cl : List (Str × Addr)) (fp : List Addr), LI (X.blk s H scope (compEnvC scope cl C X.env) fp) EW0 tg1 iter1 di1)
    (hg1 : ∀ (s : Shared) (H : Hp) (C : Addr) (cl : List (Str × Addr)) (fp : List Addr), LG (X.blk s H scope (compEnvC scope cl C X.env) fp) EW0 js1 tg1 g1) (ht1 : ∀ (s : Shared) (H : Hp) (C : Addr) (cl : List (Str × Addr)) (fp : List Addr), LTs (X.blk s H scope (compEnvC scope cl C X.env) fp) EW0 ifs1 tt1)
    (he : ∀ (s : Shared) (H : Hp) (C : Addr) (cl : List (Str × Addr)) (fp : List Addr), LE (X.blk s H scope (compEnvC scope cl C X.env) fp) EW0 elt d) (hj : ∀ i ∈ js, i ∈ own.map (·.2)) (hj1 : ∀ i ∈ js1, i ∈ vs1) (hs : ∀ x, foldedSetIterable iter X.env x = pure x := by intro _; rfl) (hs1 : ∀ env x, foldedSetIterable iter1 env x = pure x := by intro _ _; rfl) :
    LE X W (.ListComp elt [⟨tg, iter, ifs, 0⟩, ⟨tg1, iter1, ifs1, 0⟩] scope pos) (dLc2 di g tt di1 g1 tt1 d (own.map (·.2)) vs1) := (pe_lc2 hc hN hi ok hv hg ht hi1 hg1 ht1 he hs hs1).impD fun σ H Q h => lc2_of hj hj1 h
end
end DL
namespace DL
open PySem PySem.Spec PyProof.Rows L2
end DL
namespace DL
open PySem PySem.Spec PyProof.Rows L2
section
variable {P : Program} {w : World} {κ : Type} [DecidableEq κ] (knd : HeapKind P w κ)
/-- the set's rows: each key by its hash and its address -/
def gRows (L : List (Addr × κ)) : List (Int × Value) := L.map fun p => (knd.hash p.2, Value.ref p.1)
/-- at a stands the set of the keys L (below 64), in a table that finds each of them again -/
structure SetG (h : Heap) (a : Addr) (L : List (Addr × κ)) (es : Array (Int × Value)) (ep : Nat) (t : SetTable) : Prop where
  obj : ∃ o, h.get? a = some o ∧ o.ExactSet ∧ o.data = .set es ep t
  rows : es.toList = gRows knd L
  tab : TabOk t (L.map fun p => knd.hash p.2)
  dif : (L.map (·.2)).Nodup
  keys : ∀ p ∈ L, knd.is h p.2 p.1
  led : w.params.followText "set-order" = true ∨ t.led = true
  room : L.length * 5 < t.mask * 3
  few : L.length < 64
end
section
variable {P : Program} {w : World} {κ : Type} [DecidableEq κ] {knd : HeapKind P w κ} {A : Around} {E : Value → Shared → Prop} {s : Shared} {a x : Addr} {k : κ} {L : List (Addr × κ)} {es : Array (Int × Value)} {ep : Nat} {t : SetTable}
theorem gRows_length {L : List (Addr × κ)} {l : List (Int × Value)} (e : l = gRows knd L) : l.length = L.length := by rw [e, gRows, List.length_map]
theorem SetG.size {h : Heap} (R : SetG knd h a L es ep t) : es.size = L.length := by rw [← Array.length_toList]; exact gRows_length R.rows
theorem SetG.at {h : Heap} (R : SetG knd h a L es ep t) {i : Nat} {p : Addr × κ} (e : L[i]? = some p) : es[i]? = some (knd.hash p.2, Value.ref p.1) := by
  rw [← Array.getElem?_toList, R.rows, gRows, List.getElem?_map, e]
  rfl
end
end DL
namespace DL
open PySem PySem.Spec PyProof.Rows L2
end DL
namespace DL
open PySem PySem.Spec PyProof.Rows L2
section
variable {P : Program} {w : World} {κ : Type} [DecidableEq κ] {knd : HeapKind P w κ} {A : Around} {E : Value → Shared → Prop} {s : Shared}
theorem SetG.keep {h h' : Heap} {a : Addr} {L : List (Addr × κ)} {es : Array (Int × Value)} {ep : Nat} {t : SetTable} (R : SetG knd h a L es ep t) (ha : ∀ o, h.get? a = some o → h'.get? a = some o) (ht : ∀ p ∈ L, knd.is h' p.2 p.1) : SetG knd h' a L es ep t :=
  let ⟨o, ho, r⟩ := R.obj
  ⟨⟨o, ha o ho, r⟩, R.rows, R.tab, R.dif, ht, R.led, R.room, R.few⟩
/-- an empty set's table -/
abbrev tab0 (w : World) : SetTable := .fresh 0 0 (!w.params.followText "set-order")
abbrev set0 (w : World) : Obj := { cls := .type "set", dict := none, data := .set #[] 0 (tab0 w) }
end
end DL
namespace DL
open PySem PySem.Spec PyProof.Rows L2 PySem.W
end DL
namespace DL
open PySem PySem.Spec PyProof.Rows L2 PySem.W
end DL
namespace DL
open PySem PySem.Spec PyProof.Rows L2 PySem.W
end DL
namespace DL
open PySem PySem.Spec PyProof.Rows L2
section
variable {P : Program} {w : World} {κ : Type} [DecidableEq κ] [BEq κ] [LawfulBEq κ] {knd : KeyKind P w κ} {A : Around} {E : Value → Shared → Prop} {s : Shared}
/-- at D stands the set of just these different keys -/
def SetV (knd : KeyKind P w κ) (h : Heap) (D : Addr) (l : List κ) : Prop := h.SetOf knd D (fun k => decide (k ∈ l)) l.length
/-- what such a set holds behind some items -/
structure HoldV (ks l : List κ) : Prop where
  dif : l.Nodup
  sub : ∀ x ∈ l, x ∈ ks
  all : ∀ x ∈ ks, x ∈ l
theorem HoldV.len {ks l : List κ} (g : HoldV ks l) : l.length ≤ ks.length := List.Nodup.length_le_of_subset g.dif fun x hx => g.sub x hx
theorem HoldV.next {ks l : List κ} {x : κ} (g : HoldV ks l) : HoldV (ks ++ [x]) (if decide (x ∈ l) = true then l else l ++ [x]) := by
  by_cases c : x ∈ l
  · rw [if_pos (decide_eq_true c)]
    refine ⟨g.dif, fun y hy => List.mem_append_left _ (g.sub y hy), fun y hy => ?_⟩
    rcases List.mem_append.mp hy with z | z
    · exact g.all y z
    · rw [List.mem_singleton.mp z]; exact c
  · rw [if_neg (by simp [c])]
    refine ⟨?_, fun y hy => ?_, fun y hy => ?_⟩
    · rw [List.nodup_append]
      exact ⟨g.dif, by simp, fun a ha b hb e => c (by rw [← List.mem_singleton.mp hb, ← e]; exact ha)⟩
    · rcases List.mem_append.mp hy with z | z
      · exact List.mem_append_left _ (g.sub y z)
      · exact List.mem_append_right _ z
    · rcases List.mem_append.mp hy with z | z
      · exact List.mem_append_left _ (g.all y z)
      · exact List.mem_append_right _ z
theorem SetV.at {h h' : Heap} {D : Addr} {l : List κ} (x : SetV knd h D l) (k : ∀ o, h.get? D = some o → h'.get? D = some o) : SetV knd h' D l := by
  obtain ⟨o, es, ep, t, ho, r⟩ := x
  exact ⟨o, es, ep, t, k o ho, r⟩
/-- the loop of set.update -/
theorem v_loop (hsc : ∀ (k : κ) (v : Value), knd.is k v = true → v.scannable = true) {I : Addr} {fp wr : List Addr} {G : Array GenState → Array GenState → Prop} {n : Nat} {Pv : Nat → Value → Prop} {St : Nat → Shared → Prop} {R : Result → Shared → Prop}
    (Wk : WalksS P w A.in1 I fp wr G n Pv St) (D : Addr) (hDf : D ∉ fp) (ks : List κ) (hn : n = ks.length) (few : ks.length < 1000) (hval : ∀ i v, Pv i v → ∃ k, ks[i]? = some k ∧ knd.is k v = true) :
    ∀ (m i : Nat) (s : Shared), n - i = m → i ≤ n → St i s → (∃ l, SetV knd s.heap D l ∧ HoldV (ks.take i) l) →
      (∀ s' l, Moved (D :: wr) G s s' → SetV knd s'.heap D l → HoldV ks l → R (.ok (.ret .none)) s') →
      codeAny (model P w) A (.builtin "set.update.loop" ⟨[.ref D, .ref I], []⟩) R s := by
  have hDw : D ∉ wr := fun h => hDf (Wk.sub _ h)
  have wider : ∀ b ∈ wr, b ∈ D :: wr := fun b hb => List.mem_cons_of_mem _ hb
  intro m
  induction m with
  | zero =>
    intro i s hm hi hst ⟨l, hS, g⟩ hR
    obtain rfl : i = n := by omega
    refine codeAny_builtin F.entry_set_update_loop ?_
    rw [Around.under_plainId F.plain_set_update_loop _]
    show wpAny _ A.in1 (pyNext (Value.ref I) >>= _) _ _ s
    refine wpAny_bind (Wk.done s _ _ hst fun s' mv => ?_)
    show wpAny _ A.in1 (ret Value.none) _ _ s'
    exact wpAny_pure (hR s' l (mv.mono wider) (hS.at fun o e => mv.heap D o hDw e) (by rw [hn, List.take_length] at g; exact g))
  | succ m ih =>
    intro i s hm hi hst ⟨l, hS, g⟩ hR
    have hlt : i < n := by omega
    refine codeAny_builtin F.entry_set_update_loop ?_
    rw [Around.under_plainId F.plain_set_update_loop _]
    show wpAny _ A.in1 (pyNext (Value.ref I) >>= _) _ _ s
    refine wpAny_bind (Wk.item i s _ _ hlt hst fun v s' hP hst' mv => ?_)
    obtain ⟨k, hk, kv⟩ := hval i v hP
    have hS' : SetV knd s'.heap D l := hS.at fun o e => mv.heap D o hDw e
    have hl := g.len
    rw [List.length_take] at hl
    show wpAny _ A.in1 (holding [v] (setAdd D v) >>= _) _ _ s'
    refine wpAny_bind (wpAny_holding ?_)
    unfold setAdd
    refine wpAny_holding (wpAny_bind (knd.pyHash kv ?_))
    refine wpAny_setAddHashed_of (s := { s' with toks := s'.toks + 1 }) kv (hsc k v kv) hS' (by unfold scanBound; omega) fun h' sb hS2 => ?_
    have hS3 : SetV knd h' D (if decide (k ∈ l) = true then l else l ++ [k]) := by
      refine PyProof.Rows.SetOf_congr hS2 (fun k' => ?_) ?_
      · by_cases c : k ∈ l
        · rw [if_pos (decide_eq_true c)]
          by_cases c2 : k' = k
          · subst c2
            simp [c]
          · simp [c2]
        · rw [if_neg (by simp [c])]
          simp
      · by_cases c : k ∈ l <;> simp [c]
    refine wpAny_pure ⟨plainId_quiet F.plain_set_update_loop _, ih (i + 1) _ (by omega) hlt (Wk.frame _ s' _ _ hst' (Nat.le_add_right _ _) fun b hb o e => ?_) ⟨_, hS3, ?_⟩ fun s'' l2 mv2 hS'' g'' => ?_⟩
    · rw [sb.2 b (fun h : b = D => hDf (by rw [← h]; exact hb))]
      exact e
    · rw [take_next hk]
      exact g.next
    · refine hR s'' l2 (Moved.trans Wk.gtrans ((mv.mono wider).then_heap (Nat.le_add_right _ _) fun b o hb e => ?_) mv2) hS'' g''
      rw [sb.2 b (fun h : b = D => hb (by rw [h]; exact List.mem_cons_self))]
      exact e
/-- set(l) -/
theorem v_set (hsc : ∀ (k : κ) (v : Value), knd.is k v = true → v.scannable = true) {l : Addr} {items : Array Value} (ks : List κ) {Q : Value → Shared → Prop} (hh : A.handled = none) (hl : s.heap.IsList l items) (hlen : items.size = ks.length) (few : ks.length < 1000)
    (hval : ∀ (i : Nat) (v : Value), items[i]? = some v → ∃ k, ks[i]? = some k ∧ knd.is k v = true)
    (h : ∀ (h' : Heap) (tk : Nat) l', SetV knd h' s.heap.objs.size l' → HoldV ks l' → (∀ b o, s.heap.get? b = some o → h'.get? b = some o) → Q (.ref s.heap.objs.size) { s with heap := h', toks := tk }) :
    wpAny (model P w) A (call (.type "set") [.ref l]) Q E s := by
  obtain ⟨c, tl, hmro⟩ := F.called_set.mro
  have hmade := F.called_set.made
  have hsub := F.called_set.sub
  refine wpAny_call (codeAny_of_tree ?_)
  show wpAny _ _ (callAny (.type "set") _) _ _ _
  refine wpAny_pure ⟨Code.quiet_builtin _ (by decide +kernel), codeAny_builtin F.entry_type_call ?_⟩
  rw [Around.under_plain (weight_type_call_type "set" [.ref l] []) rfl]
  have k1 := F.called_set.notType
  have k2 := F.called_set.canCreate
  have k3 := F.typeCall_set_1 (.ref l)
  repeat (any_goals (first | assumption | wp_step))
  refine codeAny_mono (code_set_led1 (.ref l) (E := E) (Q₁ := fun obj s₁ => obj = .ref s.heap.objs.size ∧ s₁ = { s with heap := s.heap.push (set0 w) }) ⟨rfl, rfl⟩) fun r s₁ hr => ?_
  cases r with
  | error e => exact hr
  | ok fl =>
    cases fl with
    | ret obj =>
      obtain ⟨rfl, rfl⟩ := hr
      have hS : (s.heap.push (set0 w)).get? s.heap.objs.size = some (set0 w) := Heap.get?_push_size _ rfl
      have hT : Shared.TypeIs { s with heap := s.heap.push (set0 w) } (.ref s.heap.objs.size) "set" := ⟨_, hS, rfl⟩
      have k4 := F.called_set.init.lookup
      have k5 := F.called_set.init.bind (.ref s.heap.objs.size)
      repeat (any_goals (first | assumption | wp_step))
      refine codeAny_mono (codeAny_call_builtin (R := wants (fun r s₂ => r = .none ∧ ∃ h' tk l', s₂ = { s with heap := h', toks := tk } ∧ SetV knd h' s.heap.objs.size l' ∧ HoldV ks l' ∧ (∀ b o, s.heap.get? b = some o → h'.get? b = some o)) E)
        F.called_set.init.plain F.entry_set_init (check_set_init_1 hT ?_)) fun r₂ s₂ hr₂ => ?_
      · obtain ⟨⟨ocls, odict, odata, oslots⟩, hol, hcl, nl, hdl⟩ := hl
        simp only at hcl hdl
        subst hcl hdl
        have hol' : (s.heap.push (set0 w)).get? l = some { cls := .type "list", dict := odict, data := .seq items nl, slots := oslots } := Heap.get?_push_of_some _ hol
        have k6 := F.sub_list_set
        have k7 := F.sub_list_frozenset
        have k8 : (Value.type "list" == Value.type "dict") = false := by decide
        have hl1 : (s.heap.push (set0 w)).IsList l items := ⟨_, hol', rfl, nl, rfl⟩
        unfold Builtin.«set.__init__» noKeywords Builtin.Frozenset.updateFrom
        generalize hPI : pyIter = PI
        wp_walk
        subst hPI
        refine wpAny_pyIter_list hl1 (wpAny_bind (wpAny_runValue ?_))
        have hlS : l < s.heap.objs.size := Heap.lt_size hol
        have hh3 : A.in1.in1.in1.handled = none := by simp [hh]
        have hz : (s.heap.push (set0 w)).objs.size = s.heap.objs.size + 1 := Heap.size_push ..
        have hneI : l ≠ (s.heap.push (set0 w)).objs.size := by rw [hz]; exact Nat.ne_of_lt (Nat.lt_succ_of_lt hlS)
        have hSf : s.heap.objs.size ∉ [(s.heap.push (set0 w)).objs.size, l] := by
          rw [hz]
          simp only [List.mem_cons, List.mem_singleton, List.not_mem_nil, or_false, not_or]
          exact ⟨Nat.ne_of_lt (Nat.lt_succ_self _), Nat.ne_of_gt hlS⟩
        have hset : SetV knd ((s.heap.push (set0 w)).push { cls := .type "list_iterator", data := .fields #[.ref l, .int 0 0] }) s.heap.objs.size [] :=
          PyProof.Rows.SetOf_congr ((PyProof.Rows.setObjOf_fresh (knd := knd) (!w.params.followText "set-order")).setOf (Heap.get?_push_of_some _ hS) (by unfold scanBound; omega)) (fun _ => by simp) rfl
        refine v_loop hsc ((Walks.list hh3 _ l hneI items).toS) s.heap.objs.size hSf ks hlen few hval (items.size - 0) 0 _ (by omega) (Nat.zero_le _)
          ⟨⟨_, Heap.get?_push_size _ rfl, rfl, rfl⟩, (hl1.push _)⟩ ⟨[], hset, List.nodup_nil, fun x hx => (by cases hx), fun x hx => (by simp at hx)⟩ ?_
        · rintro ⟨h', g2, d', tk', os'⟩ l' mv hS' g'
          obtain rfl : g2 = s.gens := mv.gens
          obtain rfl : d' = s.drawn := mv.drawn
          obtain rfl : os' = s.os := mv.os
          show wpAny _ _ _ _ _ _
          refine wpAny_pure ?_
          show wpAny _ _ (ret Value.none) _ _ _
          refine wpAny_pure ⟨rfl, h', tk', l', rfl, hS', g', fun b o e => ?_⟩
          have hlt := Heap.lt_size e
          have n1 : b ≠ s.heap.objs.size := Nat.ne_of_lt hlt
          have n2 : b ≠ (s.heap.push (set0 w)).objs.size := by rw [hz]; exact Nat.ne_of_lt (Nat.lt_succ_of_lt hlt)
          exact mv.heap b o (by simp only [List.mem_cons, List.mem_singleton, List.not_mem_nil, or_false, not_or]; exact ⟨n1, n2⟩) (Heap.get?_push_of_some _ (Heap.get?_push_of_some _ e))
      · cases r₂ with
        | error e => exact hr₂
        | ok fl₂ =>
          cases fl₂ with
          | ret r =>
            obtain ⟨rfl, h', tk, l', rfl, hS', g', hk'⟩ := hr₂
            repeat (any_goals (first | assumption | wp_step))
            exact h _ _ _ hS' g' hk'
          | _ => exact hr₂.elim
    | _ => exact hr.elim
end
def strsOf : List PV → Option (List Str)
  | [] => some []
  | .str x :: r => (strsOf r).map (x :: ·)
  | _ :: _ => none
def difS : List Str → List Str → List Str
  | [], acc => acc
  | x :: r, acc => difS r (if acc.elem x then acc else x :: acc)
def vLenSet : VF := fun xs μ => match xs with
  | [.ref i] => match (seqAt μ i).bind strsOf with
    | some ss => if ss.length < 1000 then .ok (.int (difS ss []).length) μ else .bad
    | none => .bad
  | _ => .bad
theorem difS_hold : ∀ (xs acc ks : List Str), HoldV ks acc → HoldV (ks ++ xs) (difS xs acc)
  | [], acc, ks, g => by rw [List.append_nil]; exact g
  | x :: r, acc, ks, g => by
    have e : ks ++ x :: r = (ks ++ [x]) ++ r := by simp
    rw [e]
    refine difS_hold r _ _ ?_
    by_cases c : x ∈ acc
    · rw [if_pos (by simpa using c)]
      refine ⟨g.dif, fun y hy => List.mem_append_left _ (g.sub y hy), fun y hy => ?_⟩
      rcases List.mem_append.mp hy with z | z
      · exact g.all y z
      · rw [List.mem_singleton.mp z]; exact c
    · rw [if_neg (by simpa using c)]
      refine ⟨List.nodup_cons.mpr ⟨c, g.dif⟩, fun y hy => ?_, fun y hy => ?_⟩
      · rcases List.mem_cons.mp hy with z | z
        · rw [z]; simp
        · exact List.mem_append_left _ (g.sub y z)
      · rcases List.mem_append.mp hy with z | z
        · exact List.mem_cons_of_mem _ (g.all y z)
        · rw [List.mem_singleton.mp z]; exact List.mem_cons_self
theorem hold_len {ks l l' : List Str} (g : HoldV ks l) (g' : HoldV ks l') : l.length = l'.length :=
  Nat.le_antisymm (List.Nodup.length_le_of_subset g.dif fun x hx => g'.all x (g.sub x hx)) (List.Nodup.length_le_of_subset g'.dif fun x hx => g.all x (g'.sub x hx))
theorem strsOf_vals {K : PySem.W.Frag} {ρ : List Addr} {H : Hp} : ∀ {ps : List PV} {vs : List V} {ss : List Str}, RVs K ρ H ps vs → strsOf ps = some ss → vs = ss.map V.str
  | _, _, _, .nil, e => by cases e; rfl
  | _, _, _, .cons (p := p) r t, e => by
    cases p with
    | str x =>
      rw [strsOf] at e
      obtain ⟨r', e1, e2⟩ := Option.map_eq_some_iff.mp e
      subst e2
      cases r
      rw [strsOf_vals t e1]
      rfl
    | _ => cases e
theorem str_vals : ∀ {ss : List Str} {us : List Value} {i : Nat} {u : Value}, Vals (ss.map V.str) us → us[i]? = some u → ∃ k, ss[i]? = some k ∧ ∃ t, u = .str k t
  | [], _, i, _, .nil, e => by simp at e
  | x :: ss, _, 0, u, .cons r t, e => by
    obtain ⟨k, rfl⟩ := r
    simp at e
    exact ⟨x, rfl, k, e.symm⟩
  | x :: ss, _, i + 1, u, .cons r t, e => by
    obtain ⟨k, h1, h2⟩ := str_vals (i := i) (u := u) t (by simpa using e)
    exact ⟨k, by simpa using h1, h2⟩
section
variable {X : Cx} {W : EW}
theorem le_lenSet {a : Expr} {d : DE} {p p2 q pos : Pos} (hc : X.calm = true) (hg : Gl X "len") (hm : X.mg "len" = none) (hg2 : Gl X "set") (hm2 : X.mg "set" = none) (ha : LE X W a d)
    (na : starEach [a] X.env = (false, eval a X.env) :: starEach [] X.env := by rfl) : LE X W (.Call (.Name "len" p) [.Call (.Name "set" p2) [a] [] q] [] pos) (dApp vLenSet (dCons d dNil)) := by
  refine ⟨fun pins s σ H Q I h => ?_⟩
  refine Call_ (ld_blt I hg hm boot_len ?_)
  refine PyProof.Rows.callWith_builtin1 (PyProof.Rows.args_cons ?_ rfl) rfl rfl
  refine Call_ (ld_blt I hg2 hm2 boot_set ?_)
  refine PyProof.Rows.callWith_type1 (PyProof.Rows.args_cons (thn (ha.run pins s σ H _ I (app1 h)) fun v s1 ⟨x, H1, I1, r1, q1⟩ => PyProof.Rows.args_nil ?_) na) na rfl
  obtain ⟨ρ, μ, ps, rp, t, z⟩ := q1
  cases rp with
  | cons r2 r3 =>
    cases r3
    cases r2 with
    | @ref i l hi =>
      have z : Post X.prog X.w X.K W ρ H1 (match (seqAt μ i).bind strsOf with
        | some ss => if ss.length < 1000 then .ok (.int (difS ss []).length) μ else .bad
        | none => .bad) (RV X.K) Q := z
      cases e : seqAt μ i with
      | none => rw [e] at z; exact z.elim
      | some qs =>
        rw [e, Option.bind_some] at z
        cases e2 : strsOf qs with
        | none => rw [e2] at z; exact z.elim
        | some ss =>
          rw [e2] at z
          by_cases c : ss.length < 1000
          · have z2 : Post X.prog X.w X.K W ρ H1 (if ss.length < 1000 then .ok (.int (difS ss []).length) μ else .bad) (RV X.K) Q := z
            clear z
            rw [if_pos c] at z2
            obtain ⟨vs, h1, h2⟩ := seqAt_of t hi e
            obtain rfl := strsOf_vals h2 e2
            obtain rfl : v = Value.ref l := r1
            obtain ⟨its, r, pl, hz⟩ := I1.list h1
            have hlen : its.toArray.size = ss.length := by rw [List.size_toArray, ← r.length, List.length_map]
            refine v_set (knd := PySem.strKind X.prog X.w) (fun k v hv => by obtain ⟨t, rfl⟩ := Value.isStrOf_shape hv; rfl) ss (I1.ok.hd hc) pl.isList hlen c (fun i v hv => ?_) fun h' tk l' hS g k => ?_
            · obtain ⟨k, k1, t, rfl⟩ := str_vals r (by simpa using hv)
              exact ⟨k, k1, by simp [PySem.strKind, Value.isStrOf, Value.isStr]⟩
            · refine PyProof.Rows.args_nil ?_
              have hn : l'.length = (difS ss []).length := hold_len g (difS_hold ss [] [] ⟨List.nodup_nil, fun x hx => (by cases hx), fun x hx => (by cases hx)⟩)
              obtain ⟨o, es, ep, tb, ho, hex, hd, _, _, _, hf, hs⟩ := hS
              have hle := g.len
              have I2 : Inv X pins σ H1 { s1 with heap := h', toks := tk } := I1.kept fun b o e => k b o e
              exact call_len_set ho hex hd hf (by rw [hs] <;> omega) ⟨.int (difS ss []).length, H1, I2.tok _, ⟨_, by rw [hs, hn]⟩, z2 ρ _ H1 Step.refl (.int _) t⟩
          · have z2 : Post X.prog X.w X.K W ρ H1 (if ss.length < 1000 then .ok (.int (difS ss []).length) μ else .bad) (RV X.K) Q := z
            rw [if_neg c] at z2
            exact z2.elim
    | _ => exact z.elim
end
end DL
namespace DL
variable {γ : Type}
open PySem PySem.Spec PyProof.Rows L2
def rgP (a b : Int) : List PV := (List.range (b - a).toNat).map fun i => PV.int (a + (i : Nat))
def rgFit (a b : Int) : Bool := decide (-(2 ^ 62) ≤ a) && decide (a < 2 ^ 62) && decide (-(2 ^ 62) ≤ b) && decide (b < 2 ^ 62) && decide ((b - a).toNat ≤ 2 ^ 24)
theorem rgFit_of {a b : Int} (h : rgFit a b = true) : RgOk a b := by
  unfold rgFit at h
  simp only [Bool.and_eq_true, decide_eq_true_eq] at h
  exact ⟨h.1.1.1.1, h.1.1.1.2, h.1.1.2, h.1.2, h.2⟩
def rg1 (f : Int → Int → Sto → Rz γ) : PV → Sto → Rz γ := fun p μ => match p with
  | .int n => if rgFit 0 n = true then f 0 n μ else .bad
  | _ => .bad
abbrev rgI : Int → Int → Sto → Rz (List PV × (Sto → Bool)) := fun a b μ => .ok (rgP a b, fun _ => true) μ
abbrev rgL : Int → Int → Sto → Rz PV := fun a b μ => .ok (.ref μ.length) (μ ++ [.lst (rgP a b)])
def dRg1 (d : DE) : DI := fun η μ => (d η μ).bind (rg1 rgI)
def dLstRg1 (d : DE) : DE := fun η μ => (d η μ).bind (rg1 rgL)
theorem ints_rvs {K : PySem.W.Frag} {ρ : List Addr} {H : Hp} (a : Int) : ∀ l : List Nat, RVs K ρ H (l.map fun i => PV.int (a + (i : Nat))) (l.map fun i => V.int (a + (i : Nat)))
  | [] => .nil
  | _ :: r => .cons (.int _) (ints_rvs a r)
theorem wk_rg {P : Program} {w : World} {K : PySem.W.Frag} {ρ : List Addr} {H : Hp} (a b : Int) : Wk P w K (Itr a (b - a).toNat) ρ H (rgP a b) (fun _ => true) where
  go := fun i p ρ1 H1 μ g t hg hi => by
    unfold rgP at hi
    rw [List.getElem?_map] at hi
    obtain ⟨j, hj, rfl⟩ := Option.map_eq_some_iff.mp hi
    obtain ⟨hlt, e⟩ := List.getElem?_eq_some_iff.mp hj
    rw [List.getElem_range] at e
    subst e
    rw [List.length_range] at hlt
    exact ⟨hlt, fun x H' ⟨e1, e2⟩ => by subst e1 e2; exact ⟨Step.refl, t, .int _⟩⟩
  stop := fun ρ1 H1 μ g t hg => by
    show (b - a).toNat ≤ (rgP a b).length
    unfold rgP
    rw [List.length_map, List.length_range]
    exact Nat.le_refl _
section
variable {P : Program} {w : World} {K : PySem.W.Frag} {W : EW} {ρ : List Addr} {H : Hp} {μ : Sto} {γ δ : Type}
theorem rg1_of {f : Int → Int → Sto → Rz γ} {p : PV} {x : V} {Rel : List Addr → Hp → γ → δ → Prop} {Q : δ → Hp → Prop} (r : RV K ρ H p x) (h : Post P w K W ρ H (rg1 f p μ) Rel Q) : ∃ n, x = .int n ∧ RgOk 0 n ∧ Post P w K W ρ H (f 0 n μ) Rel Q := by
  cases r with
  | int n =>
    unfold rg1 at h
    by_cases c : rgFit 0 n = true
    · have h2 : Post P w K W ρ H (if rgFit 0 n = true then f 0 n μ else .bad) Rel Q := h
      rw [if_pos c] at h2
      exact ⟨n, rfl, rgFit_of c, h2⟩
    · have h2 : Post P w K W ρ H (if rgFit 0 n = true then f 0 n μ else .bad) Rel Q := h
      rw [if_neg c] at h2
      exact h2.elim
  | _ => exact h.elim
end
section
variable {X : Cx} {W : EW} {σ : L2.St} {H : Hp} {γ : Type}
theorem one_of {d : DE} {f : PV → Sto → Rz γ} {δ : Type} {Rel : List Addr → Hp → γ → δ → Prop} {Q : δ → Hp → Prop} (h : ∃ ρ η μ, REnv X.K ρ H η σ ∧ RSt X.prog X.w X.K ρ H μ ∧ Post X.prog X.w X.K W ρ H ((d η μ).bind f) Rel Q) :
    T X.prog X.w X.K W d σ H fun x H1 => ∃ ρ2 p μ2, RV X.K ρ2 H1 p x ∧ RSt X.prog X.w X.K ρ2 H1 μ2 ∧ Post X.prog X.w X.K W ρ2 H1 (f p μ2) Rel Q := by
  obtain ⟨ρ, η, μ, en, t, q⟩ := h
  exact ⟨ρ, η, μ, en, t, (Post.bind q).mono fun x H1 ⟨ρ1, p, μ1, st, r, t1, q1⟩ => ⟨ρ1, p, μ1, r, t1, q1⟩⟩
end
section
variable {X : Cx} {W : EW} {tg a b : Expr} {da db : DE} {p pos p2 pos2 : Pos}
theorem li_range1 (hg : Gl X "range") (hm : X.mg "range" = none) (ha : LE X W a da) (hs : starEach [a] X.env = [(false, eval a X.env)] := by rfl) : LI X W tg (.Call (.Name "range" p) [a] [] pos) (dRg1 da) :=
  (pi_range1 hg hm (pa_cons ha pa_nil hs) hs).impD fun σ H R h => (one_of h).mono fun x H1 ⟨ρ, p, μ, r, t, q⟩ => by
    obtain ⟨n, rfl, ⟨b1, b2, b3, b4, b5⟩, q⟩ := rg1_of r q
    have z := q ρ (Itr 0 (n - 0).toNat) H1 Step.refl (wk_rg 0 n) t
    rw [Int.sub_zero] at z
    exact ⟨n, rfl, b3, b4, z⟩
theorem le_lstRg1 (hc : X.calm = true) (hg : Gl X "list") (hm : X.mg "list" = none) (hg2 : Gl X "range") (hm2 : X.mg "range" = none) (ha : LE X W a da) (na : starEach [a] X.env = (false, eval a X.env) :: starEach [] X.env := by rfl)
    (nr : starEach [.Call (.Name "range" p2) [a] [] pos2] X.env = (false, eval (.Call (.Name "range" p2) [a] [] pos2) X.env) :: starEach [] X.env := by rfl) :
    LE X W (.Call (.Name "list" p) [.Call (.Name "range" p2) [a] [] pos2] [] pos) (dLstRg1 da) :=
  (pe_listRg hc hg hm (prg_1 hg2 hm2 ha na) nr).impD fun σ H Q h => (one_of h).mono fun x H1 ⟨ρ, p, μ, r, t, q⟩ => by
    obtain ⟨n, rfl, ok, q⟩ := rg1_of r q
    exact ⟨n, rfl, ok, fun l hl => ok_lst t (ints_rvs 0 (List.range (n - 0).toNat)) hl q⟩
end
def vTupleA : VF := fun xs μ => match xs with
  | [.str z] => if z.length ≤ sizeLine then .ok (.tup (signs z)) μ else .bad
  | _ => vTuple xs μ
section
variable {X : Cx} {W : EW}
theorem signs_rvs {K : PySem.W.Frag} {ρ : List Addr} {H : Hp} : ∀ l : List Nat, RVs K ρ H (l.map fun c => PV.str ⟨#[c]⟩) (l.map fun c => V.str ⟨#[c]⟩)
  | [] => .nil
  | _ :: r => .cons (.str _) (signs_rvs r)
theorem signs_vals : ∀ (l : List Nat) (us : List Value), us.length = l.length → (∀ (j : Nat) (v : Value), us[j]? = some v → ∃ (c : Nat) (u : Tok), l[j]? = some c ∧ v = Value.str ⟨#[c]⟩ u) → Vals (l.map fun c => V.str ⟨#[c]⟩) us
  | [], [], _, _ => .nil
  | [], _ :: _, e, _ => by cases e
  | _ :: _, [], e, _ => by cases e
  | c :: l, v :: us, e, h => by
    obtain ⟨c', u, h1, h2⟩ := h 0 v rfl
    cases h1
    exact .cons ⟨u, h2⟩ (signs_vals l us (by simpa using e) fun j v hj => h (j + 1) v (by simpa using hj))
theorem oc_tupleA (hcm : X.calm = true) : OC X W (.type "tuple") vTupleA := oc1_of fun pins s σ H xs us Q ρ μ ps I r rp t h => by
  have plain : Post X.prog X.w X.K W ρ H (vTuple ps μ) (RV X.K) Q → wpAny (model X.prog X.w) X.A (call (.type "tuple") us) (EP X pins σ Q) X.xe s := fun h => oc_tuple (W := W) pins s σ H _ us Q I r ⟨ρ, μ, ps, rp, t, h⟩
  cases rp with
  | nil => exact h.elim
  | @cons p x _ _ r1 r2 =>
    cases r2 with
    | cons _ _ => cases r1 <;> exact h.elim
    | nil =>
      cases r1 with
      | str z =>
        have h2 : Post X.prog X.w X.K W ρ H (if z.length ≤ sizeLine then .ok (.tup (signs z)) μ else .bad) (RV X.K) Q := h
        by_cases c : z.length ≤ sizeLine
        · rw [if_pos c] at h2
          obtain ⟨u, rfl, rx⟩ := vals1 r
          obtain ⟨tk, rfl⟩ : ∃ tk, u = Value.str z tk := rx
          refine call_tuple_str (I.ok.hd hcm) z tk (fun h' tk' acc hk ha => ?_) c
          have k2 : ∀ b o, s.heap.get? b = some o → (h'.push { cls := .type "tuple", data := .seq acc }).get? b = some o := fun b o e => Heap.get?_push_of_some _ (hk b o e)
          have hz : s.heap.get? h'.objs.size = none := by
            cases e : s.heap.get? h'.objs.size with
            | none => rfl
            | some o => exact absurd (Heap.lt_size (hk _ _ e)) (Nat.lt_irrefl _)
          have hv : Vals (z.cps.toList.map fun c => V.str ⟨#[c]⟩) acc.toList := signs_vals _ _ (by rw [Array.length_toList, Array.length_toList]; exact ha.1) fun j v hj => by
            obtain ⟨c, u, h1, h2⟩ := ha.2 j v (by rw [← Array.getElem?_toList]; exact hj)
            exact ⟨c, u, by rw [Array.getElem?_toList]; exact h1, h2⟩
          have hn : H h'.objs.size = none := L2.HOk.gone I.hok hz
          refine ⟨.ref h'.objs.size, _, I.laidN (t' := tk') (o := .tup (z.cps.toList.map fun c => V.str ⟨#[c]⟩)) k2 hz hn ⟨?_, acc.toList, hv, ⟨_, Heap.get?_push_size _ rfl, rfl, 0, ?_⟩⟩, rfl, ok_tup t (signs_rvs _) hn h2⟩
          · rw [List.length_map, Array.length_toList]
            exact c
          · simp
        · rw [if_neg c] at h2
          exact h2.elim
      | _ => exact plain h
end
end DL
namespace DL
open PySem PySem.Spec PyProof.Rows L2
section
variable {X : Cx} {W : EW}
theorem le_glob {x : Str} {v : V} {p : PV} {u : Value} {pos : Pos} (hg : Gl X x) (hm : X.mg x = some u) (r : RelV v u) (rv : ∀ ρ H, RV X.K ρ H p v) (hd : (x == ("__debug__" : Str)) = false := by decide) : LE X W (.Name x pos) (dC p) := le_c (pe_glob hg hm r hd) rv
end
def vApart (F : VF) : VF := fun xs μ => if bareL xs = true then match F xs [] with
    | .ok p _ => if bareP p = true then .ok p μ else .bad
    | _ => .bad
  else .bad
theorem apart_of {P : Program} {w : World} {K : PySem.W.Frag} {F : VF} {vs : List V} {H : Hp} {Q : VK} (h : rL P w K EW0 (vApart F) vs H Q) : rL P w K EW0 F vs H Q := by
  obtain ⟨ρ, μ, ps, r, t, h⟩ := h
  unfold vApart at h
  by_cases c : bareL ps = true
  · rw [if_pos c] at h
    refine ⟨[], [], ps, bare_rvs c r, ⟨rfl, List.nodup_nil, fun i a o e => (by cases e), fun p hp => (t.tab p hp).sub fun _ z => nomatch z⟩, ?_⟩
    cases e : F ps [] with
    | ok p μ' =>
      rw [e] at h
      have h : Post P w K EW0 ρ H (if bareP p = true then .ok p μ else .bad) (RV K) Q := h
      by_cases c2 : bareP p = true
      · rw [if_pos c2] at h
        intro ρ' x H' st rx t'
        have keep : ∀ b o, H b = some o → NT o → H' b = some o := fun b o e => st.keep b o e (by simp)
        have kept : ∀ a ∈ ρ, H' a = H a := fun a ha => by
          obtain ⟨u, e, n⟩ := t.nc ha
          rw [e, keep a u e n.2]
        have nc : ∀ a ∈ ρ, ∃ u, H' a = some u ∧ NC a u := fun a ha => by
          rw [kept a ha]
          exact t.nc ha
        have st2 : Step K ρ H ρ H' := ⟨⟨[], (List.append_nil ρ).symm, fun _ h => by cases h⟩, fun b o e _ => keep b o e, st.tup, st.live, st.dct, st.fz, fun p hp h => (st.tbl p hp (h.sub fun _ z => nomatch z)).renum nc⟩
        refine h ρ x H' st2 (bare_rv c2 rx) (t.keep st2 kept)
      · rw [if_neg c2] at h
        exact h.elim
    | err C v μ' => rw [e] at h; exact h.elim
    | bad => rw [e] at h; exact h.elim
  · rw [if_neg c] at h
    exact h.elim
theorem apart_ar {n : Nat} {F : VF} (a : Ar n F) : Ar n (vApart F) := fun ps μ h => by
  unfold vApart
  rw [a ps [] h]
  split <;> rfl
theorem fn_apart {P : Program} {w : World} {K : PySem.W.Frag} {mg : Str → Option Value} {base : Heap} {k n : Nat} {f : Addr} {fd : FuncData} {ps : List Str} {F : VF} (G : FnOk P w K mg base CX0 k f fd ps (spD P w K n F)) : FnOk P w K mg base CX0 k f fd ps (spD P w K n (vApart F)) :=
  G.imp fun vs H Q E h => ⟨h.1, apart_of h.2⟩
end DL
namespace DL
open PySem PySem.Spec PyProof.Rows L2
/-- a def's promise where no repr is under way -/
structure FnG (P : Program) (w : World) (K : PySem.W.Frag) (mg : Str → Option Value) (base : Heap) (k : Nat) (f : Addr) (fd : FuncData) (ps : List Str) (sp : Sp) : Prop where
  len : ∀ vs H Q E, sp vs H Q E → vs.length = ps.length
  run : ∀ (A : Around) (outer : List Env) (s : Shared) (H : Hp) (args : Args) (us : List Value) (vs : List V) (Q : VK) (E : XK), A.guards = some [] → Room k A → Env0 P w K mg base A outer s H → BindsTo s fd args (ps.zip us) → Vals vs us → sp vs H Q E →
    codeAny (model P w) A (.call (.ref f) args) (CR CX0 outer P w H s Q E) s
section
variable {P : Program} {w : World} {K : PySem.W.Frag} {mg : Str → Option Value} {base : Heap} {k : Nat} {f : Addr} {fd : FuncData} {ps : List Str} {sp : Sp}
theorem FnG.of (F : FnOk P w K mg base CX0 k f fd ps sp) : FnG P w K mg base k f fd ps sp := ⟨F.len, fun A outer s H args us vs Q E _ => F.run A outer s H args us vs Q E⟩
theorem fn_g {x qual : Str} {st : Stmt} {N : List Str} {d : DS} (F : Fun K x qual st f fd) (S : FnScope N ps (defScope st))
    (h : ∀ (cdv : Value) (A : Around) (outer : List Env) (s : Shared) (H : Hp) (E : XK), A.guards = some [] → Room k (A.deeper (envOfC qual (defScope st) s.heap.objs.size f cdv)) →
      LSs (cxOf CX0 P w K mg base N qual (defScope st) f cdv A outer s H E).nox EW0 (defBody st) d) : FnG P w K mg base (k + 1) f fd ps (spD P w K ps.length (fnBody ps.length N.length d)) := by
  obtain ⟨oc, od, kV, doc, pm, an, cdv, ct, osl, rfl, look, rec⟩ := F.ex
  refine ⟨fun vs H Q E hq => hq.1, fun A outer s H args us vs Q E quiet room e0 bnd rel want => ?_⟩
  have inK : K.In s.heap := e0.mod.kin.keeps fun b o e => (e0.bs b o e).1
  have noLim : s.heap.NoLimit := e0.mod.nolimit.keeps fun b o e => (e0.bs b o e).1
  have slots : ∀ y ∈ ps.zip us, (defScope st).names.lookup y.1 = some .local ∨ ((defScope st).names.lookup y.1 = some .cell ∧ ((cellsFrom (s.heap.objs.size + 1) (defScope st).names []).lookup y.1).isSome = true) := fun ⟨n, v⟩ hy => by
    rcases S.par n (List.of_mem_zip hy).1 with z | z
    · exact .inl z
    · exact .inr ⟨z, PySem.W.cellsFrom_some _ _ _ (.inl z)⟩
  refine codeAny_call_function room.depth (inK _ _ look) rfl S.co S.gen rfl (PySem.W.codeRec_of inK rec) (bnd _ _ _ _ ?_)
  refine wpAny_newFunctionEnv_cells S.kind slots fun env same s1 begun => ?_
  subst same
  refine ⟨noLim.keeps begun.toInCall.keep, codeAny_func ?_⟩
  have body := h cdv A outer s H E quiet (room.deeper _)
  obtain ⟨ln, ρ, μ, qs, rq, tq, post⟩ := want
  have ln2 : qs.length = ps.length := fnBody_ar.len post
  have enter := REnv.start rq N
  rw [ln2] at enter
  unfold fnBody at post
  rw [if_pos ln2] at post
  have I : Inv (cxOf CX0 P w K mg base N qual (defScope st) f cdv A outer s H E) [] (start N vs) H s1 := inv_start S room.hd e0 ln rel begun
  have back : ∀ {σ2 : L2.St} {H2 : Hp} {v : V} {u : Value} {s2 : Shared}, Inv (cxOf CX0 P w K mg base N qual (defScope st) f cdv A outer s H E) [] σ2 H2 s2 → RelV v u → Q v H2 → CE outer P w H s Q u s2 :=
    fun {σ2 H2 v u s2} J ru qv => ⟨v, H2, J.os, J.bare, J.base, J.hok, ru, qv⟩
  have read : TS' P w K EW0 d { nx := fun _ H2 => Q .non H2, rt := Q } (start N vs) H := by
    refine ⟨ρ, _, μ, enter, tq, (Post.bind post).mono fun x H1 ⟨ρ1, o, μ1, st1, ro, s1, q1⟩ => ?_⟩
    cases ro with
    | nx en => exact q1 ρ1 .non H1 Step.refl .non s1
    | rt r1 => exact q1 ρ1 _ H1 Step.refl r1 s1
    | bk en => exact q1.elim
    | ct en => exact q1.elim
  refine wpAny_mono (body.nox.run [] s1 (start N vs) H _ I read) (fun fl s2 ends => ?_) fun e s2 ends => ends
  cases fl with
  | ret u =>
    obtain ⟨v, σ2, H2, J, ru, qv⟩ := ends
    exact back J ru qv
  | next =>
    obtain ⟨σ2, H2, J, qv⟩ := ends
    exact back (v := V.non) (u := Value.none) J rfl qv
  | brk =>
    obtain ⟨_, _, _, no⟩ := ends
    exact no.elim
  | cont =>
    obtain ⟨_, _, _, no⟩ := ends
    exact no.elim
end
theorem int_vals : ∀ {us : List Value} {l : List Int}, IntsAre us l → Vals (l.map V.int) us
  | _, _, .nil => .nil
  | _, _, .cons i t r => .cons ⟨t, rfl⟩ (int_vals r)
section
variable {X : Cx} {k n : Nat} {f : Addr} {fd : FuncData} {ps : List Str} {F : VF} {x : Str} {p pos : Pos} {e : Expr} {es : List Expr} {ds : DA}
theorem run_g {pins : List (Addr × Obj)} {σ : L2.St} {H : Hp} {s : Shared} {Q : VK} {us : List Value} {vs : List V} (G : FnG X.prog X.w X.K X.mg X.base k f fd ps (spD X.prog X.w X.K n F)) (hF : Ar n F) (quiet : X.A.guards = some []) (hr : Room k X.A) (hb : Binds X.K fd ps [])
    (I : Inv X pins σ H s) (r : Vals vs us) (h : rL X.prog X.w X.K EW0 F vs H Q) : wpAny (model X.prog X.w) X.A (call (.ref f) us) (EP X pins σ Q) X.xe s := by
  have sp : spD X.prog X.w X.K n F vs H Q E0 := by
    have := sp_of hF h (E := E0)
    rwa [List.append_nil] at this
  have hl : (us ++ []).length = ps.length := by rw [List.append_nil, ← r.length]; exact G.len _ _ _ _ sp
  have bd := hb s us I.kIn hl
  rw [List.append_nil] at bd
  refine wpAny_call (codeAny_mono (G.run X.A X.stack s H ⟨us, []⟩ us vs Q E0 quiet hr I.env0 bd r sp) fun fin s2 hq => ?_)
  cases fin with
  | error er => exact pass0 (X := X) pins σ H s er s2 I hq
  | ok fl =>
    cases fl with
    | ret u => exact I.after hq
    | next => exact hq.elim
    | brk => exact hq.elim
    | cont => exact hq.elim
theorem le_callG (G : FnG X.prog X.w X.K X.mg X.base k f fd ps (spD X.prog X.w X.K n F)) (hF : Ar n F) (quiet : X.A.guards = some []) (hr : Room k X.A) (hg : Gl X x) (hm : X.mg x = some (.ref f)) (hk : PySem.W.keepIn X.K (.ref f) = true) (hb : Binds X.K fd ps []) (ha : LA X EW0 (e :: es) ds)
    (hdb : (x == ("__debug__" : Str)) = false := by decide) (he : starEach (e :: es) X.env = (false, eval e X.env) :: starEach es X.env := by rfl) (hpl : (backTo pos (starEach es X.env)).any (·.1) = false := by rfl) :
    LE X EW0 (.Call (.Name x p) (e :: es) [] pos) (dApp F ds) := by
  refine ⟨fun pins s σ H Q I h => ?_⟩
  refine wpAny_Call_Name_kw (ld_glob I hg hm ?_ hdb)
  refine PySem.W.callWith_K (h₀ := X.base) I.ok.mod.kin hk (thn (ha.run pos pins s σ H _ I (app_of h)) fun us s1 ⟨vs, H1, I1, r, q⟩ => ⟨I1.kIn, ?_⟩) he hpl
  exact run_g G hF quiet hr hb I1 r q
end
end DL
namespace DL
open PySem PySem.Spec PyProof.Rows L2
def reprD (μ : Sto) (p : PV) : Option Str := match pdat μ 12 p with
  | some d => if (d.showable && !d.hasDict && decide (d.depth ≤ 16) && decide (d.shown.length ≤ sizeLine)) = true then some d.shown else none
  | none => none
def vRepr : VF := fun xs μ => match xs with
  | [.int i] => if i.natAbs.log2 < 1920 then .ok (.str (toString i : String)) μ else .bad
  | [.str x] => if (reprText x).length ≤ sizeLine then .ok (.str (reprText x)) μ else .bad
  | [.bl b] => .ok (.str (if b = true then Str.ofString "True" else Str.ofString "False")) μ
  | [.non] => .ok (.str (Str.ofString "None")) μ
  | [.tup ps] => match reprD μ (.tup ps) with
    | some z => .ok (.str z) μ
    | none => .bad
  | [.ref i] => match reprD μ (.ref i) with
    | some z => .ok (.str z) μ
    | none => .bad
  | _ => .bad
section
variable {X : Cx} {W : EW}
theorem oc_repr (quiet : X.A.guards = some []) (hu : X.A.units + 40 < cLine) : OC X W (.builtin "repr") vRepr := oc1_of fun pins s σ H xs us Q ρ μ ps I r rp t h => by
  have deep : ∀ {p : PV} {a : Addr}, RV X.K ρ H p (.ref a) → us = [.ref a] → Post X.prog X.w X.K W ρ H (match reprD μ p with | some z => .ok (.str z) μ | none => .bad) (RV X.K) Q → wpAny (model X.prog X.w) X.A (call (.builtin "repr") us) (EP X pins σ Q) X.xe s := fun {p a} rv e h => by
    subst e
    unfold reprD at h
    cases e : pdat μ 12 p with
    | none => rw [e] at h; exact h.elim
    | some d =>
      rw [e] at h
      by_cases c : (d.showable && !d.hasDict && decide (d.depth ≤ 16) && decide (d.shown.length ≤ sizeLine)) = true
      · have h2 : Post X.prog X.w X.K W ρ H (match (if (d.showable && !d.hasDict && decide (d.depth ≤ 16) && decide (d.shown.length ≤ sizeLine)) = true then some d.shown else none) with | some z => .ok (.str z) μ | none => .bad) (RV X.K) Q := h
        rw [if_pos c] at h2
        simp only [Bool.and_eq_true, decide_eq_true_eq, Bool.not_eq_true'] at c
        obtain ⟨⟨⟨c1, c2⟩, c3⟩, c4⟩ := c
        obtain ⟨as, rd⟩ := Dp.reads I _ _ _ (pdat_of t 12 p _ d rv e) rfl
        refine repr_of_reads' rd c1 (fun z => by rw [c2] at z; cases z) quiet (by omega) (fun _ _ e => e) (fun h' u tk k => ?_) c4
        exact ⟨.str d.shown, H, I.kept k, ⟨u, rfl⟩, h2 ρ _ H Step.refl (.str _) t⟩
      · have h2 : Post X.prog X.w X.K W ρ H (match (if (d.showable && !d.hasDict && decide (d.depth ≤ 16) && decide (d.shown.length ≤ sizeLine)) = true then some d.shown else none) with | some z => .ok (.str z) μ | none => .bad) (RV X.K) Q := h
        rw [if_neg c] at h2
        exact h2.elim
  cases rp with
  | nil => exact h.elim
  | @cons p x _ _ r1 r2 =>
    cases r2 with
    | cons _ _ => cases r1 <;> exact h.elim
    | nil =>
      obtain ⟨u, rfl, rx⟩ := vals1 r
      cases r1 with
      | int i =>
        obtain ⟨tk, rfl⟩ : ∃ tk, u = Value.int i tk := rx
        by_cases c : i.natAbs.log2 < 1920
        · have h2 : Post X.prog X.w X.K W ρ H (if i.natAbs.log2 < 1920 then .ok (.str (toString i : String)) μ else .bad) (RV X.K) Q := h
          rw [if_pos c] at h2
          exact P.repr_of_int c ⟨.str _, H, I.tok _, ⟨_, rfl⟩, h2 ρ _ H Step.refl (.str _) t⟩
        · have h2 : Post X.prog X.w X.K W ρ H (if i.natAbs.log2 < 1920 then .ok (.str (toString i : String)) μ else .bad) (RV X.K) Q := h
          rw [if_neg c] at h2
          exact h2.elim
      | str x =>
        obtain ⟨tk, rfl⟩ : ∃ tk, u = Value.str x tk := rx
        by_cases c : (reprText x).length ≤ sizeLine
        · have h2 : Post X.prog X.w X.K W ρ H (if (reprText x).length ≤ sizeLine then .ok (.str (reprText x)) μ else .bad) (RV X.K) Q := h
          rw [if_pos c] at h2
          exact P.repr_of_str ⟨.str _, H, I.tok _, ⟨_, rfl⟩, h2 ρ _ H Step.refl (.str _) t⟩ c
        · have h2 : Post X.prog X.w X.K W ρ H (if (reprText x).length ≤ sizeLine then .ok (.str (reprText x)) μ else .bad) (RV X.K) Q := h
          rw [if_neg c] at h2
          exact h2.elim
      | bl b =>
        obtain rfl : u = Value.bool b := rx
        exact P.repr_of_bool ⟨.str _, H, I.tok _, ⟨_, rfl⟩, h ρ _ H Step.refl (.str _) t⟩
      | non =>
        obtain rfl : u = Value.none := rx
        exact P.repr_of_none ⟨.str _, H, I.tok _, ⟨_, rfl⟩, h ρ _ H Step.refl (.str _) t⟩
      | @tup ps vs a h1 h2 =>
        obtain rfl : u = Value.ref a := rx
        exact deep (p := .tup ps) (.tup h1 h2) rfl h
      | @ref i a ha =>
        obtain rfl : u = Value.ref a := rx
        exact deep (p := .ref i) (.ref ha) rfl h
      | _ => exact h.elim
end
end DL
namespace DL
open PySem PySem.Spec PyProof.Rows L2
section
variable {X : Cx} {W : EW}
theorem gset_of {i : Nat} {js : List Nat} {x : V} {σ : L2.St} {H : Hp} {Q : L2.St → Hp → Prop} (h : TG' X.prog X.w X.K W js (gSet i) x σ H Q) (hi : i ∈ js) : gName i x σ H Q := by
  obtain ⟨ρ, η, μ, p, en, r, s, q⟩ := h
  exact q ρ _ H Step.refl ⟨en.set r i, ⟨by rw [List.length_set], fun j hj => List.getElem?_set_ne fun e => hj (by rw [← e]; exact hi)⟩⟩ s
theorem asgLc_of {i : Nat} {d : DE} {te : TE} {D : L2.Ends} {σ : L2.St} {H : Hp} (hl : ∀ Q, T X.prog X.w X.K W d σ H Q → te σ H Q) (h : TS' X.prog X.w X.K W (sAsg d (gSet i)) D σ H) : tAsg te (gName i) D σ H :=
  hl _ (T.mono (X := X) (W := W) (asg_of (js := [i]) h) fun x H1 hx => gset_of hx (by simp))
theorem ls_setLc {i : Nat} {y : Str} {py : Pos} {elt tg iter : Expr} {ifs : List Expr} {scope : Scope} {own : List (Str × Nat)} {pos spos : Pos} {di : DI} {g : DG} {tt : DT} {d : DE} {js : List Nat} (hc : X.calm = true) (hN : X.N.Nodup) (hy : X.N[i]? = some y) (hyl : X.env.scope.names.lookup y = some .local)
    (hsw : swapsWith (.ListComp elt [⟨tg, iter, ifs, 0⟩] scope pos) (some (.Name y py)) spos.line X.env = pure true) (hi : LI X W tg iter di) (ok : BlkOk X.N X.env.scope scope own)
    (hg : ∀ (s : Shared) (H : Hp) (C : Addr) (cl : List (Str × Addr)) (fp : List Addr), LG (X.blk s H scope (compEnvC scope cl C X.env) fp) EW0 js tg g) (ht : ∀ (s : Shared) (H : Hp) (C : Addr) (cl : List (Str × Addr)) (fp : List Addr), LTs (X.blk s H scope (compEnvC scope cl C X.env) fp) EW0 ifs tt)
    (he : ∀ (s : Shared) (H : Hp) (C : Addr) (cl : List (Str × Addr)) (fp : List Addr), LE (X.blk s H scope (compEnvC scope cl C X.env) fp) EW0 elt d) (hj : ∀ i ∈ js, i ∈ own.map (·.2)) (hs : ∀ x, foldedSetIterable iter X.env x = pure x := by intro _; rfl) :
    LS X W (.Assign [.Name y py] (.ListComp elt [⟨tg, iter, ifs, 0⟩] scope pos) spos) (sAsg (dLc di g tt d (own.map (·.2))) (gSet i)) :=
  (ps_setLc hc hN hy hyl hsw hi ok hg ht he hs).impD fun D σ H h => asgLc_of (fun Q h => lc_of hj h) h
end
theorem room_un {k : Nat} {A : Around} (r : Room k A) (n : Nat) (h : n ≤ 200 := by decide) : A.units + n < cLine := by
  have := r.un
  omega
theorem le_const {X : Cx} {W : EW} {x : Str} {v : V} {pv : PV} {pos : Pos} (hg : Gl X x) (h : ∃ u, X.mg x = some u ∧ RelV v u) (rv : ∀ ρ H, RV X.K ρ H pv v) (hd : (x == ("__debug__" : Str)) = false := by decide) : LE X W (.Name x pos) (dC pv) :=
  let ⟨_, hm, r⟩ := h
  le_glob hg hm r rv hd
/-- list() of a text too -/
def vListB : VF := fun xs μ => match xs with
  | [.str z] => if z.length ≤ sizeLine then .ok (.ref μ.length) (μ ++ [.lst (signs z)]) else .bad
  | _ => vListA xs μ
theorem oc_listB {X : Cx} {W : EW} (hcm : X.calm = true) : OC X W (.type "list") vListB := oc1_of fun pins s σ H xs us Q ρ μ ps I r rp t h => by
  have plain : Post X.prog X.w X.K W ρ H (vListA ps μ) (RV X.K) Q → wpAny (model X.prog X.w) X.A (call (.type "list") us) (EP X pins σ Q) X.xe s := fun h => oc_listA (W := W) hcm pins s σ H _ us Q I r ⟨ρ, μ, ps, rp, t, h⟩
  cases rp with
  | nil => exact h.elim
  | @cons p x _ _ r1 r2 =>
    cases r2 with
    | cons _ _ => cases r1 <;> exact plain h
    | nil =>
      cases r1 with
      | str z =>
        have h2 : Post X.prog X.w X.K W ρ H (if z.length ≤ sizeLine then .ok (.ref μ.length) (μ ++ [.lst (signs z)]) else .bad) (RV X.K) Q := h
        by_cases c : z.length ≤ sizeLine
        · rw [if_pos c] at h2
          obtain ⟨u, rfl, rx⟩ := vals1 r
          obtain ⟨tk, rfl⟩ : ∃ tk, u = Value.str z tk := rx
          refine call_list_str (I.ok.hd hcm) z tk (fun h' tk' acc c' kp e' ha => ?_) c
          have hn : H s.heap.objs.size = none := I.hok.fresh (Nat.le_refl _)
          have hv : Vals (z.cps.toList.map fun c => V.str ⟨#[c]⟩) acc.toList := signs_vals _ _ (by rw [Array.length_toList, Array.length_toList]; exact ha.1) fun j v hj => by
            obtain ⟨c, u, h1, h2⟩ := ha.2 j v (by rw [← Array.getElem?_toList]; exact hj)
            exact ⟨c, u, by rw [Array.getElem?_toList]; exact h1, h2⟩
          refine ⟨.ref s.heap.objs.size, _, I.laid (t' := tk') (o := .lst (z.cps.toList.map fun c => V.str ⟨#[c]⟩)) kp (Nat.le_refl _) ⟨?_, acc.toList, c', hv, ?_⟩, rfl, ok_lst t (signs_rvs _) hn h2⟩
          · rw [List.length_map, Array.length_toList]
            exact c
          · rw [Array.toArray_toList]
            exact e'
        · rw [if_neg c] at h2
          exact h2.elim
      | _ => exact plain h
structure Has (P : Program) (w : World) (K : PySem.W.Frag) (mg : Str → Option Value) (base : Heap) (k : Nat) (f : Addr) (ps : List Str) (F : VF) : Prop where
  ex : ∃ fd, Binds K fd ps [] ∧ FnOk P w K mg base CX0 k f fd ps (spD P w K ps.length F)
  kp : PySem.W.keepIn K (.ref f) = true
  ar : Ar ps.length F
structure HasG (P : Program) (w : World) (K : PySem.W.Frag) (mg : Str → Option Value) (base : Heap) (k : Nat) (f : Addr) (ps : List Str) (F : VF) : Prop where
  ex : ∃ fd, Binds K fd ps [] ∧ FnG P w K mg base k f fd ps (spD P w K ps.length F)
  kp : PySem.W.keepIn K (.ref f) = true
  ar : Ar ps.length F
section
variable {P : Program} {w : World} {K : PySem.W.Frag} {mg : Str → Option Value} {base : Heap} {x qual : Str} {st : Stmt} {f : Addr} {fd : FuncData} {N ps : List Str} {k : Nat} {d : DS} {kws : List (Str × V)}
theorem has_of {np nn : Nat} (hp : ps.length = np) (hn : N.length = nn) (F : ∃ fd, FunD K x qual (defArgs st) (defBody st) (defScope st) [] kws f fd) (S : FnScope N ps (defScope st))
    (hb : ∀ (kV doc pm : Value) (an : Option Addr) (cdv ct : Value) (us : List Value), us.length = ps.length → bindArgs (PySem.W.fnOf x qual (defArgs st) (defBody st) (defScope st) .none kV doc pm an cdv ct) ⟨us, []⟩ = pure (ps.zip us))
    (h : ∀ (cdv : Value) (A : Around) (outer : List Env) (s : Shared) (H : Hp) (E : XK), Room k (A.deeper (envOfC qual (defScope st) s.heap.objs.size f cdv)) →
      LSs (cxOf CX0 P w K mg base N qual (defScope st) f cdv A outer s H E).nox EW0 (defBody st) d) : Has P w K mg base (k + 1) f ps (fnBody np nn d) := by
  subst hp hn
  exact let ⟨fd, F⟩ := F
  ⟨⟨fd, (He5.fun_of F).binds hb, fn_ok (He5.fun_of F) S h⟩, F.kp, fnBody_ar⟩
theorem hasG_of {np nn : Nat} (hp : ps.length = np) (hn : N.length = nn) (F : ∃ fd, FunD K x qual (defArgs st) (defBody st) (defScope st) [] kws f fd) (S : FnScope N ps (defScope st))
    (hb : ∀ (kV doc pm : Value) (an : Option Addr) (cdv ct : Value) (us : List Value), us.length = ps.length → bindArgs (PySem.W.fnOf x qual (defArgs st) (defBody st) (defScope st) .none kV doc pm an cdv ct) ⟨us, []⟩ = pure (ps.zip us))
    (h : ∀ (cdv : Value) (A : Around) (outer : List Env) (s : Shared) (H : Hp) (E : XK), A.guards = some [] → Room k (A.deeper (envOfC qual (defScope st) s.heap.objs.size f cdv)) →
      LSs (cxOf CX0 P w K mg base N qual (defScope st) f cdv A outer s H E).nox EW0 (defBody st) d) : HasG P w K mg base (k + 1) f ps (fnBody np nn d) := by
  subst hp hn
  exact let ⟨fd, F⟩ := F
  ⟨⟨fd, (He5.fun_of F).binds hb, fn_g (He5.fun_of F) S h⟩, F.kp, fnBody_ar⟩
theorem Has.apart {F : VF} (h : Has P w K mg base k f ps F) : Has P w K mg base k f ps (vApart F) :=
  let ⟨⟨fd, b, G⟩, kp, ar⟩ := h
  ⟨⟨fd, b, fn_apart G⟩, kp, apart_ar ar⟩
theorem HasG.apart {F : VF} (h : HasG P w K mg base k f ps F) : HasG P w K mg base k f ps (vApart F) :=
  let ⟨⟨fd, b, G⟩, kp, ar⟩ := h
  ⟨⟨fd, b, ⟨fun vs H Q E h => h.1, fun A outer s H args us vs Q E a b c d e z => G.run A outer s H args us vs Q E a b c d e ⟨z.1, apart_of z.2⟩⟩⟩, kp, apart_ar ar⟩
theorem Has.g {F : VF} (h : Has P w K mg base k f ps F) : HasG P w K mg base k f ps F :=
  let ⟨⟨fd, b, G⟩, kp, ar⟩ := h
  ⟨⟨fd, b, .of G⟩, kp, ar⟩
end
section
variable {X : Cx} {k n : Nat} {f C g p0 : Addr} {ps : List Str} {F : VF} {x m : Str} {p pos apos : Pos} {e o : Expr} {es : List Expr} {ds : DA} {d : DE}
theorem leh_call (h : Has X.prog X.w X.K X.mg X.base k f ps F) (hr : Room k X.A) (hg : Gl X x) (hm : X.mg x = some (.ref f)) (ha : LA X EW0 (e :: es) ds)
    (hdb : (x == ("__debug__" : Str)) = false := by decide) (he : starEach (e :: es) X.env = (false, eval e X.env) :: starEach es X.env := by rfl) (hpl : (backTo pos (starEach es X.env)).any (·.1) = false := by rfl) :
    LE X EW0 (.Call (.Name x p) (e :: es) [] pos) (dApp F ds) :=
  let ⟨⟨_, b, G⟩, kp, ar⟩ := h
  le_call G ar hr hg hm kp b ha hdb he hpl
theorem leh_callG (h : HasG X.prog X.w X.K X.mg X.base k f ps F) (quiet : X.A.guards = some []) (hr : Room k X.A) (hg : Gl X x) (hm : X.mg x = some (.ref f)) (ha : LA X EW0 (e :: es) ds)
    (hdb : (x == ("__debug__" : Str)) = false := by decide) (he : starEach (e :: es) X.env = (false, eval e X.env) :: starEach es X.env := by rfl) (hpl : (backTo pos (starEach es X.env)).any (·.1) = false := by rfl) :
    LE X EW0 (.Call (.Name x p) (e :: es) [] pos) (dApp F ds) :=
  let ⟨⟨_, b, G⟩, kp, ar⟩ := h
  le_callG G ar quiet hr hg hm kp b ha hdb he hpl
theorem leh_meth {pl : Sem Bool} (ho : LE X EW0 o d) (c : Cls X.K C) (hm : Meth X.K C m f) (h : Has X.prog X.w X.K X.mg X.base k f ps F) (hr : Room k X.A) (ha : LA X EW0 (e :: es) ds)
    (hst : starEach (e :: es) X.env = (false, eval e X.env) :: starEach es X.env := by rfl) (hpl : (backTo pos (starEach es X.env)).any (·.1) = false := by rfl)
    (ht : eval (.Call (.Attribute o m apos) (e :: es) [] pos) X.env = (do
      let ov ← eval o X.env
      standAt apos.atName
      let (f, first) ← holding [ov] (getMethod ov m pl)
      callWith pos f first (backTo pos (starEach (e :: es) X.env)) (backToKw pos (keywordEach [] X.env))) := by rfl) : LE X EW0 (.Call (.Attribute o m apos) (e :: es) [] pos) (dMeth C m F d ds) :=
  let ⟨⟨_, b, G⟩, kp, ar⟩ := h
  le_meth ho c hm G ar hr b ha hst hpl ht
theorem leh_make0 (M : Mk X.K C f) (h : Has X.prog X.w X.K X.mg X.base k f ps F) (hr : Room (k + 1) X.A) (hg : Gl X x) (hm : X.mg x = some (.ref C)) (hdb : (x == ("__debug__" : Str)) = false := by decide) : LE X EW0 (.Call (.Name x p) [] [] pos) (dApp (vMake C F) dNil) :=
  let ⟨⟨_, b, G⟩, kp, ar⟩ := h
  le_make0 M G ar hr hg hm b hdb
theorem leh_prop (ho : LE X EW0 e d) (c : Cls X.K C) (hp : PropOf X.K C m p0 g) (h : Has X.prog X.w X.K X.mg X.base k g ps F) (hr : Room (k + 1) X.A)
    (hab : attributeBase e m X.env (eval e X.env) = eval e X.env := by rfl) : LE X EW0 (.Attribute e m pos) (dApp (vProp C F) (dCons d dNil)) :=
  let ⟨⟨_, b, G⟩, kp, ar⟩ := h
  le_prop ho c hp G ar hr b hab
end
abbrev ExL := List (PySem.W.Frag → Bool)
def obsM (ex : ExL) (fn : List He5.DefA) (K : PySem.W.Frag) : He.AlD := ((ex.all fun e => e K) && fn.all fun d => d.ok K, fn.map fun d => He5.fnA K (d.at_ K))
def valM (fn : List He5.DefA) : He.AlD := (true, fn.map He5.DefA.val)
def SaysM (ex : ExL) (fn : List He5.DefA) (K : PySem.W.Frag) : Prop := obsM ex fn K = valM fn
/-- the same, lists left out: the script's list is none of them -/
def notLst (q : Addr × Obj) : Bool := match q.2.cls with
  | .type c => !decide (c = "list")
  | _ => true
def frN_ (g : Addr → Option Obj) (as : List Addr) : PySem.W.Frag := (He.frG g as).filter notLst
theorem frN_mem {g : Addr → Option Obj} {as : List Addr} {a : Addr} {o : Obj} (h : (frN_ g as).lookup a = some o) : g a = some o ∧ notLst (a, o) = true := by
  obtain ⟨h1, h2⟩ := List.mem_filter.mp (He.lookup_mem h)
  exact ⟨He.frG_mem h1, h2⟩
def NoLst (K : PySem.W.Frag) : Prop := ∀ a o, K.lookup a = some o → o.cls ≠ .type "list"
theorem noLst_of {g : Addr → Option Obj} {as : List Addr} : NoLst (frN_ g as) := fun a o h e => by
  have h2 := (frN_mem h).2
  unfold notLst at h2
  rw [show ((a, o) : Addr × Obj).2.cls = Value.type "list" from e] at h2
  simp at h2
section
variable {ex : ExL} {fn : List He5.DefA} {K : PySem.W.Frag}
theorem SaysM.ok (c : SaysM ex fn K) (i : Nat) {f : PySem.W.Frag → Bool} (h : ex[i]? = some f) : f K = true := by
  have c1 := (He.ba (show ((ex.all fun e => e K) && fn.all fun d => d.ok K) = true from congrArg (fun z : He.AlD => z.1) c)).1
  exact List.all_eq_true.mp c1 f (List.mem_of_getElem? h)
theorem SaysM.def_ (c : SaysM ex fn K) (i : Nat) {d : He5.DefA} (h : fn[i]? = some d) : ∃ fd, L2.FunD K d.name d.qual d.params d.body d.scope (d.dvs K) (d.kws K) (d.at_ K) fd :=
  He5.SaysA.def_ (fa := []) (fn := fn) (by
    have c1 := (He.ba (show ((ex.all fun e => e K) && fn.all fun d => d.ok K) = true from congrArg (fun z : He.AlD => z.1) c)).2
    have c2 : fn.map (fun d => He5.fnA K (d.at_ K)) = fn.map He5.DefA.val := congrArg (fun z : He.AlD => z.2) c
    show He5.obsA [] fn K = He5.valA fn
    exact Prod.ext (by show (true && fn.all fun d => d.ok K) = true; rw [c1]; rfl) c2) i h
end
/-- a property's getter -/
def getterOf (K : PySem.W.Frag) (C : Addr) (m : Str) : Addr := match PySem.W.recIn K (He.ma K C m) "property" with
  | some (.ref g :: _) => g
  | _ => 0
def propB (C : Addr) (m : Str) (K : PySem.W.Frag) : Bool := He.eqO (PySem.W.findIn K (.ref C) m) (some (some (.ref (He.ma K C m)))) && (He.eqO (PySem.W.specialIn K (.ref (He.ma K C m)) "__get__") (some (some (.builtin "property.__get__"))) &&
  (decide (PySem.W.takesIn K (.ref (He.ma K C m)) = some true) && (match PySem.W.recIn K (He.ma K C m) "property" with
    | some (.ref _ :: _) => true
    | _ => false)))
theorem propB_ok {C : Addr} {m : Str} {K : PySem.W.Frag} (h : propB C m K = true) : PropOf K C m (He.ma K C m) (getterOf K C m) := by
  obtain ⟨h1, h⟩ := He.ba h
  obtain ⟨h2, h⟩ := He.ba h
  obtain ⟨h3, h4⟩ := He.ba h
  refine ⟨He.eqO_ok h1, He.eqO_ok h2, of_decide_eq_true h3, ?_⟩
  unfold getterOf
  split at h4
  · rename_i g r e
    exact ⟨r, by rw [e]⟩
  · cases h4
def clsB (C : Addr) (K : PySem.W.Frag) : Bool := PySem.W.plainGet K C Str.empty && (PySem.W.hasDictIn K C && (PySem.W.plainOver K C && He.eqO (PySem.W.findIn K (.ref C) "__setattr__") (some (some (.builtin "object.__setattr__")))))
theorem clsB_ok {C : Addr} {K : PySem.W.Frag} (c : clsB C K = true) : Cls K C := by
  obtain ⟨c1, c⟩ := He.ba c
  obtain ⟨c2, c⟩ := He.ba c
  obtain ⟨c3, c4⟩ := He.ba c
  exact ⟨c1, c2, c3, He.eqO_ok c4⟩
def noatB (C : Addr) (f : Str) (K : PySem.W.Frag) : Bool := He.eqO (PySem.W.findIn K (.ref C) f) (some none)
theorem noatB_ok {C : Addr} {f : Str} {K : PySem.W.Frag} (c : noatB C f K = true) : NoAttr K C f := He.eqO_ok c
def methB (C : Addr) (m : Str) (K : PySem.W.Frag) : Bool := He.eqO (PySem.W.findIn K (.ref C) m) (some (some (.ref (He.ma K C m)))) && (PySem.W.isFn K (.ref (He.ma K C m)) && PySem.W.keepIn K (.ref (He.ma K C m)))
theorem methB_ok {C : Addr} {m : Str} {K : PySem.W.Frag} (c : methB C m K = true) : Meth K C m (He.ma K C m) := by
  obtain ⟨c1, c⟩ := He.ba c
  obtain ⟨c2, c3⟩ := He.ba c
  exact ⟨He.eqO_ok c1, c2, c3⟩
def mkB (C : Addr) (K : PySem.W.Frag) : Bool := PySem.W.makesIn K C && (He.eqO (PySem.W.findIn K (.ref C) "__init__") (some (some (.ref (He.ma K C "__init__")))) && (PySem.W.isFn K (.ref (He.ma K C "__init__")) && PySem.W.keepIn K (.ref C)))
theorem mkB_ok {C : Addr} {K : PySem.W.Frag} (c : mkB C K = true) : Mk K C (He.ma K C "__init__") := by
  obtain ⟨c1, c⟩ := He.ba c
  obtain ⟨c2, c⟩ := He.ba c
  obtain ⟨c3, c4⟩ := He.ba c
  exact ⟨c1, He.eqO_ok c2, c3, c4⟩
/-- the module's name x stands for the object at a -/
def gloB (x : Str) (a : Addr) (K : PySem.W.Frag) : Bool := He.eqO (PySem.W.nsIn K mainGlobals x) (some (some (.ref a)))
theorem gloB_ok {K : PySem.W.Frag} {h : Heap} {mg : Str → Option Value} (X : K.In h) (G : h.Ns mainGlobals mg) {x : Str} {a : Addr} (c : gloB x a K = true) : mg x = some (.ref a) := PySem.W.mg_of X G (He.eqO_ok c)
def faB (f : He.Fa) (K : PySem.W.Frag) : Bool := f.ok K
end DL
namespace DL
open PySem PySem.Spec PyProof.Rows L2
section
variable {α β : Type}
noncomputable def frN (n : Nat) (k : Nat → β) : β := match n with
  | 0 => k 0
  | m + 1 => k (Nat.succ m)
theorem frN_eq (n : Nat) (k : Nat → β) : frN n k = k n := by cases n <;> rfl
noncomputable def frI (i : Int) (k : Int → β) : β := match i with
  | .ofNat n => frN n fun m => k (.ofNat m)
  | .negSucc n => frN n fun m => k (.negSucc m)
theorem frI_eq (i : Int) (k : Int → β) : frI i k = k i := by cases i <;> simp only [frI, frN_eq]
noncomputable def frL (xs : List α) : (List α → β) → β := List.rec (motive := fun _ => (List α → β) → β) (fun k => k []) (fun x _ ih k => ih fun ys => k (x :: ys)) xs
theorem frL_eq : ∀ (xs : List α) (k : List α → β), frL xs k = k xs
  | [], _ => rfl
  | x :: xs, k => (frL_eq xs fun ys => k (x :: ys))
noncomputable def frLf (f : α → (α → β) → β) (xs : List α) : (List α → β) → β := List.rec (motive := fun _ => (List α → β) → β) (fun k => k []) (fun x _ ih k => f x fun y => ih fun ys => k (y :: ys)) xs
theorem frLf_eq {f : α → (α → β) → β} (h : ∀ x k, f x k = k x) : ∀ (xs : List α) (k : List α → β), frLf f xs k = k xs
  | [], _ => rfl
  | x :: xs, k => (h x fun y => frLf f xs fun ys => k (y :: ys)).trans (frLf_eq h xs fun ys => k (x :: ys))
noncomputable def frS (x : Str) (k : Str → β) : β := frLf frN x.cps.toList fun l => k ⟨⟨l⟩⟩
theorem frS_eq (x : Str) (k : Str → β) : frS x k = k x := by
  unfold frS
  rw [frLf_eq frN_eq]
noncomputable def fr1 (p : PV) (k : PV → β) : β := match p with
  | .int i => frI i fun j => k (.int j)
  | .str x => frS x fun y => k (.str y)
  | .tup ps => frL ps fun qs => k (.tup qs)
  | .ref i => frN i fun j => k (.ref j)
  | p => k p
theorem fr1_eq (p : PV) (k : PV → β) : fr1 p k = k p := by
  cases p <;> simp only [fr1, frI_eq, frS_eq, frL_eq, frN_eq]
noncomputable def frP : Nat → PV → (PV → β) → β
  | 0, p, k => fr1 p k
  | n + 1, p, k => match p with
    | .tup ps => frLf (frP n) ps fun qs => k (.tup qs)
    | p => fr1 p k
theorem frP_eq : ∀ (n : Nat) (p : PV) (k : PV → β), frP n p k = k p
  | 0, p, k => fr1_eq p k
  | n + 1, p, k => by
    cases p <;> simp only [frP, frLf_eq (frP_eq n), fr1_eq]
/-- an object: its spine, its items -/
noncomputable def frO (o : MObj) (k : MObj → β) : β := match o with
  | .lst ps => frLf fr1 ps fun qs => k (.lst qs)
  | .rol ps => k (.rol ps)
  | .dct kvs => frLf (fun q k => fr1 q.1 fun a => fr1 q.2 fun b => k (a, b)) kvs fun l => k (.dct l)
  | .ins C fs => frLf (fun q k => fr1 q.2 fun b => k (q.1, b)) fs fun l => k (.ins C l)
theorem frO_eq (o : MObj) (k : MObj → β) : frO o k = k o := by
  cases o with
  | lst ps => simp only [frO, frLf_eq fr1_eq]
  | rol ps => rfl
  | dct kvs =>
    have e : ∀ (q : PV × PV) (k : PV × PV → β), (fr1 q.1 fun a => fr1 q.2 fun b => k (a, b)) = k q := fun q k => by rw [fr1_eq, fr1_eq]
    simp only [frO, frLf_eq e]
  | ins C fs =>
    have e : ∀ (q : Str × PV) (k : Str × PV → β), (fr1 q.2 fun b => k (q.1, b)) = k q := fun q k => by rw [fr1_eq]
    simp only [frO, frLf_eq e]
/-- the object at i, and the way to it -/
noncomputable def frAt (n : Nat) (μ : Sto) (k : Sto → β) : β := List.rec (motive := fun _ => Nat → (Sto → β) → β) (fun _ k => k []) (fun o r ih n k => Nat.rec (motive := fun _ => β) (frO o fun o' => k (o' :: r)) (fun m _ => ih m fun μ' => k (o :: μ')) n) μ n k
theorem frAt_eq : ∀ (n : Nat) (μ : Sto) (k : Sto → β), frAt n μ k = k μ
  | 0, [], _ => rfl
  | _ + 1, [], _ => rfl
  | 0, o :: μ, k => frO_eq o fun o' => k (o' :: μ)
  | n + 1, o :: μ, k => frAt_eq n μ fun μ' => k (o :: μ')
noncomputable def frR (p : PV) (μ : Sto) : Rz PV := match p with
  | .ref i => frN i fun j => frAt j μ fun μ' => .ok (.ref j) μ'
  | p => fr1 p fun q => .ok q μ
theorem frR_eq (p : PV) (μ : Sto) : frR p μ = .ok p μ := by
  cases p <;> simp only [frR, frAt_eq, fr1_eq, frN_eq]
end
/-- what comes back is reckoned -/
noncomputable def fres (f : VF) : VF := fun xs μ => match f xs μ with
  | .ok p μ' => frR p μ'
  | .err C v μ' => .err C v μ'
  | .bad => .bad
theorem fres_eq (f : VF) : fres f = f := by
  funext xs μ
  unfold fres
  cases f xs μ with
  | ok p μ' => exact frR_eq p μ'
  | _ => rfl
/-- what was changed is reckoned: the first one -/
noncomputable def fmut (f : VF) : VF := fun xs μ => match f xs μ with
  | .ok p μ' => match xs with
    | .ref i :: _ => frAt i μ' fun μ'' => fr1 p fun q => .ok q μ''
    | _ => .ok p μ'
  | .err C v μ' => .err C v μ'
  | .bad => .bad
theorem fmut_eq (f : VF) : fmut f = f := by
  funext xs μ
  unfold fmut
  cases f xs μ with
  | ok p μ' =>
    show (match xs with | .ref i :: _ => frAt i μ' fun μ'' => fr1 p fun q => Rz.ok q μ'' | _ => Rz.ok p μ') = _
    split
    · rw [frAt_eq, fr1_eq]
    · rfl
  | _ => rfl
noncomputable def dres (d : DE) : DE := fun η μ => match d η μ with
  | .ok p μ' => frR p μ'
  | .err C v μ' => .err C v μ'
  | .bad => .bad
theorem dres_eq (d : DE) : dres d = d := by
  funext η μ
  unfold dres
  cases d η μ with
  | ok p μ' => exact frR_eq p μ'
  | _ => rfl
noncomputable def eqN (a : List Nat) : List Nat → Bool := List.rec (motive := fun _ => List Nat → Bool) (fun b => List.rec (motive := fun _ => Bool) true (fun _ _ _ => false) b)
  (fun x _ ih b => List.rec (motive := fun _ => Bool) false (fun y ys _ => Bool.rec (motive := fun _ => Bool) false (ih ys) (Nat.beq x y)) b) a
theorem eqN_iff : ∀ {a b : List Nat}, eqN a b = true ↔ a = b
  | [], [] => ⟨fun _ => rfl, fun _ => rfl⟩
  | [], _ :: _ => ⟨fun h => (by cases h), fun h => (by cases h)⟩
  | _ :: _, [] => ⟨fun h => (by cases h), fun h => (by cases h)⟩
  | x :: xs, y :: ys => by
    show (Bool.rec (motive := fun _ => Bool) false (eqN xs ys) (Nat.beq x y) : Bool) = true ↔ _
    cases e : Nat.beq x y with
    | true =>
      have e2 := Nat.eq_of_beq_eq_true e
      subst e2
      show eqN xs ys = true ↔ _
      rw [eqN_iff]
      simp
    | false =>
      have e2 := Nat.ne_of_beq_eq_false e
      refine ⟨fun h => (by cases h), fun h => ?_⟩
      injection h with h1 h2
      exact absurd h1 e2
noncomputable def eqS (x y : Str) : Bool := eqN x.cps.toList y.cps.toList
theorem eqS_iff {x y : Str} : eqS x y = true ↔ x = y := by
  unfold eqS
  rw [eqN_iff]
  obtain ⟨⟨a⟩⟩ := x
  obtain ⟨⟨b⟩⟩ := y
  simp
theorem eqS_eq (x y : Str) : eqS x y = (x == y) := Bool.eq_iff_iff.mpr (eqS_iff.trans beq_iff_eq.symm)
noncomputable def okN (l : List Nat) : Bool := List.rec (motive := fun _ => Bool) true (fun c _ ih => Bool.rec (motive := fun _ => Bool) ih false (Nat.ble 0x110000 c)) l
theorem okN_eq : ∀ l : List Nat, okN l = l.all (· < 0x110000)
  | [] => rfl
  | c :: r => by
    show (Bool.rec (motive := fun _ => Bool) (okN r) false (Nat.ble 0x110000 c) : Bool) = _
    cases e : Nat.ble 0x110000 c with
    | true =>
      have := Nat.le_of_ble_eq_true e
      simp [List.all_cons, show ¬ c < 0x110000 by omega]
    | false =>
      have : ¬ 0x110000 ≤ c := fun h => by rw [Nat.ble_eq_true_of_le h] at e; cases e
      simp only [List.all_cons, okN_eq r]
      simp [show c < 0x110000 by omega]
noncomputable def okS (x : Str) : Bool := okN x.cps.toList
theorem okS_eq (x : Str) : okS x = PyData.strOk x := by
  unfold okS PyData.strOk
  rw [okN_eq]
  simp
theorem shaped_str (x : Str) : SeqAt.shaped (.str x) = okS x := by
  rw [okS_eq]
  simp [SeqAt.shaped, PyData.canLay0, PyData.depth]
noncomputable def vEqF : VF := fun xs μ => match xs with
  | [.str a, .str b] => if (okS a && okS b) = true then .ok (.bl (eqS a b)) μ else .bad
  | [.int i, .int j] => .ok (.bl (decide (i = j))) μ
  | xs => vEqA xs μ
noncomputable def vNeF : VF := fun xs μ => match xs with
  | [.str a, .str b] => if (okS a && okS b) = true then .ok (.bl (!eqS a b)) μ else .bad
  | [.int i, .int j] => .ok (.bl (!decide (i = j))) μ
  | xs => vNeA xs μ
theorem vEqF_eq : vEqF = vEqA := by
  funext xs μ
  unfold vEqF
  split
  · rename_i a b
    show _ = (match pdat μ 12 (.str a), pdat μ 12 (.str b) with | some d, some e => if (SeqAt.shaped d && SeqAt.shaped e) = true then Rz.ok (PV.bl (PyData.eqv d e)) μ else .bad | _, _ => .bad)
    rw [pdat, pdat]
    simp only [shaped_str, eqS_eq, PyData.eqv]
  · rename_i i j
    show _ = (match pdat μ 12 (.int i), pdat μ 12 (.int j) with | some d, some e => if (SeqAt.shaped d && SeqAt.shaped e) = true then Rz.ok (PV.bl (PyData.eqv d e)) μ else .bad | _, _ => .bad)
    rw [pdat, pdat]
    simp [SeqAt.shaped, PyData.canLay0, PyData.depth, PyData.eqv]
    rw [Bool.eq_iff_iff]
    simp
  · rfl
theorem vNeF_eq : vNeF = vNeA := by
  funext xs μ
  unfold vNeF
  split
  · rename_i a b
    show _ = (match pdat μ 12 (.str a), pdat μ 12 (.str b) with | some d, some e => if (SeqAt.shaped d && SeqAt.shaped e) = true then Rz.ok (PV.bl (!PyData.eqv d e)) μ else .bad | _, _ => .bad)
    rw [pdat, pdat]
    simp only [shaped_str, eqS_eq, PyData.eqv]
  · rename_i i j
    show _ = (match pdat μ 12 (.int i), pdat μ 12 (.int j) with | some d, some e => if (SeqAt.shaped d && SeqAt.shaped e) = true then Rz.ok (PV.bl (!PyData.eqv d e)) μ else .bad | _, _ => .bad)
    rw [pdat, pdat]
    simp [SeqAt.shaped, PyData.canLay0, PyData.depth, PyData.eqv]
    rw [Bool.eq_iff_iff]
    simp
  · rfl
noncomputable def eqK (a b : PV) : Bool := match a, b with
  | .str x, .str y => eqS x y
  | .int i, .int j => decide (i = j)
  | .tup [.str x, .str x'], .tup [.str y, .str y'] => match eqS x y with
    | true => eqS x' y'
    | false => false
  | a, b => decide (a = b)
theorem eqK_eq (a b : PV) : eqK a b = decide (a = b) := by
  unfold eqK
  split
  · rename_i x y
    rw [Bool.eq_iff_iff, eqS_iff, decide_eq_true_eq]
    exact ⟨fun h => by rw [h], fun h => by injection h⟩
  · rename_i i j
    rw [Bool.eq_iff_iff, decide_eq_true_eq, decide_eq_true_eq]
    exact ⟨fun h => by rw [h], fun h => by injection h⟩
  · rename_i x x' y y'
    have e : (match eqS x y with | true => eqS x' y' | false => false) = (eqS x y && eqS x' y') := by cases eqS x y <;> rfl
    rw [e, Bool.eq_iff_iff, Bool.and_eq_true, eqS_iff, eqS_iff, decide_eq_true_eq]
    refine ⟨fun h => by rw [h.1, h.2], fun h => ?_⟩
    injection h with h
    injection h with h1 h2
    injection h2 with h2 _
    injection h1 with h1
    injection h2 with h2
    exact ⟨h1, h2⟩
  · rfl
noncomputable def dgetF (kvs : List (PV × PV)) (k : PV) : Option PV := List.rec (motive := fun _ => Option PV) none (fun q _ ih => Bool.rec (motive := fun _ => Option PV) ih (some q.2) (eqK q.1 k)) kvs
theorem dgetF_eq : ∀ (kvs : List (PV × PV)) (k : PV), dgetF kvs k = dget kvs k
  | [], _ => rfl
  | q :: r, k => by
    show (Bool.rec (motive := fun _ => Option PV) (dgetF r k) (some q.2) (eqK q.1 k) : Option PV) = _
    rw [eqK_eq]
    unfold dget
    rw [List.find?_cons]
    cases decide (q.1 = k) with
    | true => rfl
    | false => exact dgetF_eq r k
noncomputable def vIxF : VF := fun xs μ => match xs with
  | [.ref i, k] => match dctAt μ i with
    | some kvs => if keyIn kvs k = true then match dgetF kvs k with
        | some v => .ok v μ
        | none => .bad
      else .bad
    | none => vItem [.ref i, k] μ
  | xs => vIx xs μ
theorem vIxF_eq : vIxF = vIx := by
  funext xs μ
  unfold vIxF
  split
  · simp only [dgetF_eq]
    try rfl
  · rfl
noncomputable def vDGetF : VF := fun xs μ => match xs with
  | [.ref i, k, x] => match dctAt μ i with
    | some kvs => if keyIn kvs k = true then .ok ((dgetF kvs k).getD x) μ else .bad
    | none => .bad
  | xs => vDGet xs μ
theorem vDGetF_eq : vDGetF = vDGet := by
  funext xs μ
  unfold vDGetF
  split
  · simp only [dgetF_eq]
    try rfl
  · rfl
noncomputable def memS (x : Str) (l : List Str) : Bool := List.rec (motive := fun _ => Bool) false (fun y _ ih => Bool.rec (motive := fun _ => Bool) ih true (eqS y x)) l
noncomputable def okSs (l : List Str) : Bool := List.rec (motive := fun _ => Bool) true (fun y _ ih => Bool.rec (motive := fun _ => Bool) false ih (okS y)) l
theorem memS_eq (x : Str) : ∀ l : List Str, memS x l = (l.map PyData.str).any fun z => PyData.eqv z (.str x)
  | [] => rfl
  | y :: r => by
    show (Bool.rec (motive := fun _ => Bool) (memS x r) true (eqS y x) : Bool) = _
    rw [List.map_cons, List.any_cons, memS_eq x r, eqS_eq]
    simp only [PyData.eqv]
    cases (y == x) <;> rfl
theorem strsL_pdat {μ : Sto} {n : Nat} : ∀ {ps : List PV} {ys : List Str}, strsL ps = some ys → pdatL (pdat μ (n + 1)) ps = some (ys.map PyData.str)
  | [], _, h => by cases h; rfl
  | p :: ps, ys, h => by
    cases p with
    | str x =>
      obtain ⟨zs, e, rfl⟩ := Option.map_eq_some_iff.mp (show (strsL ps).map (x :: ·) = some ys from h)
      rw [pdatL, strsL_pdat (n := n) e]
      rfl
    | _ => cases h
theorem canLay_strs : ∀ ys : List Str, PyData.canLayAll0 (ys.map PyData.str) = okSs ys
  | [] => rfl
  | y :: r => by
    show _ = (Bool.rec (motive := fun _ => Bool) false (okSs r) (okS y) : Bool)
    rw [List.map_cons, PyData.canLayAll0, canLay_strs r, PyData.canLay0, okS_eq]
    cases PyData.strOk y <;> rfl
theorem depth_strs : ∀ ys : List Str, PyData.depthAll (ys.map PyData.str) = 0
  | [] => rfl
  | y :: r => by
    rw [List.map_cons, PyData.depthAll, depth_strs r, PyData.depth]
    rfl
noncomputable def inF (μ : Sto) (p c : PV) : Option Bool := match c with
  | .tup ps => match p with
    | .str x => match strsL ps with
      | some ys => if (okS x && okSs ys) = true then some (memS x ys) else none
      | none => isIn μ p (.tup ps)
    | p => isIn μ p (.tup ps)
  | .ref i => match dctAt μ i with
    | some kvs => if keyIn kvs p = true then some (dgetF kvs p).isSome else none
    | none => inSeq μ p (.ref i)
  | c => isIn μ p c
theorem inF_eq (μ : Sto) (p c : PV) : inF μ p c = isIn μ p c := by
  unfold inF
  split
  · rename_i ps
    split
    · rename_i x
      split
      · rename_i ys e
        show _ = (match pdat μ 12 (.str x), pdat μ 12 (.tup ps) with
          | some d, some (.list ds) => if (SeqAt.shaped d && SeqAt.shaped (.list ds)) = true then some (ds.any fun z => PyData.eqv z d) else none
          | some d, some (.tuple ds) => if (SeqAt.shaped d && SeqAt.shaped (.tuple ds)) = true then some (ds.any fun z => PyData.eqv z d) else none
          | _, _ => none)
        have e1 : pdat μ 12 (.tup ps) = some (.tuple (ys.map PyData.str)) := by
          show (pdatL (pdat μ 11) ps).map PyData.tuple = _
          rw [strsL_pdat (n := 10) e]
          rfl
        have e2 : pdat μ 12 (.str x) = some (.str x) := rfl
        rw [e1, e2]
        have e3 : SeqAt.shaped (.tuple (ys.map PyData.str)) = okSs ys := by
          simp [SeqAt.shaped, PyData.canLay0, PyData.depth, canLay_strs, depth_strs]
        show _ = (if (SeqAt.shaped (.str x) && SeqAt.shaped (.tuple (ys.map PyData.str))) = true then some ((ys.map PyData.str).any fun z => PyData.eqv z (.str x)) else none)
        rw [e3, shaped_str, memS_eq]
      · rfl
    · rfl
  · rename_i i
    simp only [dgetF_eq]
    try rfl
  · rfl
noncomputable def vInF : VF := fun xs μ => match xs with
  | [p, c] => match inF μ p c with
    | some b => .ok (.bl b) μ
    | none => .bad
  | _ => .bad
noncomputable def vNotInF : VF := fun xs μ => match xs with
  | [p, c] => match inF μ p c with
    | some b => .ok (.bl (!b)) μ
    | none => .bad
  | _ => .bad
theorem vInF_eq : vInF = vIn := by
  funext xs μ
  unfold vInF
  simp only [inF_eq]
  try rfl
theorem vNotInF_eq : vNotInF = vNotIn := by
  funext xs μ
  unfold vNotInF
  simp only [inF_eq]
  try rfl
theorem pdatL_bare {f g : PV → Option PyData} (h : ∀ p, bareP p = true → f p = g p) : ∀ {ps : List PV}, bareL ps = true → pdatL f ps = pdatL g ps
  | [], _ => rfl
  | p :: ps, hb => by
    rw [bareL, Bool.and_eq_true] at hb
    rw [pdatL, pdatL, h p hb.1, pdatL_bare h hb.2]
theorem pdat_bare {μ : Sto} : ∀ (n : Nat) (p : PV), bareP p = true → pdat μ n p = pdat [] n p
  | 0, p, _ => by cases p <;> rfl
  | n + 1, p, h => by
    cases p with
    | tup ps =>
      rw [bareP] at h
      show (pdatL (pdat μ n) ps).map PyData.tuple = (pdatL (pdat [] n) ps).map PyData.tuple
      rw [pdatL_bare (fun p hp => pdat_bare n p hp) h]
    | ref i => cases h
    | _ => rfl
noncomputable def vReprF : VF := fun xs μ => match xs with
  | [.tup ps] => if bareL ps = true then frP 6 (.tup ps) fun q => match reprD [] q with
      | some z => frS z fun z => .ok (.str z) μ
      | none => .bad
    else vRepr [.tup ps] μ
  | xs => vRepr xs μ
theorem vReprF_eq : vReprF = vRepr := by
  funext xs μ
  unfold vReprF
  split
  · rename_i ps
    split
    · rename_i h
      rw [frP_eq]
      simp only [frS_eq]
      show _ = (match reprD μ (.tup ps) with | some z => Rz.ok (PV.str z) μ | none => .bad)
      unfold reprD
      rw [pdat_bare (μ := μ) 12 (.tup ps) (by rw [bareP]; exact h)]
    · rfl
  · rfl
noncomputable def dConsF (d : DE) (ds : DA) : DA := fun η μ => (d η μ).bind fun p μ1 => fr1 p fun p' => (ds η μ1).bind fun ps μ2 => .ok (p' :: ps) μ2
theorem dConsF_eq : dConsF = dCons := by
  funext d ds η μ
  unfold dConsF dCons
  simp only [fr1_eq]
noncomputable def nth {α : Type} (l : List α) : Nat → Option α := List.rec (motive := fun _ => Nat → Option α) (fun _ => none) (fun x _ ih n => Nat.rec (motive := fun _ => Option α) (some x) (fun m _ => ih m) n) l
theorem nth_eq {α : Type} : ∀ (l : List α) (n : Nat), nth l n = l[n]?
  | [], _ => rfl
  | x :: xs, 0 => rfl
  | x :: xs, m + 1 => nth_eq xs m
noncomputable def dVarF (i : Nat) : DE := fun η μ => match nth η i with
  | some (some p) => .ok p μ
  | _ => .bad
theorem dVarF_eq : dVarF = dVar := by
  funext i η μ
  unfold dVarF dVar
  rw [nth_eq]
  try rfl
noncomputable def sSeqF (a b : DS) : DS := fun η μ => (a η μ).bind fun o μ1 => match o.1 with
  | .nx => frL o.2 fun η' => b η' μ1
  | _ => .ok o μ1
theorem sSeqF_eq : sSeqF = sSeq := by
  funext a b η μ
  unfold sSeqF sSeq
  simp only [frL_eq]
  try rfl
noncomputable def sRetF (d : DE) : DS := fun η μ => (d η μ).bind fun p μ1 => fr1 p fun q => .ok (.rt q, η) μ1
theorem sRetF_eq : sRetF = sRet := by
  funext d η μ
  unfold sRetF sRet
  simp only [fr1_eq]
noncomputable def sAsgF (d : DE) (g : DG) : DS := fun η μ => (d η μ).bind fun p μ1 => fr1 p fun q => (g q η μ1).bind fun η' μ2 => .ok (.nx, η') μ2
theorem sAsgF_eq : sAsgF = sAsg := by
  funext d g η μ
  unfold sAsgF sAsg
  simp only [fr1_eq]
noncomputable def forGoF (gd : Sto → Bool) (g : DG) (body : DS) (its : List PV) : Env' → Sto → Rz (Out × Env') := List.rec (motive := fun _ => Env' → Sto → Rz (Out × Env')) (fun η μ => if gd μ = true then .ok (.nx, η) μ else .bad)
  (fun p _ ih η μ => if gd μ = true then fr1 p fun p => (g p η μ).bind fun η1 μ1 => frL η1 fun η1 => (body η1 μ1).bind fun o μ2 => match o.1 with
      | .nx => frL o.2 fun η3 => ih η3 μ2
      | .ct => frL o.2 fun η3 => ih η3 μ2
      | .bk => .ok (.nx, o.2) μ2
      | .rt v => .ok (.rt v, o.2) μ2
    else .bad) its
theorem forGoF_eq (gd : Sto → Bool) (g : DG) (body : DS) : ∀ (its : List PV) (η : Env') (μ : Sto), forGoF gd g body its η μ = forGo gd g body its η μ
  | [], η, μ => rfl
  | p :: rest, η, μ => by
    have ih := forGoF_eq gd g body rest
    show (if gd μ = true then fr1 p fun p => (g p η μ).bind fun η1 μ1 => frL η1 fun η1 => (body η1 μ1).bind fun o μ2 => match o.1 with
      | .nx => frL o.2 fun η3 => forGoF gd g body rest η3 μ2
      | .ct => frL o.2 fun η3 => forGoF gd g body rest η3 μ2
      | .bk => .ok (.nx, o.2) μ2
      | .rt v => .ok (.rt v, o.2) μ2
    else .bad) = _
    unfold forGo
    simp only [fr1_eq, frL_eq, ih]
    try rfl
noncomputable def sForF (di : DI) (g : DG) (body : DS) : DS := fun η μ => (di η μ).bind fun x μ1 => forGoF x.2 g body x.1 η μ1
theorem sForF_eq : sForF = sFor := by
  funext di g body η μ
  unfold sForF sFor
  simp only [forGoF_eq]
noncomputable def lcGoF (gd : Sto → Bool) (g : DG) (tt : DT) (el : Env' → Sto → List PV → Rz (List PV)) (η : Env') (its : List PV) : List PV → Sto → Rz (List PV) := List.rec (motive := fun _ => List PV → Sto → Rz (List PV)) (fun acc μ => if gd μ = true then .ok acc μ else .bad)
  (fun p _ ih acc μ => if gd μ = true then fr1 p fun p => (calmR (g p η μ)).bind fun η1 μ1 => frL η1 fun η1 => (calmR (tt η1 μ1)).bind fun k μ2 =>
      if k = true then (calmR (el η1 μ2 acc)).bind fun acc' μ3 => frL acc' fun acc' => ih acc' μ3
      else ih acc μ2
    else .bad) its
theorem lcGoF_eq (gd : Sto → Bool) (g : DG) (tt : DT) (el : Env' → Sto → List PV → Rz (List PV)) (η : Env') : ∀ (its acc : List PV) (μ : Sto), lcGoF gd g tt el η its acc μ = lcGo gd g tt el η its acc μ
  | [], acc, μ => rfl
  | p :: rest, acc, μ => by
    have ih := lcGoF_eq gd g tt el η rest
    show (if gd μ = true then fr1 p fun p => (calmR (g p η μ)).bind fun η1 μ1 => frL η1 fun η1 => (calmR (tt η1 μ1)).bind fun k μ2 =>
      if k = true then (calmR (el η1 μ2 acc)).bind fun acc' μ3 => frL acc' fun acc' => lcGoF gd g tt el η rest acc' μ3
      else lcGoF gd g tt el η rest acc μ2
    else .bad) = _
    unfold lcGo
    simp only [fr1_eq, frL_eq, ih]
noncomputable def elOneF (d : DE) : Env' → Sto → List PV → Rz (List PV) := fun η μ acc => if acc.length < sizeLine then (d η μ).bind fun p μ1 => fr1 p fun p => .ok (acc ++ [p]) μ1 else .bad
theorem elOneF_eq : elOneF = elOne := by
  funext d η μ acc
  unfold elOneF elOne
  simp only [fr1_eq]
noncomputable def lcEndF : List PV → Sto → Rz PV := fun acc μ => frN μ.length fun n => .ok (.ref n) (μ ++ [.lst acc])
theorem lcEndF_eq : lcEndF = lcEnd := by
  funext acc μ
  exact frN_eq _ _
noncomputable def vMakeF (C : Addr) (f : VF) : VF := fun ps μ => frN μ.length fun n => (f (.ref n :: ps) (μ ++ [.ins C []])).bind fun r μ1 => match r with
  | .non => .ok (.ref n) μ1
  | _ => .bad
theorem vMakeF_eq : vMakeF = vMake := by
  funext C f ps μ
  unfold vMakeF vMake
  rw [frN_eq]
  try rfl
noncomputable def dLcF (di : DI) (g : DG) (tt : DT) (d : DE) (vs : List Nat) : DE := fun η μ => (di η μ).bind fun x μ1 => frL (wipeE η vs) fun η0 => (lcGoF x.2 g tt (elOneF d) η0 x.1 [] μ1).bind lcEndF
theorem dLcF_eq : dLcF = dLc := by
  funext di g tt d vs η μ
  unfold dLcF dLc
  simp only [frL_eq, lcGoF_eq, lcEndF_eq, elOneF_eq]
noncomputable def el2F (di1 : DI) (g1 : DG) (tt1 : DT) (d : DE) (vs1 : List Nat) : Env' → Sto → List PV → Rz (List PV) := fun η μ acc => (di1 η μ).bind fun x μ1 => frL (wipeE η vs1) fun η0 => lcGoF x.2 g1 tt1 (elOne d) η0 x.1 acc μ1
theorem el2F_eq : el2F = el2 := by
  funext di g tt d vs η μ acc
  unfold el2F el2
  simp only [frL_eq, lcGoF_eq, elOneF_eq]
noncomputable def dLc2F (di : DI) (g : DG) (tt : DT) (di1 : DI) (g1 : DG) (tt1 : DT) (d : DE) (vs vs1 : List Nat) : DE := fun η μ => (di η μ).bind fun x μ1 => frL (wipeE η vs) fun η0 => (lcGoF x.2 g tt (el2F di1 g1 tt1 d vs1) η0 x.1 [] μ1).bind lcEndF
theorem dLc2F_eq : dLc2F = dLc2 := by
  funext di g tt di1 g1 tt1 d vs vs1 η μ
  unfold dLc2F dLc2
  simp only [frL_eq, lcGoF_eq, el2F_eq, lcEndF_eq]
noncomputable def fnBodyF (np n : Nat) (d : DS) : VF := fun ps μ => if ps.length = np then frL (ps.map some ++ List.replicate (n - np) none) fun η => (d η μ).bind fun o μ1 => match o.1 with
  | .rt v => .ok v μ1
  | .nx => .ok .non μ1
  | _ => .bad
  else .bad
theorem fnBodyF_eq : fnBodyF = fnBody := by
  funext np n d ps μ
  unfold fnBodyF fnBody
  simp only [frL_eq]
  try rfl
noncomputable def vApartF (F : VF) : VF := fun xs μ => if bareL xs = true then frLf (frP 6) xs fun ys => match F ys [] with
    | .ok p _ => if bareP p = true then frP 6 p fun q => .ok q μ else .bad
    | _ => .bad
  else .bad
theorem vApartF_eq : vApartF = vApart := by
  funext F xs μ
  unfold vApartF vApart
  simp only [frLf_eq (frP_eq 6), frP_eq]
  try rfl
noncomputable def gItemF (d1 d2 : DE) : DG := fun p η μ => (d1 η μ).bind fun o μ1 => (d2 η μ1).bind fun i μ2 => match vStore o i p μ2 with
  | some μ3 => match o with
    | .ref j => frAt j μ3 fun μ3 => .ok η μ3
    | _ => .ok η μ3
  | none => .bad
theorem gItemF_eq : gItemF = gItem := by
  funext d1 d2 p η μ
  unfold gItemF gItem
  congr 1
  funext o μ1
  congr 1
  funext i μ2
  cases vStore o i p μ2 with
  | none => rfl
  | some μ3 => cases o <;> simp only [frAt_eq]
noncomputable def lkF (fs : List (Str × PV)) (f : Str) : Option PV := List.rec (motive := fun _ => Option PV) none (fun q _ ih => Bool.rec (motive := fun _ => Option PV) ih (some q.2) (eqS f q.1)) fs
theorem lkF_eq : ∀ (fs : List (Str × PV)) (f : Str), lkF fs f = fs.lookup f
  | [], _ => rfl
  | (g, v) :: r, f => by
    show (Bool.rec (motive := fun _ => Option PV) (lkF r f) (some v) (eqS f g) : Option PV) = _
    rw [eqS_eq, lkF_eq r f, List.lookup_cons]
    cases (f == g) <;> rfl
noncomputable def vFldF (C : Addr) (f : Str) : VF := fun xs μ => match xs with
  | [.ref i] => match nth μ i with
    | some (.ins D fs) => match Nat.beq D C with
      | true => match lkF fs f with
        | some p => .ok p μ
        | none => .bad
      | false => .bad
    | _ => .bad
  | _ => .bad
theorem beqA {D C : Nat} {β : Type} (a b : β) : (match Nat.beq D C with | true => a | false => b) = if D = C then a else b := by
  cases e : Nat.beq D C with
  | true => rw [if_pos (Nat.eq_of_beq_eq_true e)]
  | false => rw [if_neg (Nat.ne_of_beq_eq_false e)]
theorem vFldF_eq : vFldF = vFld := by
  funext C f xs μ
  unfold vFldF vFld
  simp only [nth_eq, lkF_eq, beqA]
  try rfl
noncomputable def isInsF (C : Addr) (m : Str) (o : PV) (μ : Sto) : Bool := match o with
  | .ref i => match nth μ i with
    | some (.ins D fs) => match Nat.beq D C with
      | true => (lkF fs m).isNone
      | false => false
    | _ => false
  | _ => false
theorem isInsF_eq : isInsF = isIns := by
  funext C m o μ
  unfold isInsF isIns
  cases o with
  | ref i =>
    simp only [nth_eq, lkF_eq]
    cases μ[i]? with
    | none => rfl
    | some ob =>
      cases ob with
      | ins D fs =>
        simp only
        rw [beqA]
        by_cases c : D = C
        · simp [c]
        · simp [c]
      | _ => rfl
  | _ => rfl
noncomputable def dMethF (C : Addr) (m : Str) (f : VF) (o : DE) (ds : DA) : DE := fun η μ => (o η μ).bind fun p μ1 => match isInsF C m p μ1 with
  | true => (ds η μ1).bind fun ps μ2 => f (p :: ps) μ2
  | false => .bad
theorem boolA {β : Type} (c : Bool) (a b : β) : (match c with | true => a | false => b) = if c = true then a else b := by cases c <;> rfl
theorem dMethF_eq : dMethF = dMeth := by
  funext C m f o ds η μ
  unfold dMethF dMeth
  simp only [isInsF_eq, boolA]
noncomputable def putDF (f : Str) (v : PV) (l : List (Str × PV)) : List (Str × PV) := List.rec (motive := fun _ => List (Str × PV)) [(f, v)] (fun q r ih => Bool.rec (motive := fun _ => List (Str × PV)) (q :: ih) ((q.1, v) :: r) (eqS q.1 f)) l
theorem putDF_eq (f : Str) (v : PV) : ∀ l : List (Str × PV), putDF f v l = putD f v l
  | [] => rfl
  | (g, x) :: r => by
    have e : (Bool.rec (motive := fun _ => List (Str × PV)) ((g, x) :: putDF f v r) ((g, v) :: r) (eqS g f) : List (Str × PV)) = if eqS g f = true then (g, v) :: r else (g, x) :: putDF f v r := by cases eqS g f <;> rfl
    show (Bool.rec (motive := fun _ => List (Str × PV)) ((g, x) :: putDF f v r) ((g, v) :: r) (eqS g f) : List (Str × PV)) = _
    rw [e, putDF_eq f v r]
    show _ = if g = f then (g, v) :: r else (g, x) :: putD f v r
    by_cases c : g = f
    · rw [if_pos (eqS_iff.mpr c), if_pos c]
    · rw [if_neg (fun h => c (eqS_iff.mp h)), if_neg c]
noncomputable def sFldSetF (C : Addr) (f : Str) (o v : DE) : DS := fun η μ => (v η μ).bind fun p μ1 => (o η μ1).bind fun q μ2 => match q with
  | .ref i => match nth μ2 i with
    | some (.ins D fs) => if D = C ∧ fs.length < 1000 then frAt i (μ2.set i (.ins C (putDF f p fs))) fun μ3 => .ok (.nx, η) μ3 else .bad
    | _ => .bad
  | _ => .bad
theorem sFldSetF_eq : sFldSetF = sFldSet := by
  funext C f o v η μ
  unfold sFldSetF sFldSet
  simp only [frAt_eq, nth_eq, putDF_eq]
  try rfl
noncomputable def eqPs (f : PV → PV → Bool) (a : List PV) : List PV → Bool := List.rec (motive := fun _ => List PV → Bool) (fun b => List.rec (motive := fun _ => Bool) true (fun _ _ _ => false) b)
  (fun x _ ih b => List.rec (motive := fun _ => Bool) false (fun y ys _ => Bool.rec (motive := fun _ => Bool) false (ih ys) (f x y)) b) a
theorem eqPs_eq {f : PV → PV → Bool} (h : ∀ a b, f a b = decide (a = b)) : ∀ (xs ys : List PV), eqPs f xs ys = decide (xs = ys)
  | [], [] => rfl
  | [], _ :: _ => rfl
  | _ :: _, [] => rfl
  | x :: xs, y :: ys => by
    show (Bool.rec (motive := fun _ => Bool) false (eqPs f xs ys) (f x y) : Bool) = _
    rw [h, eqPs_eq h xs ys]
    by_cases c : x = y
    · simp [c]
    · simp [c]
noncomputable def eqPn : Nat → PV → PV → Bool
  | 0, a, b => decide (a = b)
  | n + 1, a, b => match a with
    | .str x => match b with
      | .str y => eqS x y
      | _ => false
    | .int i => match b with
      | .int j => decide (i = j)
      | _ => false
    | .tup xs => match b with
      | .tup ys => eqPs (eqPn n) xs ys
      | _ => false
    | .ref i => match b with
      | .ref j => Nat.beq i j
      | _ => false
    | a => decide (a = b)
theorem eqPn_eq : ∀ (n : Nat) (a b : PV), eqPn n a b = decide (a = b)
  | 0, _, _ => rfl
  | n + 1, a, b => by
    cases a with
    | str x => cases b <;> first | rfl | (simp only [eqPn]; rw [Bool.eq_iff_iff, eqS_iff]; simp)
    | int i => cases b <;> first | rfl | simp [eqPn]
    | tup xs => cases b <;> first | rfl | (simp only [eqPn]; rw [eqPs_eq (eqPn_eq n)]; simp)
    | ref i => cases b <;> first | rfl | (simp only [eqPn]; rw [Bool.eq_iff_iff, show (Nat.beq _ _ = true) = _ from Nat.beq_eq]; simp)
    | _ => rfl
theorem beqs_dec (xs ys : List PV) : PV.beqs xs ys = decide (xs = ys) := by
  rw [Bool.eq_iff_iff, decide_eq_true_eq]
  exact ⟨PV.eqs_of xs ys, fun h => by rw [h]; exact PV.beqs_self ys⟩
theorem beq_dec (x y : PV) : PV.beq x y = decide (x = y) := by
  rw [Bool.eq_iff_iff, decide_eq_true_eq]
  exact ⟨PV.eq_of x y, fun h => by rw [h]; exact PV.beq_self y⟩
noncomputable def sameSeqF (μ : Sto) (i : Nat) (ps : List PV) : Bool := match seqAt μ i with
  | some qs => eqPs (eqPn 4) qs ps
  | none => false
theorem sameSeqF_eq : sameSeqF = sameSeq := by
  funext μ i ps
  unfold sameSeqF sameSeq
  cases seqAt μ i with
  | none => rfl
  | some qs => simp only [eqPs_eq (eqPn_eq 4), beqs_dec]
noncomputable def sameKvsF : List (PV × PV) → List (PV × PV) → Bool
  | [], b => match b with
    | [] => true
    | _ :: _ => false
  | x :: xs, b => match b with
    | [] => false
    | y :: ys => match eqPn 4 x.1 y.1 with
      | true => match eqPn 4 x.2 y.2 with
        | true => sameKvsF xs ys
        | false => false
      | false => false
theorem sameKvsF_eq : ∀ a b : List (PV × PV), sameKvsF a b = sameKvs a b
  | [], [] => rfl
  | [], _ :: _ => rfl
  | _ :: _, [] => rfl
  | x :: xs, y :: ys => by
    show (match eqPn 4 x.1 y.1 with | true => (match eqPn 4 x.2 y.2 with | true => sameKvsF xs ys | false => false) | false => false) = (PV.beq x.1 y.1 && PV.beq x.2 y.2 && sameKvs xs ys)
    rw [eqPn_eq, eqPn_eq, beq_dec, beq_dec, sameKvsF_eq xs ys]
    cases decide (x.1 = y.1) <;> cases decide (x.2 = y.2) <;> rfl
noncomputable def sameDctF (μ : Sto) (i : Nat) (ps : List (PV × PV)) : Bool := match dctAt μ i with
  | some qs => sameKvsF qs ps
  | none => false
theorem sameDctF_eq : sameDctF = sameDct := by
  funext μ i ps
  unfold sameDctF sameDct
  cases dctAt μ i with
  | none => rfl
  | some qs => exact sameKvsF_eq qs ps
noncomputable def srcOfF (p : PV) (μ : Sto) : Option (List PV × (Sto → Bool)) := match p with
  | .ref i => match seqAt μ i with
    | some ps => some (ps, fun μ' => sameSeqF μ' i ps)
    | none => none
  | p => srcOf p μ
theorem srcOfF_eq : srcOfF = srcOf := by
  funext p μ
  cases p with
  | ref i => simp only [srcOfF, srcOf, sameSeqF_eq]; try rfl
  | _ => rfl
noncomputable def srcKF (p : PV) (μ : Sto) : Option (List PV × (Sto → Bool)) := match p with
  | .ref i => match dctAt μ i with
    | some kvs => some (kvs.map (·.1), fun μ' => sameDctF μ' i kvs)
    | none => srcOfF p μ
  | _ => srcOfF p μ
theorem srcKF_eq : srcKF = srcK := by
  funext p μ
  cases p with
  | ref i => simp only [srcKF, srcK, sameDctF_eq, srcOfF_eq]; try rfl
  | _ => simp only [srcKF, srcK, srcOfF_eq]
noncomputable def dItAF (d : DE) : DI := fun η μ => (d η μ).bind fun p μ1 => match srcKF p μ1 with
  | some x => .ok x μ1
  | none => .bad
theorem dItAF_eq : dItAF = dItA := by
  funext d η μ
  unfold dItAF dItA
  rw [srcKF_eq]
  try rfl
noncomputable def dEnumF (d : DE) : DI := fun η μ => (d η μ).bind fun p μ1 => match srcOfF p μ1 with
  | some x => .ok ((enum2 x.1 0).map PV.tup, x.2) μ1
  | none => .bad
theorem dEnumF_eq : dEnumF = dEnum := by
  funext d η μ
  unfold dEnumF dEnum
  rw [srcOfF_eq]
  try rfl
noncomputable def dZipF (da db : DE) : DI := fun η μ => (da η μ).bind fun p μ1 => (db η μ1).bind fun q μ2 => match srcOfF p μ2, srcOfF q μ2 with
  | some x, some y => .ok ((zip2 x.1 y.1).map PV.tup, fun μ' => x.2 μ' && y.2 μ') μ2
  | _, _ => .bad
theorem dZipF_eq : dZipF = dZip := by
  funext da db η μ
  unfold dZipF dZip
  rw [srcOfF_eq]
  try rfl
noncomputable def dValsF (d : DE) : DI := fun η μ => (d η μ).bind fun p μ1 => match p with
  | .ref i => match dctAt μ1 i with
    | some kvs => .ok (kvs.map (·.2), fun μ' => sameDctF μ' i kvs) μ1
    | none => .bad
  | _ => .bad
theorem dValsF_eq : dValsF = dVals := by
  funext d η μ
  unfold dValsF dVals
  rw [sameDctF_eq]
  try rfl
noncomputable def dItemsF (d : DE) : DI := fun η μ => (d η μ).bind fun p μ1 => match p with
  | .ref i => match dctAt μ1 i with
    | some kvs => .ok ((kvs.map fun kv => [kv.1, kv.2]).map PV.tup, fun μ' => sameDctF μ' i kvs) μ1
    | none => .bad
  | _ => .bad
theorem dItemsF_eq : dItemsF = dItems := by
  funext d η μ
  unfold dItemsF dItems
  rw [sameDctF_eq]
  try rfl
end DL
namespace DL
open PySem PySem.Spec PyProof.Rows L2
theorem bindOk {α β : Type} (a : α) (μ : Sto) (f : α → Sto → Rz β) : (Rz.ok a μ).bind f = f a μ := (Eq.refl _).trans (Eq.refl _)
theorem mul_l {μ : Sto} {i j : Int} (h : -(2 ^ 64) < i ∧ i < 2 ^ 64) : vMulA [.int i, .int j] μ = .ok (.int (i * j)) μ := if_pos (.inl h)
theorem mul_r {μ : Sto} {i j : Int} (h : -(2 ^ 64) < j ∧ j < 2 ^ 64) : vMulA [.int i, .int j] μ = .ok (.int (i * j)) μ := if_pos (.inr h)
theorem mod_p {μ : Sto} {i j : Int} (h : 0 < j) : vMod [.int i, .int j] μ = .ok (.int (i % j)) μ := if_pos h
theorem int_i {μ : Sto} {i : Int} : vInt [.int i] μ = .ok (.int i) μ := rfl
theorem int_b {μ : Sto} {k : Bool} : vInt [.bl k] μ = .ok (.int (if k then 1 else 0)) μ := rfl
theorem abs_i {μ : Sto} {i : Int} : vAbs [.int i] μ = .ok (.int (if i < 0 then -i else i)) μ := rfl
theorem add_i {μ : Sto} {i j : Int} : vAdd [.int i, .int j] μ = .ok (.int (i + j)) μ := rfl
theorem ge_i {μ : Sto} {i j : Int} : vGe [.int i, .int j] μ = .ok (.bl (decide (j ≤ i))) μ := rfl
theorem lt_i {μ : Sto} {i j : Int} : vLt [.int i, .int j] μ = .ok (.bl (decide (i < j))) μ := rfl
theorem len_0 {μ : Sto} {i : Nat} {ps : List PV} (h : seqAt μ i = some ps) (hd : dctAt μ i = none) : vLen [.ref i] μ = .ok (.int ps.length) μ := by
  simp only [vLen, lenOf, hd, h, Option.map_some]
theorem ix_0 {μ : Sto} {i : Nat} {ps : List PV} {z : Int} {p : PV} (h : seqAt μ i = some ps) (hd : dctAt μ i = none) (hz : L2.atI ps z = some p) : vIx [.ref i, .int z] μ = .ok p μ := by
  show (match dctAt μ i with | some kvs => _ | none => vItem [.ref i, .int z] μ) = _
  rw [hd]
  show (match (seqAt μ i).bind fun ps => L2.atI ps z with | some p => Rz.ok p μ | none => .bad) = _
  rw [h, Option.bind_some, hz]
theorem lst_k {μ : Sto} {ps : List PV} (h : ps.length ≤ 100) : vLst ps μ = .ok (.ref μ.length) (μ ++ [.lst ps]) := if_pos (Nat.le_trans h (by decide))
theorem gt_i {μ : Sto} {i j : Int} : vGt [.int i, .int j] μ = .ok (.bl (decide (j < i))) μ := rfl
theorem div_p {μ : Sto} {i j : Int} (h : 0 < j) (hb : j < 2 ^ 64) : vDiv [.int i, .int j] μ = .ok (.int (i / j)) μ := by
  refine if_pos ⟨h, ?_⟩
  have : j.natAbs < 2 ^ 64 := by omega
  by_cases c : j.natAbs = 0
  · rw [c]; decide
  · exact Nat.lt_of_lt_of_le ((Nat.log2_lt c).mpr this) (by decide)
theorem cube {μ : Sto} {i : Int} (h : i.natAbs < 2 ^ 80) : vPow [.int i, .int 3] μ = .ok (.int (i ^ 3)) μ := by
  refine (if_pos ⟨by decide, ?_⟩).trans rfl
  have := PySem.intBits_le_iff.mpr h
  omega
theorem seq_l {μ : Sto} {i : Nat} {ps : List PV} (h : μ[i]? = some (.lst ps)) : seqAt μ i = some ps := by unfold seqAt; rw [h]
theorem dct_l {μ : Sto} {i : Nat} {ps : List PV} (h : μ[i]? = some (.lst ps)) : dctAt μ i = none := by unfold dctAt; rw [h]
theorem lst_l {μ : Sto} {i : Nat} {ps : List PV} (h : μ[i]? = some (.lst ps)) : isLst μ i = some ps := by unfold isLst; rw [h]
theorem ix_l {μ : Sto} {i : Nat} {ps : List PV} {z : Int} {p : PV} (h : μ[i]? = some (.lst ps)) (hz : L2.atI ps z = some p) : vIx [.ref i, .int z] μ = .ok p μ := ix_0 (seq_l h) (dct_l h) hz
theorem len_l {μ : Sto} {i : Nat} {ps : List PV} (h : μ[i]? = some (.lst ps)) : vLen [.ref i] μ = .ok (.int ps.length) μ := len_0 (seq_l h) (dct_l h)
theorem st_l {μ : Sto} {i : Nat} {ps : List PV} {z : Int} {n : Nat} {v : PV} (h : μ[i]? = some (.lst ps)) (hz : ixN ps.length z = some n) : vStore (.ref i) (.int z) v μ = some (μ.set i (.lst (ps.set n v))) := by
  show (match dctAt μ i with | some kvs => _ | none => match (isLst μ i).bind (storeL (.int z) v) with | some ps => some (μ.set i (.lst ps)) | none => none) = _
  rw [dct_l h, lst_l h]
  simp only [Option.bind_some, storeL, hz, Option.map_some]
theorem islp {μ : Sto} {i : Nat} {ps : List PV} (h : μ[i]? = some (.lst ps)) : isLstP (.ref i) μ = true := by
  show (seqAt μ i).isSome = true
  rw [seq_l h]
  rfl
theorem app_l {μ : Sto} {i : Nat} {ps : List PV} {p : PV} (h : μ[i]? = some (.lst ps)) (hl : ps.length ≤ 1000) : vAppend [.ref i, p] μ = .ok .non (μ.set i (.lst (ps ++ [p]))) := by
  show (match isLst μ i with | some ps => if ps.length < sizeLine then Rz.ok PV.non (μ.set i (.lst (ps ++ [p]))) else .bad | none => .bad) = _
  rw [lst_l h]
  exact if_pos (Nat.lt_of_le_of_lt hl (by decide))
theorem pop_l {μ : Sto} {i k : Nat} {ps : List PV} (h : μ[i]? = some (.lst ps)) (hk : k < ps.length) (hl : ps.length ≤ 1000) : vPop [.ref i, .int k] μ = .ok ps[k] (μ.set i (.lst (ps.eraseIdx k))) := by
  have e : seqIndex? (k : Int) ps.length = some k := by
    unfold seqIndex?
    have h1 : ¬ (k : Int) < 0 := by omega
    simp [h1, hk]
  have c : -(2 ^ 63) ≤ (k : Int) ∧ (k : Int) < 2 ^ 63 := ⟨by omega, by omega⟩
  simp only [vPop, lst_l h, if_pos c, e, List.getElem?_eq_getElem hk]
theorem listB_l {μ : Sto} {i : Nat} {ps : List PV} (h : μ[i]? = some (.lst ps)) : vListB [.ref i] μ = .ok (.ref μ.length) (μ ++ [.lst ps]) := by
  simp only [vListB, vListA, vList, dct_l h, seq_l h]
end DL
namespace DL
open PySem PySem.Spec PyProof.Rows L2
/-- the places of a sign -/
def posN (c : Nat) : Nat → List Nat → List Nat
  | _, [] => []
  | k, d :: r => if d = c then k :: posN c (k + 1) r else posN c (k + 1) r
/-- what lies between them: acc is the piece under way, turned about -/
def splitG (c : Nat) : List Nat → List Nat → List (List Nat)
  | acc, [] => [acc.reverse]
  | acc, d :: r => if d = c then acc.reverse :: splitG c [] r else splitG c (d :: acc) r
theorem occ_run (x : Str) (c L : Nat) : ∀ (m k : Nat) (found : Array Nat) (free : Nat), free ≤ k → found.size ≤ k → k + m ≤ L → x.length < k + m →
    (forIn (List.range' k m) (found, free) (StrLaws.occBody x ⟨#[c]⟩ x.length L)).run.fst.toList = found.toList ++ posN c k (x.cps.toList.drop k)
  | 0, k, found, free, _, _, _, h => by
    have e : x.cps.toList.drop k = [] := List.drop_eq_nil_iff.mpr (by simp [Str.length] at h ⊢; omega)
    rw [e]
    simp [posN]
  | m + 1, k, found, free, h1, h2, h3, h4 => by
    rw [List.range'_succ, List.forIn_cons]
    unfold StrLaws.occBody
    have key := StrLaws.subAt_one x c k
    by_cases hc : x.cps.toList[k]? = some c
    · obtain ⟨k1, k2⟩ := key.mpr hc
      rw [if_pos ⟨⟨⟨by show found.size < L; omega, h1⟩, k1⟩, k2⟩]
      have hk := (List.getElem?_eq_some_iff.mp hc).1
      have e : x.cps.toList.drop k = c :: x.cps.toList.drop (k + 1) := by
        rw [List.drop_eq_getElem_cons hk]
        rw [(List.getElem?_eq_some_iff.mp hc).2]
      rw [e]
      have ih := occ_run x c L m (k + 1) (found.push k) (k + 1) (Nat.le_refl _) (by simp; omega) (by omega) (by omega)
      show (forIn (List.range' (k + 1) m) (found.push k, k + 1) (StrLaws.occBody x ⟨#[c]⟩ x.length L)).run.fst.toList = _
      rw [ih, posN, if_pos rfl, Array.toList_push, List.append_assoc]
      rfl
    · rw [if_neg fun h => hc (key.mp ⟨h.1.2, h.2⟩)]
      have ih := occ_run x c L m (k + 1) found free (by omega) (by omega) (by omega) (by omega)
      show (forIn (List.range' (k + 1) m) (found, free) (StrLaws.occBody x ⟨#[c]⟩ x.length L)).run.fst.toList = _
      rw [ih]
      by_cases hk : k < x.cps.toList.length
      · rw [List.drop_eq_getElem_cons hk, posN, if_neg fun e => hc (by rw [List.getElem?_eq_getElem hk, e])]
      · rw [List.drop_eq_nil_iff.mpr (Nat.le_of_not_lt hk), List.drop_eq_nil_iff.mpr (by omega)]
        rfl
theorem occ_pos (x : Str) (c : Nat) : Builtin.Str.occurrences x ⟨#[c]⟩ 0 x.length (x.length + 1) = posN c 0 x.cps.toList := by
  rw [StrLaws.occ_eq]
  have := occ_run x c (x.length + 1) (x.length + 1) 0 #[] 0 (Nat.le_refl _) (by simp) (by omega) (by omega)
  rw [show x.length + 1 - 0 = x.length + 1 from rfl, this]
  simp
theorem sub_list (x : Str) (a b : Nat) : Builtin.Str.strSub x a b = ⟨⟨(x.cps.toList.take b).drop a⟩⟩ := by
  unfold Builtin.Str.strSub
  congr 1
  apply Array.ext'
  simp [List.drop_take]
theorem parts_split (x : Str) (c : Nat) : ∀ (l : List Nat) (a k : Nat), l = x.cps.toList.drop k → a ≤ k → k ≤ x.cps.toList.length →
    StrLaws.partsFrom x 1 a (posN c k l) = (splitG c ((x.cps.toList.take k).drop a).reverse l).map fun p => (⟨⟨p⟩⟩ : Str)
  | [], a, k, h, ha, hk => by
    have e : x.cps.toList.length ≤ k := List.drop_eq_nil_iff.mp h.symm
    rw [posN, StrLaws.partsFrom, splitG, sub_list, List.reverse_reverse]
    rw [List.take_of_length_le e, List.take_of_length_le (by simp [Str.length])]
    rfl
  | d :: r, a, k, h, ha, hk => by
    have hlt : k < x.cps.toList.length := by
      apply Nat.lt_of_not_le
      intro e
      rw [List.drop_eq_nil_iff.mpr e] at h
      cases h
    have e1 := List.drop_eq_getElem_cons hlt
    rw [← h] at e1
    injection e1 with e2 e3
    rw [posN, splitG]
    have tk : x.cps.toList.take (k + 1) = x.cps.toList.take k ++ [d] := by rw [List.take_add_one, List.getElem?_eq_getElem hlt, e2]; rfl
    by_cases hc : d = c
    · rw [if_pos hc, if_pos hc, StrLaws.partsFrom, List.map_cons, List.reverse_reverse, sub_list]
      have ih := parts_split x c r (k + 1) (k + 1) e3 (Nat.le_refl _) (by omega)
      rw [ih]
      have e4 : (x.cps.toList.take (k + 1)).drop (k + 1) = [] := List.drop_eq_nil_iff.mpr (by rw [List.length_take]; exact Nat.min_le_left _ _)
      rw [e4]
      rfl
    · rw [if_neg hc, if_neg hc]
      have ih := parts_split x c r a (k + 1) e3 (by omega) (by omega)
      rw [ih, tk, List.drop_append_of_le_length (by rw [List.length_take]; omega), List.reverse_append]
      rfl
theorem kind_pos (x : Str) : 1 ≤ Builtin.Str.strKind x := by
  unfold Builtin.Str.strKind
  split
  · exact Nat.le_refl _
  · split <;> omega
theorem kind_one {c : Nat} (h : c < 256) : Builtin.Str.strKind ⟨#[c]⟩ = 1 := by
  unfold Builtin.Str.strKind
  exact if_pos (by simp [h])
theorem split_one (x : Str) {c : Nat} (h : c < 256) : Txt.split x ⟨#[c]⟩ = (splitG c [] x.cps.toList).map fun p => (⟨⟨p⟩⟩ : Str) := by
  have main := parts_split x c x.cps.toList 0 0 rfl (Nat.le_refl _) (Nat.zero_le _)
  rw [show ((x.cps.toList.take 0).drop 0).reverse = [] from rfl] at main
  have all : Builtin.Str.partsBetween x (Builtin.Str.occurrences x ⟨#[c]⟩ 0 x.length (x.length + 1)) 1 = (splitG c [] x.cps.toList).map fun p => (⟨⟨p⟩⟩ : Str) := by
    rw [StrLaws.partsBetween_eq, occ_pos, main]
  have whole : (posN c 0 x.cps.toList) = [] → (splitG c [] x.cps.toList).map (fun p => (⟨⟨p⟩⟩ : Str)) = [x] := fun e => by
    rw [← main, e]
    show [Builtin.Str.strSub x 0 x.length] = [x]
    rw [sub_list]
    have : x.cps.toList.take x.length = x.cps.toList := List.take_of_length_le (by simp [Str.length])
    rw [this]
    rfl
  unfold Txt.split
  have hk : decide (Builtin.Str.strKind x < Builtin.Str.strKind ⟨#[c]⟩) = false := decide_eq_false (by rw [kind_one h]; have := kind_pos x; omega)
  by_cases hl : x.length < (⟨#[c]⟩ : Str).length
  · rw [if_pos (by rw [decide_eq_true hl]; rfl)]
    have e : x.cps.toList = [] := by
      have : x.cps.toList.length < 1 := by simpa [Str.length] using hl
      exact List.length_eq_zero_iff.mp (by omega)
    exact (whole (by rw [e]; rfl)).symm
  · rw [if_neg (by rw [decide_eq_false hl, hk]; simp)]
    split
    · rename_i he
      rw [occ_pos] at he
      exact (whole (List.isEmpty_iff.mp he)).symm
    · exact all
/-- the same for the kernel -/
noncomputable def splitK (c : Nat) (l : List Nat) : List Nat → List PV := List.rec (motive := fun _ => List Nat → List PV) (fun acc => [.str ⟨⟨acc.reverse⟩⟩])
  (fun d _ ih acc => Bool.rec (motive := fun _ => List PV) (ih (d :: acc)) (.str ⟨⟨acc.reverse⟩⟩ :: ih []) (Nat.beq d c)) l
theorem splitK_eq (c : Nat) : ∀ (l acc : List Nat), splitK c l acc = (splitG c acc l).map fun p => PV.str ⟨⟨p⟩⟩
  | [], acc => rfl
  | d :: r, acc => by
    show (Bool.rec (motive := fun _ => List PV) (splitK c r (d :: acc)) (.str ⟨⟨acc.reverse⟩⟩ :: splitK c r []) (Nat.beq d c) : List PV) = _
    rw [splitK_eq c r, splitK_eq c r, splitG]
    cases e : Nat.beq d c with
    | true => rw [if_pos (Nat.eq_of_beq_eq_true e)]; rfl
    | false => rw [if_neg (Nat.ne_of_beq_eq_false e)]
noncomputable def vSplitF : VF := fun xs μ => match xs with
  | [.str a, .str ⟨⟨[c]⟩⟩] => if c < 256 then (if a.length + 2 ≤ sizeLine then .ok (.ref μ.length) (μ ++ [.lst (splitK c a.cps.toList [])]) else .bad) else vSplit [.str a, .str ⟨⟨[c]⟩⟩] μ
  | xs => vSplit xs μ
theorem vSplitF_eq : vSplitF = vSplit := by
  funext xs μ
  unfold vSplitF
  split
  · rename_i a c
    by_cases hc : c < 256
    · rw [if_pos hc]
      show _ = (if ((⟨⟨[c]⟩⟩ : Str).length == 0) = false ∧ a.length + 2 ≤ sizeLine then Rz.ok (PV.ref μ.length) (μ ++ [.lst ((Txt.split a ⟨⟨[c]⟩⟩).map PV.str)]) else .bad)
      rw [split_one a hc, splitK_eq, List.map_map]
      by_cases h2 : a.length + 2 ≤ sizeLine
      · rw [if_pos h2, if_pos ⟨rfl, h2⟩]
        rfl
      · rw [if_neg h2, if_neg fun h => h2 h.2]
    · rw [if_neg hc]
  · rfl
end DL
namespace DL
open PySem PySem.Spec PyProof.Rows L2
abbrev lim : Nat := 0x110000
/-- what letters stand for: names, whole numbers -/
structure Nu where
  nm : Nat → List Nat
  iv : Nat → Int
instance : CoeFun Nu (fun _ => Nat → List Nat) := ⟨Nu.nm⟩
/-- names: small letters, eight at most, unlike one another -/
structure Nam (ν : Nu) (n : Nat) : Prop where
  ok : ∀ i, ∀ c ∈ ν i, 97 ≤ c ∧ c ≤ 122
  ne : ∀ i, ν i ≠ []
  len : ∀ i, (ν i).length ≤ 8
  inj : ∀ i j, i < n → j < n → ν i = ν j → i = j
section
variable (ν : Nu)
def gC (c : Nat) : List Nat := if c < lim then [c] else ν (c - lim)
def gN : List Nat → List Nat
  | [] => []
  | c :: r => gC ν c ++ gN r
def gTx (x : Str) : Str := ⟨⟨gN ν x.cps.toList⟩⟩
mutual
def gP : PV → PV
  | .str x => .str (gTx ν x)
  | .tup ps => .tup (gPs ps)
  | .non => .non
  | .bl b => .bl b
  | .int i => .int i
  | .ref i => .ref i
  | .ty n => .ty n
  | .glb a => if a < lim then .glb a else .int (ν.iv (a - lim))
  | .exc C v => .exc C (gP v)
def gPs : List PV → List PV
  | [] => []
  | p :: ps => gP p :: gPs ps
end
def gK : List (PV × PV) → List (PV × PV)
  | [] => []
  | q :: r => (gP ν q.1, gP ν q.2) :: gK r
def gF : List (Str × PV) → List (Str × PV)
  | [] => []
  | q :: r => (q.1, gP ν q.2) :: gF r
def gO : MObj → MObj
  | .lst ps => .lst (gPs ν ps)
  | .rol ps => .rol (gPs ν ps)
  | .dct kvs => .dct (gK ν kvs)
  | .ins C fs => .ins C (gF ν fs)
abbrev gM (μ : Sto) : Sto := μ.map (gO ν)
abbrev gE (η : Env') : Env' := η.map (Option.map (gP ν))
/-- what is reckoned with letters, if it comes to an end, is so of the names -/
def SG {α : Type} (g : α → α) (x y : Rz α) : Prop := ∀ a μ, x = .ok a μ → y = .ok (g a) (gM ν μ)
abbrev QE (d' d : DE) : Prop := ∀ η μ, SG ν (gP ν) (d' η μ) (d (gE ν η) (gM ν μ))
abbrev QA (d' d : DA) : Prop := ∀ η μ, SG ν (gPs ν) (d' η μ) (d (gE ν η) (gM ν μ))
abbrev QT (d' d : DT) : Prop := ∀ η μ, SG ν id (d' η μ) (d (gE ν η) (gM ν μ))
abbrev QO (d' d : DO) : Prop := ∀ η μ, SG ν id (d' η μ) (d (gE ν η) (gM ν μ))
abbrev QF (f' f : VF) : Prop := ∀ ps μ, SG ν (gP ν) (f' ps μ) (f (gPs ν ps) (gM ν μ))
def gOut (o : Out × Env') : Out × Env' := (match o.1 with
  | .rt v => .rt (gP ν v)
  | .nx => .nx
  | .bk => .bk
  | .ct => .ct, gE ν o.2)
abbrev QS (s' s : DS) : Prop := ∀ η μ, SG ν (gOut ν) (s' η μ) (s (gE ν η) (gM ν μ))
abbrev QG (g' g : DG) : Prop := ∀ p η μ, SG ν (gE ν) (g' p η μ) (g (gP ν p) (gE ν η) (gM ν μ))
abbrev QGs (g' g : List PV → Env' → Sto → Rz Env') : Prop := ∀ ps η μ, SG ν (gE ν) (g' ps η μ) (g (gPs ν ps) (gE ν η) (gM ν μ))
def QI (d' d : DI) : Prop := ∀ η μ its gd μ', d' η μ = .ok (its, gd) μ' → ∃ gd', d (gE ν η) (gM ν μ) = .ok (gPs ν its, gd') (gM ν μ') ∧ ∀ μ, gd μ = true → gd' (gM ν μ) = true
end
section
variable {ν : Nu}
theorem SG.ok {α : Type} {g : α → α} {a : α} {μ : Sto} {y : Rz α} (h : y = .ok (g a) (gM ν μ)) : SG ν g (.ok a μ) y := fun a' μ' e => by
  cases e
  exact h
theorem SG.bad {α : Type} {g : α → α} {y : Rz α} : SG ν g .bad y := fun a' μ' e => by cases e
theorem SG.err {α : Type} {g : α → α} {y : Rz α} {C : Addr} {v : PV} {μ : Sto} : SG ν g (.err C v μ) y := fun a' μ' e => by cases e
theorem SG.bind {α β : Type} {ga : α → α} {gb : β → β} {x y : Rz α} {f f' : α → Sto → Rz β} (h : SG ν ga x y) (hf : ∀ a μ, SG ν gb (f a μ) (f' (ga a) (gM ν μ))) : SG ν gb (x.bind f) (y.bind f') := by
  cases x with
  | ok a μ =>
    rw [h a μ rfl]
    exact hf a μ
  | err C v μ => exact SG.err
  | bad => exact SG.bad
theorem SG.ite {α : Type} {g : α → α} {c : Prop} [Decidable c] {c' : Prop} [Decidable c'] {x y x' y' : Rz α} (hc : c ↔ c') (h1 : c → SG ν g x x') (h2 : ¬ c → SG ν g y y') : SG ν g (if c then x else y) (if c' then x' else y') := by
  by_cases h : c
  · rw [if_pos h, if_pos (hc.mp h)]
    exact h1 h
  · rw [if_neg h, if_neg fun z => h (hc.mpr z)]
    exact h2 h
theorem SG.guard {α : Type} {g : α → α} {c : Prop} [Decidable c] {x y : Rz α} (h1 : c → SG ν g x y) : SG ν g (if c then x else .bad) y := by
  by_cases h : c
  · rw [if_pos h]
    exact h1 h
  · rw [if_neg h]
    exact SG.bad
theorem gPs_map : ∀ ps : List PV, gPs ν ps = ps.map (gP ν)
  | [] => rfl
  | p :: ps => by rw [gPs, List.map_cons, gPs_map ps]
theorem gPs_len (ps : List PV) : (gPs ν ps).length = ps.length := by rw [gPs_map, List.length_map]
theorem gPs_app (ps qs : List PV) : gPs ν (ps ++ qs) = gPs ν ps ++ gPs ν qs := by rw [gPs_map, gPs_map, gPs_map, List.map_append]
theorem gPs_get (ps : List PV) (i : Nat) : (gPs ν ps)[i]? = ps[i]?.map (gP ν) := by rw [gPs_map, List.getElem?_map]
theorem gK_map : ∀ l : List (PV × PV), gK ν l = l.map fun q => (gP ν q.1, gP ν q.2)
  | [] => rfl
  | p :: ps => by rw [gK, List.map_cons, gK_map ps]
theorem gF_map : ∀ l : List (Str × PV), gF ν l = l.map fun q => (q.1, gP ν q.2)
  | [] => rfl
  | p :: ps => by rw [gF, List.map_cons, gF_map ps]
theorem gF_lookup (f : Str) : ∀ l : List (Str × PV), (gF ν l).lookup f = (l.lookup f).map (gP ν)
  | [] => rfl
  | (k, v) :: r => by
    rw [gF, List.lookup_cons, List.lookup_cons, gF_lookup f r]
    cases (f == k) <;> rfl
theorem gM_get (μ : Sto) (i : Nat) : (gM ν μ)[i]? = μ[i]?.map (gO ν) := List.getElem?_map
theorem gM_app (μ : Sto) (o : MObj) : gM ν (μ ++ [o]) = gM ν μ ++ [gO ν o] := by simp [gM]
theorem gM_set (μ : Sto) (i : Nat) (o : MObj) : gM ν (μ.set i o) = (gM ν μ).set i (gO ν o) := by simp [gM]
theorem gM_len (μ : Sto) : (gM ν μ).length = μ.length := by simp [gM]
theorem gE_set (η : Env') (i : Nat) (p : PV) : gE ν (η.set i (some p)) = (gE ν η).set i (some (gP ν p)) := by simp [gE]
theorem gE_wipe (η : Env') : ∀ vs : List Nat, gE ν (wipeE η vs) = wipeE (gE ν η) vs
  | [] => rfl
  | v :: vs => by
    show gE ν ((wipeE η vs).set v none) = (wipeE (gE ν η) vs).set v none
    rw [← gE_wipe η vs]
    simp [gE]
theorem gSeq (μ : Sto) (i : Nat) : seqAt (gM ν μ) i = (seqAt μ i).map (gPs ν) := by
  unfold seqAt
  rw [gM_get]
  cases μ[i]? with
  | none => rfl
  | some o => cases o <;> rfl
theorem gDct (μ : Sto) (i : Nat) : dctAt (gM ν μ) i = (dctAt μ i).map (gK ν) := by
  unfold dctAt
  rw [gM_get]
  cases μ[i]? with
  | none => rfl
  | some o => cases o <;> rfl
theorem gLst (μ : Sto) (i : Nat) : isLst (gM ν μ) i = (isLst μ i).map (gPs ν) := by
  unfold isLst
  rw [gM_get]
  cases μ[i]? with
  | none => rfl
  | some o => cases o <;> rfl
theorem gItems (p : PV) (μ : Sto) : items (gP ν p) (gM ν μ) = (items p μ).map (gPs ν) := by
  cases p with
  | tup ps => rw [gP]; rfl
  | ref i => rw [gP]; exact gSeq μ i
  | glb a => rw [gP]; split <;> rfl
  | _ => rw [gP]; rfl
theorem qNil : QA ν dNil dNil := fun η μ => SG.ok (by rw [gPs]; rfl)
theorem qCons {d d' : DE} {ds ds' : DA} (h1 : QE ν d d') (h2 : QA ν ds ds') : QA ν (dCons d ds) (dCons d' ds') := fun η μ => SG.bind (h1 η μ) fun p μ1 => SG.bind (h2 η μ1) fun ps μ2 => SG.ok (by rw [gPs])
theorem qApp {f f' : VF} {ds ds' : DA} (h1 : QF ν f f') (h2 : QA ν ds ds') : QE ν (dApp f ds) (dApp f' ds') := fun η μ => SG.bind (h2 η μ) fun ps μ1 => h1 ps μ1
theorem qVar {i : Nat} : QE ν (dVar i) (dVar i) := fun η μ => by
  unfold dVar
  rw [List.getElem?_map]
  cases η[i]? with
  | none => exact SG.bad
  | some o =>
    cases o with
    | none => exact SG.bad
    | some p => exact SG.ok rfl
theorem qC {p p' : PV} (h : gP ν p = p') : QE ν (dC p) (dC p') := fun η μ => SG.ok (by rw [h]; rfl)
theorem qIf {c c' : DT} {a a' b b' : DE} (hc : QT ν c c') (ha : QE ν a a') (hb : QE ν b b') : QE ν (dIf c a b) (dIf c' a' b') := fun η μ => SG.bind (hc η μ) fun k μ1 => SG.ite (c := k = true) (c' := k = true) Iff.rfl (fun _ => ha η μ1) fun _ => hb η μ1
theorem qNot {c c' : DT} (h : QT ν c c') : QT ν (dNot c) (dNot c') := fun η μ => SG.bind (h η μ) fun k μ1 => SG.ok rfl
theorem qAnd {a a' b b' : DT} (h1 : QT ν a a') (h2 : QT ν b b') : QT ν (dAnd a b) (dAnd a' b') := fun η μ => SG.bind (h1 η μ) fun k μ1 => SG.ite (c := k = true) (c' := k = true) Iff.rfl (fun _ => h2 η μ1) fun _ => SG.ok rfl
theorem qOr {a a' b b' : DT} (h1 : QT ν a a') (h2 : QT ν b b') : QT ν (dOr a b) (dOr a' b') := fun η μ => SG.bind (h1 η μ) fun k μ1 => SG.ite (c := k = true) (c' := k = true) Iff.rfl (fun _ => SG.ok rfl) fun _ => h2 η μ1
theorem qTest {d d' : DE} (h : QE ν d d') : QT ν (dTest d) (dTest d') := fun η μ => SG.bind (h η μ) fun p μ1 => by
  cases p with
  | bl k => rw [gP]; exact SG.ok rfl
  | _ => exact SG.bad
noncomputable def truthG (p : PV) (μ : Sto) : Option Bool := match p with
  | .str x => if okS x = true then truth (.str x) μ else none
  | .glb _ => none
  | p => truth p μ
theorem gN_pure : ∀ l : List Nat, okN l = true → gN ν l = l
  | [], _ => rfl
  | c :: r, h => by
    have h2 : (Bool.rec (motive := fun _ => Bool) (okN r) false (Nat.ble lim c) : Bool) = true := h
    cases e : Nat.ble lim c with
    | true => rw [e] at h2; cases h2
    | false =>
      rw [e] at h2
      have hc : c < lim := Nat.lt_of_not_le fun z => by rw [Nat.ble_eq_true_of_le z] at e; cases e
      rw [gN, gN_pure r h2, gC, if_pos hc]
      rfl
theorem gTx_pure {x : Str} (h : okS x = true) : gTx ν x = x := by
  unfold gTx
  rw [gN_pure _ h]
theorem gPs_emp (ps : List PV) : (gPs ν ps).isEmpty = ps.isEmpty := by cases ps <;> rfl
theorem gTruth {p : PV} {μ : Sto} {k : Bool} (h : truthG p μ = some k) : truth (gP ν p) (gM ν μ) = some k := by
  cases p with
  | str x =>
    have h : (if okS x = true then truth (.str x) μ else none) = some k := h
    by_cases c : okS x = true
    · rw [if_pos c] at h
      rw [gP, gTx_pure c]
      exact h
    · rw [if_neg c] at h
      cases h
  | tup ps =>
    rw [gP]
    show some (!(gPs ν ps).isEmpty) = some k
    rw [gPs_emp]
    exact h
  | ref i =>
    rw [gP]
    show (seqAt (gM ν μ) i).map (fun ps => !ps.isEmpty) = some k
    have h : (seqAt μ i).map (fun ps => !ps.isEmpty) = some k := h
    rw [gSeq]
    cases e : seqAt μ i with
    | none => rw [e] at h; cases h
    | some ps =>
      rw [e] at h
      show some (!(gPs ν ps).isEmpty) = some k
      rw [gPs_emp]
      exact h
  | glb a => cases h
  | _ => rw [gP]; exact h
noncomputable def dTruG (d : DE) : DT := fun η μ => (d η μ).bind fun p μ1 => match truthG p μ1 with
  | some k => .ok k μ1
  | none => .bad
noncomputable def dOrVG (a b : DE) : DE := fun η μ => (a η μ).bind fun p μ1 => match truthG p μ1 with
  | some k => if k = true then .ok p μ1 else b η μ1
  | none => .bad
noncomputable def dAndVG (a b : DE) : DE := fun η μ => (a η μ).bind fun p μ1 => match truthG p μ1 with
  | some k => if k = true then b η μ1 else .ok p μ1
  | none => .bad
theorem qTru {d d' : DE} (h : QE ν d d') : QT ν (dTruG d) (dTru d') := fun η μ => SG.bind (h η μ) fun p μ1 => by
  cases e : truthG p μ1 with
  | none => exact SG.bad
  | some k =>
    show SG ν id (.ok k μ1) (match truth (gP ν p) (gM ν μ1) with | some k => .ok k (gM ν μ1) | none => .bad)
    rw [gTruth e]
    exact SG.ok rfl
theorem qOrV {a a' b b' : DE} (h1 : QE ν a a') (h2 : QE ν b b') : QE ν (dOrVG a b) (dOrV a' b') := fun η μ => SG.bind (h1 η μ) fun p μ1 => by
  cases e : truthG p μ1 with
  | none => exact SG.bad
  | some k =>
    show SG ν (gP ν) (if k = true then .ok p μ1 else b η μ1) (match truth (gP ν p) (gM ν μ1) with | some k => if k = true then .ok (gP ν p) (gM ν μ1) else b' (gE ν η) (gM ν μ1) | none => .bad)
    rw [gTruth e]
    exact SG.ite Iff.rfl (fun _ => SG.ok rfl) fun _ => h2 η μ1
theorem qAndV {a a' b b' : DE} (h1 : QE ν a a') (h2 : QE ν b b') : QE ν (dAndVG a b) (dAndV a' b') := fun η μ => SG.bind (h1 η μ) fun p μ1 => by
  cases e : truthG p μ1 with
  | none => exact SG.bad
  | some k =>
    show SG ν (gP ν) (if k = true then b η μ1 else .ok p μ1) (match truth (gP ν p) (gM ν μ1) with | some k => if k = true then b' (gE ν η) (gM ν μ1) else .ok (gP ν p) (gM ν μ1) | none => .bad)
    rw [gTruth e]
    exact SG.ite Iff.rfl (fun _ => h2 η μ1) fun _ => SG.ok rfl
theorem qChain {f f' g g' : VF} {a a' b b' c c' : DE} (hf : QF ν f f') (hg : QF ν g g') (h1 : QE ν a a') (h2 : QE ν b b') (h3 : QE ν c c') : QE ν (dChain f g a b c) (dChain f' g' a' b' c') := fun η μ =>
  SG.bind (h1 η μ) fun x μ1 => SG.bind (h2 η μ1) fun y μ2 => SG.bind (gb := gP ν) (by have := hf [x, y] μ2; rw [gPs, gPs, gPs] at this; exact this) fun z μ3 => by
    cases z with
    | bl k =>
      rw [gP]
      exact SG.ite Iff.rfl (fun _ => SG.bind (h3 η μ3) fun u μ4 => by have := hg [y, u] μ4; rw [gPs, gPs, gPs] at this; exact this) fun _ => SG.ok (by rw [gP])
    | _ => exact SG.bad
theorem qsNil : QS ν sNil sNil := fun η μ => SG.ok rfl
theorem qsSeq {a a' b b' : DS} (h1 : QS ν a a') (h2 : QS ν b b') : QS ν (sSeq a b) (sSeq a' b') := fun η μ => SG.bind (h1 η μ) fun o μ1 => by
  obtain ⟨o, η1⟩ := o
  cases o with
  | nx => exact h2 η1 μ1
  | _ => exact SG.ok rfl
theorem qsExpr {d d' : DE} (h : QE ν d d') : QS ν (sExpr d) (sExpr d') := fun η μ => SG.bind (h η μ) fun p μ1 => SG.ok rfl
theorem qsRet {d d' : DE} (h : QE ν d d') : QS ν (sRet d) (sRet d') := fun η μ => SG.bind (h η μ) fun p μ1 => SG.ok rfl
theorem qsIf {c c' : DT} {a a' b b' : DS} (hc : QT ν c c') (ha : QS ν a a') (hb : QS ν b b') : QS ν (sIf c a b) (sIf c' a' b') := fun η μ => SG.bind (hc η μ) fun k μ1 => SG.ite (c := k = true) (c' := k = true) Iff.rfl (fun _ => ha η μ1) fun _ => hb η μ1
theorem qsAsg {d d' : DE} {g g' : DG} (h : QE ν d d') (hg : QG ν g g') : QS ν (sAsg d g) (sAsg d' g') := fun η μ => SG.bind (h η μ) fun p μ1 => SG.bind (hg p η μ1) fun η2 μ2 => SG.ok rfl
theorem qsPar {i j : Nat} {ds ds' : DA} (h : QA ν ds ds') : QS ν (sPar i j ds) (sPar i j ds') := fun η μ => SG.bind (h η μ) fun ps μ1 => by
  match ps with
  | [p, q] =>
    rw [gPs, gPs, gPs]
    exact SG.ok (by unfold gOut; simp only [gE_set])
  | [] => exact SG.bad
  | [_] => exact SG.bad
  | _ :: _ :: _ :: _ => exact SG.bad
theorem qgSet {i : Nat} : QG ν (gSet i) (gSet i) := fun p η μ => SG.ok (by rw [gE_set]; rfl)
theorem qgNil : QGs ν gNil' gNil' := fun ps η μ => by
  cases ps with
  | nil => exact SG.ok rfl
  | cons _ _ => exact SG.bad
theorem qgCons {g g' : DG} {gs gs' : List PV → Env' → Sto → Rz Env'} (h1 : QG ν g g') (h2 : QGs ν gs gs') : QGs ν (gCons' g gs) (gCons' g' gs') := fun ps η μ => by
  cases ps with
  | nil => exact SG.bad
  | cons p r =>
    rw [gPs]
    exact SG.bind (h1 p η μ) fun η1 μ1 => h2 r η1 μ1
theorem qgTup {n : Nat} {gs gs' : List PV → Env' → Sto → Rz Env'} (h : QGs ν gs gs') : QG ν (gTupA n gs) (gTupA n gs') := fun p η μ => by
  unfold gTupA
  rw [gItems]
  cases items p μ with
  | none => exact SG.bad
  | some ps => exact SG.ite (by rw [gPs_len]) (fun _ => h ps η μ) fun _ => SG.bad
theorem q_forGo {gd gd' : Sto → Bool} {g g' : DG} {body body' : DS} (hgd : ∀ μ, gd μ = true → gd' (gM ν μ) = true) (hg : QG ν g g') (hb : QS ν body body') : ∀ (its : List PV) (η : Env') (μ : Sto), SG ν (gOut ν) (forGo gd g body its η μ) (forGo gd' g' body' (gPs ν its) (gE ν η) (gM ν μ))
  | [], η, μ => by
    rw [gPs]
    unfold forGo
    refine SG.guard fun c => ?_
    rw [if_pos (hgd μ c)]
    exact SG.ok rfl
  | p :: rest, η, μ => by
    rw [gPs]
    unfold forGo
    refine SG.guard fun c => ?_
    rw [if_pos (hgd μ c)]
    refine SG.bind (hg p η μ) fun η1 μ1 => SG.bind (hb η1 μ1) fun o μ2 => ?_
    obtain ⟨o, η2⟩ := o
    cases o with
    | nx => exact q_forGo hgd hg hb rest η2 μ2
    | ct => exact q_forGo hgd hg hb rest η2 μ2
    | bk => exact SG.ok rfl
    | rt v => exact SG.ok rfl
theorem qsFor {di di' : DI} {g g' : DG} {body body' : DS} (hi : QI ν di di') (hg : QG ν g g') (hb : QS ν body body') : QS ν (sFor di g body) (sFor di' g' body') := fun η μ => by
  unfold sFor
  cases e : di η μ with
  | ok a μ1 =>
    obtain ⟨its, gd⟩ := a
    obtain ⟨gd', e1, e2⟩ := hi η μ its gd μ1 e
    rw [e1]
    exact q_forGo e2 hg hb its η μ1
  | err C v μ1 => exact SG.err
  | bad => exact SG.bad
theorem SG.calm {α : Type} {g : α → α} {x y : Rz α} (h : SG ν g x y) : SG ν g (calmR x) (calmR y) := by
  cases x with
  | ok a μ =>
    rw [h a μ rfl]
    exact SG.ok rfl
  | _ => exact SG.bad
abbrev QL (el el' : Env' → Sto → List PV → Rz (List PV)) : Prop := ∀ η μ acc, SG ν (gPs ν) (el η μ acc) (el' (gE ν η) (gM ν μ) (gPs ν acc))
theorem q_lcGo {gd gd' : Sto → Bool} {g g' : DG} {tt tt' : DT} {el el' : Env' → Sto → List PV → Rz (List PV)} (hgd : ∀ μ, gd μ = true → gd' (gM ν μ) = true) (hg : QG ν g g') (ht : QT ν tt tt') (hl : QL (ν := ν) el el') (η : Env') :
    ∀ (its acc : List PV) (μ : Sto), SG ν (gPs ν) (lcGo gd g tt el η its acc μ) (lcGo gd' g' tt' el' (gE ν η) (gPs ν its) (gPs ν acc) (gM ν μ))
  | [], acc, μ => by
    rw [gPs]
    unfold lcGo
    refine SG.guard fun c => ?_
    rw [if_pos (hgd μ c)]
    exact SG.ok rfl
  | p :: rest, acc, μ => by
    rw [gPs]
    unfold lcGo
    refine SG.guard fun c => ?_
    rw [if_pos (hgd μ c)]
    refine SG.bind (SG.calm (hg p η μ)) fun η1 μ1 => SG.bind (SG.calm (ht η1 μ1)) fun k μ2 => ?_
    refine SG.ite (c := k = true) (c' := k = true) Iff.rfl (fun _ => ?_) fun _ => q_lcGo hgd hg ht hl η rest acc μ2
    exact SG.bind (SG.calm (hl η1 μ2 acc)) fun acc' μ3 => q_lcGo hgd hg ht hl η rest acc' μ3
theorem q_elOne {d d' : DE} (h : QE ν d d') : QL (ν := ν) (elOne d) (elOne d') := fun η μ acc => by
  unfold elOne
  rw [gPs_len]
  exact SG.ite Iff.rfl (fun _ => SG.bind (h η μ) fun p μ1 => SG.ok (by rw [gPs_app, gPs, gPs])) fun _ => SG.bad
theorem q_lcEnd (acc : List PV) (μ : Sto) : SG ν (gP ν) (lcEnd acc μ) (lcEnd (gPs ν acc) (gM ν μ)) := SG.ok (by unfold lcEnd; rw [gM_app, gM_len, gP, gO])
theorem qLc {di di' : DI} {g g' : DG} {tt tt' : DT} {d d' : DE} {vs : List Nat} (hi : QI ν di di') (hg : QG ν g g') (ht : QT ν tt tt') (hd : QE ν d d') : QE ν (dLc di g tt d vs) (dLc di' g' tt' d' vs) := fun η μ => by
  unfold dLc
  cases e : di η μ with
  | ok a μ1 =>
    obtain ⟨its, gd⟩ := a
    obtain ⟨gd', e1, e2⟩ := hi η μ its gd μ1 e
    rw [e1]
    refine SG.bind (ga := gPs ν) ?_ q_lcEnd
    have := q_lcGo e2 hg ht (q_elOne hd) (wipeE η vs) its [] μ1
    rw [gE_wipe, gPs] at this
    exact this
  | err C v μ1 => exact SG.err
  | bad => exact SG.bad
theorem q_el2 {di di' : DI} {g g' : DG} {tt tt' : DT} {d d' : DE} {vs : List Nat} (hi : QI ν di di') (hg : QG ν g g') (ht : QT ν tt tt') (hd : QE ν d d') : QL (ν := ν) (el2 di g tt d vs) (el2 di' g' tt' d' vs) := fun η μ acc => by
  unfold el2
  cases e : di η μ with
  | ok a μ1 =>
    obtain ⟨its, gd⟩ := a
    obtain ⟨gd', e1, e2⟩ := hi η μ its gd μ1 e
    rw [e1]
    have := q_lcGo e2 hg ht (q_elOne hd) (wipeE η vs) its acc μ1
    rw [gE_wipe] at this
    exact this
  | err C v μ1 => exact SG.err
  | bad => exact SG.bad
theorem qLc2 {di di' di1 di1' : DI} {g g' g1 g1' : DG} {tt tt' tt1 tt1' : DT} {d d' : DE} {vs vs1 : List Nat} (hi : QI ν di di') (hg : QG ν g g') (ht : QT ν tt tt') (hi1 : QI ν di1 di1') (hg1 : QG ν g1 g1') (ht1 : QT ν tt1 tt1') (hd : QE ν d d') :
    QE ν (dLc2 di g tt di1 g1 tt1 d vs vs1) (dLc2 di' g' tt' di1' g1' tt1' d' vs vs1) := fun η μ => by
  unfold dLc2
  cases e : di η μ with
  | ok a μ1 =>
    obtain ⟨its, gd⟩ := a
    obtain ⟨gd', e1, e2⟩ := hi η μ its gd μ1 e
    rw [e1]
    refine SG.bind (ga := gPs ν) ?_ q_lcEnd
    have := q_lcGo e2 hg ht (q_el2 (vs := vs1) hi1 hg1 ht1 hd) (wipeE η vs) its [] μ1
    rw [gE_wipe, gPs] at this
    exact this
  | err C v μ1 => exact SG.err
  | bad => exact SG.bad
theorem qYes : QT ν tYes' tYes' := fun η μ => SG.ok rfl
theorem qBody {np n : Nat} {s s' : DS} (h : QS ν s s') : QF ν (fnBody np n s) (fnBody np n s') := fun ps μ => by
  unfold fnBody
  rw [gPs_len]
  refine SG.ite Iff.rfl (fun _ => ?_) fun _ => SG.bad
  have e : (gPs ν ps).map some ++ List.replicate (n - np) none = gE ν (ps.map some ++ List.replicate (n - np) none) := by
    simp [gE, gPs_map]
  rw [e]
  refine SG.bind (h _ μ) fun o μ1 => ?_
  obtain ⟨o, η1⟩ := o
  cases o with
  | rt v => exact SG.ok rfl
  | nx => exact SG.ok (by rw [gP]; rfl)
  | _ => exact SG.bad
end
end DL
namespace DL
open PySem PySem.Spec PyProof.Rows L2
section
variable {ν : Nu} {n : Nat}
theorem q_cmpI {f : Int → Int → Bool} : QF ν (cmpI f) (cmpI f) := fun ps μ a μ' e => by
  unfold cmpI at e
  split at e
  · cases e; simp only [gPs, gP, cmpI]
  · cases e
theorem q_vLt : QF ν vLt vLt := q_cmpI
theorem q_vLe : QF ν vLe vLe := q_cmpI
theorem q_vGt : QF ν vGt vGt := q_cmpI
theorem isNon_g (p : PV) : isNon (gP ν p) = isNon p := by cases p <;> rw [gP] <;> first | rfl | (split <;> rfl)
theorem q_vIs : QF ν vIs vIs := fun ps μ a μ' e => by
  unfold vIs at e
  split at e
  · cases e; simp only [gPs, gP, vIs, isNon_g]
  · cases e; simp only [gPs, gP, vIs]
  · cases e
noncomputable def vIntG : VF := fun xs μ => match xs with
  | [.int i] => .ok (.int i) μ
  | [.bl k] => .ok (.int (if k then 1 else 0)) μ
  | [.str a] => if okS a = true then vInt [.str a] μ else .bad
  | _ => .bad
theorem int_str {a : Str} {μ μ' : Sto} {r : PV} (e : vInt [.str a] μ = .ok r μ') : ∃ n, r = .int n ∧ μ' = μ ∧ ∀ μ2, vInt [.str a] μ2 = .ok (.int n) μ2 := by
  have e : (match PySem.intText? a with | some n => if a.length ≤ 640 then Rz.ok (PV.int n) μ else .bad | none => .bad) = .ok r μ' := e
  cases h : PySem.intText? a with
  | none => rw [h] at e; cases e
  | some n =>
    rw [h] at e
    by_cases c : a.length ≤ 640
    · have e : (if a.length ≤ 640 then Rz.ok (PV.int n) μ else .bad) = .ok r μ' := e
      rw [if_pos c] at e
      cases e
      refine ⟨n, rfl, rfl, fun μ2 => ?_⟩
      show (match PySem.intText? a with | some n => if a.length ≤ 640 then Rz.ok (PV.int n) μ2 else .bad | none => .bad) = _
      rw [h]
      exact if_pos c
    · have e : (if a.length ≤ 640 then Rz.ok (PV.int n) μ else .bad) = .ok r μ' := e
      rw [if_neg c] at e
      cases e
theorem q_vInt : QF ν vIntG vInt := fun ps μ a μ' e => by
  unfold vIntG at e
  split at e
  · cases e; simp only [gPs, gP, vInt]
  · cases e; simp only [gPs, gP, vInt]
  · split at e
    · rename_i c
      obtain ⟨m, rfl, rfl, h⟩ := int_str e
      simp only [gPs, gP, gTx_pure c, h]
    · cases e
  · cases e
theorem q_vTup : QF ν vTup vTup := fun ps μ => by
  unfold vTup
  rw [gPs_len]
  exact SG.ite Iff.rfl (fun _ => SG.ok (by rw [gP])) fun _ => SG.bad
theorem q_vLst : QF ν vLst vLst := fun ps μ => by
  unfold vLst
  rw [gPs_len, gM_len]
  exact SG.ite Iff.rfl (fun _ => SG.ok (by rw [gM_app, gP, gO])) fun _ => SG.bad
theorem gPs_rep (k : Nat) (ps : List PV) : gPs ν (List.replicate k ps).flatten = (List.replicate k (gPs ν ps)).flatten := by
  induction k with
  | zero => rfl
  | succ k ih => rw [List.replicate_succ, List.replicate_succ, List.flatten_cons, List.flatten_cons, gPs_app, ih]
theorem gPs_nil {ps : List PV} : gPs ν ps = [] ↔ ps = [] := by
  cases ps with
  | nil => simp [gPs]
  | cons p r => simp [gPs]
theorem q_vMul : QF ν vMul vMul := fun ps μ a μ' e => by
  unfold vMul at e
  split at e
  · split at e
    · rename_i c
      cases e; simp only [gPs, gP, vMul, if_pos c]
    · cases e
  · rename_i i k
    split at e
    · rename_i qs hq
      split at e
      · rename_i c
        cases e
        simp only [gPs, gP, vMul, gLst, hq, Option.map_some, gPs_len, if_pos c, gM_len, gM_app, gO, gPs_rep]
      · cases e
    · cases e
  · split at e
    · rename_i c
      cases e
      simp only [gPs, gP, vMul, gPs_len, ne_eq, gPs_nil, if_pos c, gPs_rep]
    · cases e
  · cases e
theorem q_vMulA : QF ν vMulA vMulA := fun ps μ a μ' e => by
  unfold vMulA at e
  split at e
  · rename_i qs k
    split at e
    · rename_i c
      cases e
      simp only [gPs, gP, vMulA, if_pos c]
    · rename_i c
      have := q_vMul (ν := ν) [.tup qs, .int k] μ a μ' e
      simp only [gPs, gP] at this ⊢
      simp only [vMulA, if_neg c]
      exact this
  · rename_i p q h
    have := q_vMul (ν := ν) [p, q] μ a μ' e
    simp only [gPs] at this ⊢
    unfold vMulA
    split
    · rename_i ps' k' hh
      injection hh with h1 h2
      injection h2 with h2 _
      have hp : ∃ qs, p = .tup qs := by cases p <;> simp only [gP] at h1 <;> first | exact ⟨_, rfl⟩ | (split at h1 <;> cases h1) | cases h1
      obtain ⟨qs, rfl⟩ := hp
      cases q with
      | int k => exact absurd rfl (h _ _ · rfl)
      | glb a => cases e
      | _ => simp [gP] at h2
    · rename_i hh
      cases hh
      exact this
    · rename_i hh
      exact absurd rfl (hh _ _)
  · cases e
theorem gPs_append1 (ps : List PV) (p : PV) : gPs ν (ps ++ [p]) = gPs ν ps ++ [gP ν p] := by rw [gPs_app, gPs, gPs]
theorem q_vAppend : QF ν vAppend vAppend := fun ps μ a μ' e => by
  unfold vAppend at e
  split at e
  · rename_i i p
    split at e
    · rename_i qs hq
      split at e
      · rename_i c
        cases e
        simp only [gPs, gP, vAppend, gLst, hq, Option.map_some, gPs_len, if_pos c, gM_set, gO, gPs_append1]
      · cases e
    · cases e
  · cases e
theorem q_vExtend : QF ν vExtend vExtend := fun ps μ a μ' e => by
  unfold vExtend at e
  split at e
  · rename_i i j
    split at e
    · rename_i qs rs hq hr
      split at e
      · rename_i c
        cases e
        simp only [gPs, gP, vExtend, gLst, hq, hr, Option.map_some, gPs_len, if_pos c, gM_set, gO, gPs_app]
      · cases e
    · cases e
  · cases e
theorem ints_g : ∀ {ps : List PV} {l : List Int}, intsL ps = some l → intsL (gPs ν ps) = some l
  | [], _, h => by rw [gPs]; exact h
  | p :: ps, l, h => by
    cases p with
    | int i =>
      obtain ⟨m, e, rfl⟩ := Option.map_eq_some_iff.mp (show (intsL ps).map (i :: ·) = some l from h)
      rw [gPs, gP]
      show (intsL (gPs ν ps)).map (i :: ·) = _
      rw [ints_g e]
      rfl
    | _ => cases h
theorem bools_g : ∀ {ps : List PV} {l : List Bool}, boolsL ps = some l → boolsL (gPs ν ps) = some l
  | [], _, h => by rw [gPs]; exact h
  | p :: ps, l, h => by
    cases p with
    | bl i =>
      obtain ⟨m, e, rfl⟩ := Option.map_eq_some_iff.mp (show (boolsL ps).map (i :: ·) = some l from h)
      rw [gPs, gP]
      show (boolsL (gPs ν ps)).map (i :: ·) = _
      rw [bools_g e]
      rfl
    | _ => cases h
theorem q_v1L {α : Type} {g : List PV → Option α} {k : α → PV} (hg : ∀ ps a, g ps = some a → g (gPs ν ps) = some a) (hk : ∀ a, gP ν (k a) = k a) : QF ν (v1L g k) (v1L g k) := fun ps μ a μ' e => by
  unfold v1L at e
  split at e
  · rename_i i
    split at e
    · rename_i x hx
      cases e
      obtain ⟨qs, h1, h2⟩ := Option.bind_eq_some_iff.mp hx
      simp only [gPs, gP, v1L, gSeq, h1, Option.map_some, Option.bind_some, hg _ _ h2, hk]
    · cases e
  · cases e
theorem q_vSum : QF ν vSum vSum := q_v1L (fun _ _ h => ints_g h) fun a => by rw [gP]
theorem q_vAll : QF ν vAll vAll := q_v1L (fun _ _ h => bools_g h) fun a => by rw [gP]
theorem gC_len (N : Nam ν n) (c : Nat) : (gC ν c).length ≤ 8 := by
  unfold gC
  split
  · show 1 ≤ 8; omega
  · exact N.len _
theorem gN_len (N : Nam ν n) : ∀ l : List Nat, (gN ν l).length ≤ 8 * l.length
  | [] => Nat.zero_le _
  | c :: r => by
    rw [gN, List.length_append, List.length_cons]
    have := gC_len N c
    have := gN_len N r
    omega
theorem gTx_len (N : Nam ν n) (x : Str) : (gTx ν x).length ≤ 8 * x.length := by
  obtain ⟨⟨l⟩⟩ := x
  exact gN_len N l
theorem gN_app (a b : List Nat) : gN ν (a ++ b) = gN ν a ++ gN ν b := by
  induction a with
  | nil => rfl
  | cons c r ih => rw [List.cons_append, gN, gN, ih, List.append_assoc]
theorem gTx_app (x y : Str) : gTx ν (x ++ y) = gTx ν x ++ gTx ν y := by
  obtain ⟨⟨a⟩⟩ := x
  obtain ⟨⟨b⟩⟩ := y
  have e : ((⟨⟨a⟩⟩ : Str) ++ ⟨⟨b⟩⟩) = ⟨⟨a ++ b⟩⟩ := by
    show (⟨(⟨a⟩ : Array Nat) ++ ⟨b⟩⟩ : Str) = _
    simp
  have e2 : ((⟨⟨gN ν a⟩⟩ : Str) ++ ⟨⟨gN ν b⟩⟩) = ⟨⟨gN ν a ++ gN ν b⟩⟩ := by
    show (⟨(⟨gN ν a⟩ : Array Nat) ++ ⟨gN ν b⟩⟩ : Str) = _
    simp
  rw [e]
  show (⟨⟨gN ν (a ++ b)⟩⟩ : Str) = ⟨⟨gN ν a⟩⟩ ++ ⟨⟨gN ν b⟩⟩
  rw [e2, gN_app]
noncomputable def vAddG : VF := fun xs μ => match xs with
  | [.str x, .str y] => if 8 * (x.length + y.length) ≤ sizeLine then .ok (.str (x ++ y)) μ else .bad
  | xs => vAdd xs μ
theorem q_vAdd (N : Nam ν n) : QF ν vAddG vAdd := fun ps μ a μ' e => by
  unfold vAddG at e
  split at e
  · rename_i x y
    split at e
    · rename_i c
      cases e
      have h1 := gTx_len N x
      have h2 := gTx_len N y
      simp only [gPs, gP, vAdd, gTx_app]
      exact if_pos (by omega)
    · cases e
  · rename_i hx
    unfold vAdd at e
    split at e
    · cases e; simp only [gPs, gP, vAdd]
    · exact absurd rfl (hx _ _)
    · split at e
      · rename_i c
        cases e; simp only [gPs, gP, vAdd, gPs_len, if_pos c, gPs_app]
      · cases e
    · split at e
      · rename_i qs rs hq hr
        split at e
        · rename_i c
          cases e
          simp only [gPs, gP, vAdd, gLst, hq, hr, Option.map_some, gPs_len, if_pos c, gM_len, gM_app, gO, gPs_app]
        · cases e
      · cases e
    · cases e
end
end DL
namespace DL
open PySem PySem.Spec PyProof.Rows L2
section
variable {ν : Nu} {n : Nat}
noncomputable def eqX (n : Nat) (a b : Str) : Option Bool := match eqS a b with
  | true => some true
  | false => match okS a && okS b with
    | true => some false
    | false => match a.cps.toList, b.cps.toList with
      | [], _ :: _ => some false
      | _ :: _, [] => some false
      | [c], [d] => if lim ≤ c ∧ lim ≤ d ∧ c - lim < n ∧ d - lim < n then some false else none
      | _, _ => none
theorem gC_ne (N : Nam ν n) (c : Nat) : gC ν c ≠ [] := by
  unfold gC
  split
  · simp
  · exact N.ne _
theorem gN_ne (N : Nam ν n) {c : Nat} {r : List Nat} : gN ν (c :: r) ≠ [] := by
  rw [gN]
  intro h
  exact gC_ne N c (List.append_eq_nil_iff.mp h).1
theorem eqX_ok (N : Nam ν n) {a b : Str} {r : Bool} (h : eqX n a b = some r) : eqS (gTx ν a) (gTx ν b) = r := by
  unfold eqX at h
  cases e : eqS a b with
  | true =>
    rw [e] at h
    cases h
    rw [eqS_iff.mp e]
    exact eqS_iff.mpr rfl
  | false =>
    rw [e] at h
    cases e2 : okS a && okS b with
    | true =>
      rw [e2] at h
      cases h
      rw [Bool.and_eq_true] at e2
      rw [gTx_pure e2.1, gTx_pure e2.2, e]
    | false =>
      rw [e2] at h
      have no : ∀ {x y : List Nat}, a.cps.toList = x → b.cps.toList = y → gN ν x ≠ gN ν y → eqS (gTx ν a) (gTx ν b) = false := fun {x y} h1 h2 h3 => by
        cases q : eqS (gTx ν a) (gTx ν b) with
        | false => rfl
        | true =>
          have z := eqN_iff.mp (show eqN (gN ν a.cps.toList) (gN ν b.cps.toList) = true from q)
          rw [h1, h2] at z
          exact absurd z h3
      simp only at h
      split at h
      · rename_i h1 h2
        cases h
        exact no h1 h2 fun z => gN_ne N (z.symm.trans rfl)
      · rename_i h1 h2
        cases h
        exact no h1 h2 fun z => gN_ne N (z.trans rfl)
      · rename_i c d h1 h2
        split at h
        · rename_i hc
          cases h
          refine no h1 h2 fun z => ?_
          simp only [gN, List.append_nil, gC, if_neg (Nat.not_lt.mpr hc.1), if_neg (Nat.not_lt.mpr hc.2.1)] at z
          have z2 := N.inj _ _ hc.2.2.1 hc.2.2.2 z
          have z3 : c = d := by omega
          subst z3
          have : a = b := by
            obtain ⟨⟨x⟩⟩ := a
            obtain ⟨⟨y⟩⟩ := b
            have h1 : x = [c] := h1
            have h2 : y = [c] := h2
            rw [h1, h2]
          rw [this, eqS_iff.mpr rfl] at e
          cases e
        · cases h
      · cases h
theorem okN_app (a b : List Nat) : okN (a ++ b) = (okN a && okN b) := by rw [okN_eq, okN_eq, okN_eq, List.all_append]
theorem okN_g (N : Nam ν n) : ∀ l : List Nat, okN (gN ν l) = true
  | [] => rfl
  | c :: r => by
    rw [gN, okN_app, okN_g N r, Bool.and_true, okN_eq, List.all_eq_true]
    intro d hd
    unfold gC at hd
    split at hd
    · rename_i hc
      rw [List.mem_singleton.mp hd]
      exact decide_eq_true hc
    · have := (N.ok _ d hd).2
      exact decide_eq_true (by omega)
theorem okS_g (N : Nam ν n) (x : Str) : okS (gTx ν x) = true := okN_g N _
theorem pdatL_g {f f' : PV → Option PyData} (h : ∀ p d, f p = some d → d.canLay0 = true → f' (gP ν p) = some d) : ∀ {ps : List PV} {ds : List PyData}, pdatL f ps = some ds → PyData.canLayAll0 ds = true → pdatL f' (gPs ν ps) = some ds
  | [], ds, e, _ => by rw [gPs]; exact e
  | p :: ps, ds, e, c => by
    unfold pdatL at e
    cases e1 : f p with
    | none => rw [e1] at e; cases e
    | some d =>
      rw [e1] at e
      cases e2 : pdatL f ps with
      | none => rw [e2] at e; cases e
      | some ds' =>
        rw [e2] at e
        cases e
        rw [PyData.canLayAll0, Bool.and_eq_true] at c
        rw [gPs]
        unfold pdatL
        rw [h p d e1 c.1, pdatL_g h e2 c.2]
theorem pdat_g {μ : Sto} : ∀ (k : Nat) (p : PV) (d : PyData), pdat μ k p = some d → d.canLay0 = true → pdat (gM ν μ) k (gP ν p) = some d
  | 0, p, d, e, c => by
    cases p with
    | str x =>
      cases e
      rw [gP, gTx_pure (by rw [okS_eq]; exact c)]
      rfl
    | non => rw [gP]; exact e
    | bl b => rw [gP]; exact e
    | int i => rw [gP]; exact e
    | _ => cases e
  | k + 1, p, d, e, c => by
    cases p with
    | str x =>
      cases e
      rw [gP, gTx_pure (by rw [okS_eq]; exact c)]
      rfl
    | non => rw [gP]; exact e
    | bl b => rw [gP]; exact e
    | int i => rw [gP]; exact e
    | tup ps =>
      obtain ⟨ds, e1, rfl⟩ := Option.map_eq_some_iff.mp (show (pdatL (pdat μ k) ps).map PyData.tuple = some d from e)
      rw [gP]
      show (pdatL (pdat (gM ν μ) k) (gPs ν ps)).map PyData.tuple = _
      rw [pdatL_g (fun p d => pdat_g k p d) e1 (by rw [PyData.canLay0] at c; exact c)]
      rfl
    | ref i =>
      have e : (match seqAt μ i with | some ps => (pdatL (pdat μ k) ps).map PyData.list | none => none) = some d := e
      rw [gP]
      show (match seqAt (gM ν μ) i with | some ps => (pdatL (pdat (gM ν μ) k) ps).map PyData.list | none => none) = some d
      rw [gSeq]
      cases q : seqAt μ i with
      | none => rw [q] at e; cases e
      | some ps =>
        rw [q] at e
        obtain ⟨ds, e1, rfl⟩ := Option.map_eq_some_iff.mp e
        show (pdatL (pdat (gM ν μ) k) (gPs ν ps)).map PyData.list = _
        rw [pdatL_g (fun p d => pdat_g k p d) e1 (by rw [PyData.canLay0] at c; exact c)]
        rfl
    | _ => cases e
theorem gK_emp (l : List (PV × PV)) : (gK ν l).isEmpty = l.isEmpty := by cases l <;> rfl
theorem dEmp_g (μ : Sto) (p q : PV) : dEmp (gM ν μ) (gP ν p) (gP ν q) = dEmp μ p q := by
  cases p <;> cases q <;> simp only [gP] <;> (repeat' split) <;> try rfl
  rename_i i j
  show (match dctAt (gM ν μ) i, dctAt (gM ν μ) j with | some kvs, some [] => some kvs.isEmpty | _, _ => none) = (match dctAt μ i, dctAt μ j with | some kvs, some [] => some kvs.isEmpty | _, _ => none)
  rw [gDct, gDct]
  cases dctAt μ i with
  | none => rfl
  | some a =>
    cases dctAt μ j with
    | none => rfl
    | some b =>
      cases b with
      | nil => simp only [Option.map_some, gK, gK_emp]
      | cons _ _ => rfl
theorem shaped_lay {d e : PyData} (h : (SeqAt.shaped d && SeqAt.shaped e) = true) : d.canLay0 = true ∧ e.canLay0 = true := by
  rw [Bool.and_eq_true] at h
  exact ⟨SeqAt.canLay_of_shaped h.1, SeqAt.canLay_of_shaped h.2⟩
theorem q_vEqA : QF ν vEqA vEqA := fun ps μ a μ' e => by
  match ps, e with
  | [p, q], e =>
    have e : (match dEmp μ p q with | some b => Rz.ok (PV.bl b) μ | none => vEq [p, q] μ) = .ok a μ' := e
    simp only [gPs]
    show (match dEmp (gM ν μ) (gP ν p) (gP ν q) with | some b => Rz.ok (PV.bl b) (gM ν μ) | none => vEq [gP ν p, gP ν q] (gM ν μ)) = _
    rw [dEmp_g]
    cases h : dEmp μ p q with
    | some b => rw [h] at e; cases e; simp only [gP]
    | none =>
      rw [h] at e
      have e : (match pdat μ 12 p, pdat μ 12 q with | some d, some e => if (SeqAt.shaped d && SeqAt.shaped e) = true then Rz.ok (PV.bl (PyData.eqv d e)) μ else .bad | _, _ => .bad) = .ok a μ' := e
      cases h1 : pdat μ 12 p with
      | none => rw [h1] at e; cases e
      | some d1 =>
        cases h2 : pdat μ 12 q with
        | none => rw [h1, h2] at e; cases e
        | some d2 =>
          rw [h1, h2] at e
          have e : (if (SeqAt.shaped d1 && SeqAt.shaped d2) = true then Rz.ok (PV.bl (PyData.eqv d1 d2)) μ else .bad) = .ok a μ' := e
          by_cases c : (SeqAt.shaped d1 && SeqAt.shaped d2) = true
          · rw [if_pos c] at e
            cases e
            show (match pdat (gM ν μ) 12 (gP ν p), pdat (gM ν μ) 12 (gP ν q) with | some d, some e => if (SeqAt.shaped d && SeqAt.shaped e) = true then Rz.ok (PV.bl (PyData.eqv d e)) (gM ν μ) else .bad | _, _ => .bad) = _
            rw [pdat_g 12 p d1 h1 (shaped_lay c).1, pdat_g 12 q d2 h2 (shaped_lay c).2]
            simp only [gP]
            exact if_pos c
          · rw [if_neg c] at e
            cases e
theorem q_vNeA : QF ν vNeA vNeA := fun ps μ a μ' e => by
  match ps, e with
  | [p, q], e =>
    have e : (match dEmp μ p q with | some b => Rz.ok (PV.bl (!b)) μ | none => vNe [p, q] μ) = .ok a μ' := e
    simp only [gPs]
    show (match dEmp (gM ν μ) (gP ν p) (gP ν q) with | some b => Rz.ok (PV.bl (!b)) (gM ν μ) | none => vNe [gP ν p, gP ν q] (gM ν μ)) = _
    rw [dEmp_g]
    cases h : dEmp μ p q with
    | some b => rw [h] at e; cases e; simp only [gP]
    | none =>
      rw [h] at e
      have e : (match pdat μ 12 p, pdat μ 12 q with | some d, some e => if (SeqAt.shaped d && SeqAt.shaped e) = true then Rz.ok (PV.bl (!PyData.eqv d e)) μ else .bad | _, _ => .bad) = .ok a μ' := e
      cases h1 : pdat μ 12 p with
      | none => rw [h1] at e; cases e
      | some d1 =>
        cases h2 : pdat μ 12 q with
        | none => rw [h1, h2] at e; cases e
        | some d2 =>
          rw [h1, h2] at e
          have e : (if (SeqAt.shaped d1 && SeqAt.shaped d2) = true then Rz.ok (PV.bl (!PyData.eqv d1 d2)) μ else .bad) = .ok a μ' := e
          by_cases c : (SeqAt.shaped d1 && SeqAt.shaped d2) = true
          · rw [if_pos c] at e
            cases e
            show (match pdat (gM ν μ) 12 (gP ν p), pdat (gM ν μ) 12 (gP ν q) with | some d, some e => if (SeqAt.shaped d && SeqAt.shaped e) = true then Rz.ok (PV.bl (!PyData.eqv d e)) (gM ν μ) else .bad | _, _ => .bad) = _
            rw [pdat_g 12 p d1 h1 (shaped_lay c).1, pdat_g 12 q d2 h2 (shaped_lay c).2]
            simp only [gP]
            exact if_pos c
          · rw [if_neg c] at e
            cases e
noncomputable def vEqG (n : Nat) : VF := fun xs μ => match xs with
  | [.str a, .str b] => match eqX n a b with
    | some r => .ok (.bl r) μ
    | none => .bad
  | xs => vEqF xs μ
noncomputable def vNeG (n : Nat) : VF := fun xs μ => match xs with
  | [.str a, .str b] => match eqX n a b with
    | some r => .ok (.bl (!r)) μ
    | none => .bad
  | xs => vNeF xs μ
theorem q_vEq (N : Nam ν n) : QF ν (vEqG n) vEqA := fun ps μ a μ' e => by
  unfold vEqG at e
  split at e
  · rename_i x y
    split at e
    · rename_i r h
      cases e
      simp only [gPs, gP]
      rw [← vEqF_eq]
      show (if (okS (gTx ν x) && okS (gTx ν y)) = true then Rz.ok (PV.bl (eqS (gTx ν x) (gTx ν y))) (gM ν μ) else .bad) = _
      rw [okS_g N, okS_g N, eqX_ok N h]
      rfl
    · cases e
  · rw [vEqF_eq] at e
    exact q_vEqA _ _ _ _ e
theorem q_vNe (N : Nam ν n) : QF ν (vNeG n) vNeA := fun ps μ a μ' e => by
  unfold vNeG at e
  split at e
  · rename_i x y
    split at e
    · rename_i r h
      cases e
      simp only [gPs, gP]
      rw [← vNeF_eq]
      show (if (okS (gTx ν x) && okS (gTx ν y)) = true then Rz.ok (PV.bl (!eqS (gTx ν x) (gTx ν y))) (gM ν μ) else .bad) = _
      rw [okS_g N, okS_g N, eqX_ok N h]
      rfl
    · cases e
  · rw [vNeF_eq] at e
    exact q_vNeA _ _ _ _ e
end
end DL
namespace DL
open PySem PySem.Spec PyProof.Rows L2
section
variable {ν : Nu} {n : Nat}
noncomputable def okL (f : PV → Bool) (l : List PV) : Bool := List.rec (motive := fun _ => Bool) true (fun p _ ih => Bool.rec (motive := fun _ => Bool) false ih (f p)) l
noncomputable def okPn : Nat → PV → Bool
  | 0, p => match p with
    | .str x => okS x
    | .non => true
    | .bl _ => true
    | .int _ => true
    | _ => false
  | k + 1, p => match p with
    | .str x => okS x
    | .tup ps => okL (okPn k) ps
    | .non => true
    | .bl _ => true
    | .int _ => true
    | _ => false
theorem okL_iff {f : PV → Bool} : ∀ {l : List PV}, okL f l = true ↔ ∀ p ∈ l, f p = true
  | [] => ⟨fun _ _ h => (by cases h), fun _ => rfl⟩
  | p :: ps => by
    show (Bool.rec (motive := fun _ => Bool) false (okL f ps) (f p) : Bool) = true ↔ _
    cases e : f p with
    | false => simp [e]
    | true =>
      show okL f ps = true ↔ _
      rw [okL_iff]
      simp [e]
theorem gPs_id : ∀ {ps : List PV}, (∀ p ∈ ps, gP ν p = p) → gPs ν ps = ps
  | [], _ => by rw [gPs]
  | p :: ps, h => by rw [gPs, h p (by simp), gPs_id fun q hq => h q (by simp [hq])]
theorem okPn_id : ∀ {k : Nat} {p : PV}, okPn k p = true → gP ν p = p
  | 0, p, h => by
    cases p with
    | str x => rw [gP, gTx_pure h]
    | non => rw [gP]
    | bl b => rw [gP]
    | int i => rw [gP]
    | _ => cases h
  | k + 1, p, h => by
    cases p with
    | str x => rw [gP, gTx_pure h]
    | non => rw [gP]
    | bl b => rw [gP]
    | int i => rw [gP]
    | tup ps =>
      rw [gP, gPs_id fun q hq => okPn_id (okL_iff.mp h q hq)]
    | _ => cases h
theorem bareL_iff : ∀ {l : List PV}, bareL l = true ↔ ∀ p ∈ l, bareP p = true
  | [] => ⟨fun _ _ h => (by cases h), fun _ => by rw [bareL]⟩
  | p :: ps => by rw [bareL, Bool.and_eq_true, bareL_iff]; simp
theorem okPn_bare : ∀ {k : Nat} {p : PV}, okPn k p = true → bareP p = true
  | 0, p, h => by cases p <;> first | (cases h; done) | simp [bareP]
  | k + 1, p, h => by
    cases p with
    | tup ps => rw [bareP]; exact bareL_iff.mpr fun q hq => okPn_bare (okL_iff.mp h q hq)
    | ref i => cases h
    | ty n => cases h
    | glb a => cases h
    | exc _ _ => cases h
    | _ => simp [bareP]
noncomputable def eqKX (n : Nat) (a b : PV) : Option Bool := match a with
  | .str x => match b with
    | .str y => eqX n x y
    | _ => none
  | .int i => match b with
    | .int j => some (decide (i = j))
    | _ => none
  | .tup xs => match b with
    | .tup ys => match okPn 6 (.tup xs) && okPn 6 (.tup ys) with
      | true => some (eqPn 6 (.tup xs) (.tup ys))
      | false => none
    | _ => none
  | _ => none
theorem eqKX_ok (N : Nam ν n) {a b : PV} {r : Bool} (h : eqKX n a b = some r) : decide (gP ν a = gP ν b) = r := by
  unfold eqKX at h
  split at h
  · split at h
    · have := eqX_ok N h
      rw [gP, gP, ← this, Bool.eq_iff_iff, decide_eq_true_eq, eqS_iff]
      simp
    · cases h
  · split at h
    · cases h
      rw [gP, gP, Bool.eq_iff_iff]
      simp
    · cases h
  · split at h
    · split at h
      · rename_i c
        cases h
        rw [Bool.and_eq_true] at c
        rw [okPn_id c.1, okPn_id c.2, eqPn_eq]
      · cases h
    · cases h
  · cases h
noncomputable def dgetX (n : Nat) (kvs : List (PV × PV)) (k : PV) : Option (Option PV) := List.rec (motive := fun _ => Option (Option PV)) (some none) (fun q _ ih => match eqKX n q.1 k with
  | some true => some (some q.2)
  | some false => ih
  | none => none) kvs
theorem dgetX_ok (N : Nam ν n) {k : PV} : ∀ {kvs : List (PV × PV)} {o : Option PV}, dgetX n kvs k = some o → dget (gK ν kvs) (gP ν k) = o.map (gP ν)
  | [], o, h => by
    have h : (some none : Option (Option PV)) = some o := h
    cases h
    rfl
  | q :: r, o, h => by
    have h : (match eqKX n q.1 k with | some true => some (some q.2) | some false => dgetX n r k | none => none) = some o := h
    rw [gK]
    unfold dget
    rw [List.find?_cons]
    cases e : eqKX n q.1 k with
    | none => rw [e] at h; cases h
    | some b =>
      rw [e] at h
      simp only [eqKX_ok N e]
      cases b with
      | true => cases h; rfl
      | false => exact dgetX_ok N h
noncomputable def noneX (n : Nat) (kvs : List (PV × PV)) (k : PV) : Bool := List.rec (motive := fun _ => Bool) true (fun q _ ih => match eqKX n q.1 k with
  | some false => ih
  | _ => false) kvs
theorem noneX_ok (N : Nam ν n) {k : PV} : ∀ {kvs : List (PV × PV)}, noneX n kvs k = true → ∀ q ∈ gK ν kvs, decide (q.1 = gP ν k) = false
  | [], _, q, hq => by rw [gK] at hq; cases hq
  | p :: r, h, q, hq => by
    have h : (match eqKX n p.1 k with | some false => noneX n r k | _ => false) = true := h
    rw [gK] at hq
    split at h
    · rename_i e
      rcases List.mem_cons.mp hq with z | z
      · rw [z]
        exact eqKX_ok N e
      · exact noneX_ok N h q z
    · cases h
noncomputable def dputX (n : Nat) (kvs : List (PV × PV)) (k v : PV) : Option (List (PV × PV)) := List.rec (motive := fun _ => Option (List (PV × PV))) (some [(k, v)]) (fun q r ih => match eqKX n q.1 k with
  | some true => match noneX n r k with
    | true => some ((q.1, v) :: r)
    | false => none
  | some false => match ih with
    | some l => some (q :: l)
    | none => none
  | none => none) kvs
theorem dput_none {k v : PV} : ∀ {l : List (PV × PV)}, (∀ q ∈ l, decide (q.1 = k) = false) → l.map (fun kv => if kv.1 = k then (kv.1, v) else kv) = l
  | [], _ => rfl
  | q :: r, h => by
    rw [List.map_cons, dput_none fun z hz => h z (by simp [hz]), if_neg (of_decide_eq_false (h q (by simp)))]
theorem dput_cons {k v : PV} {q : PV × PV} {r : List (PV × PV)} : dput (q :: r) k v = if q.1 = k then (q.1, v) :: r.map (fun kv => if kv.1 = k then (kv.1, v) else kv) else q :: dput r k v := by
  unfold dput
  rw [List.any_cons]
  by_cases c : q.1 = k
  · rw [if_pos c, if_pos (by rw [decide_eq_true c]; rfl), List.map_cons, if_pos c]
  · rw [if_neg c, decide_eq_false c, Bool.false_or]
    split
    · rw [List.map_cons, if_neg c]
    · rfl
theorem dputX_ok (N : Nam ν n) {k v : PV} : ∀ {kvs l : List (PV × PV)}, dputX n kvs k v = some l → dput (gK ν kvs) (gP ν k) (gP ν v) = gK ν l
  | [], l, h => by
    have h : some [(k, v)] = some l := h
    cases h
    rfl
  | q :: r, l, h => by
    have h : (match eqKX n q.1 k with
      | some true => match noneX n r k with
        | true => some ((q.1, v) :: r)
        | false => none
      | some false => match dputX n r k v with
        | some l => some (q :: l)
        | none => none
      | none => none) = some l := h
    rw [gK, dput_cons]
    cases e : eqKX n q.1 k with
    | none => rw [e] at h; cases h
    | some b =>
      have e2 := eqKX_ok N e
      rw [e] at h
      cases b with
      | true =>
        rw [if_pos (of_decide_eq_true e2)]
        cases e3 : noneX n r k with
        | false => rw [e3] at h; cases h
        | true =>
          rw [e3] at h
          cases h
          rw [dput_none (noneX_ok N e3), gK]
      | false =>
        rw [if_neg (of_decide_eq_false e2)]
        cases e3 : dputX n r k v with
        | none => rw [e3] at h; cases h
        | some l' =>
          rw [e3] at h
          cases h
          rw [dputX_ok N e3, gK]
theorem isTup_g (p : PV) : isTup (gP ν p) = isTup p := by cases p <;> rw [gP] <;> first | rfl | (split <;> rfl)
noncomputable def keyG (kvs : List (PV × PV)) (k : PV) : Bool := match k with
  | .tup xs => match okPn 6 (.tup xs) with
    | true => keyIn kvs (.tup xs)
    | false => false
  | k => keyIn kvs k
theorem keyG_ok {kvs : List (PV × PV)} {k : PV} (h : keyG kvs k = true) : keyIn (gK ν kvs) (gP ν k) = true := by
  cases k with
  | str x =>
    have h : keyIn kvs (.str x) = true := h
    rw [gP]
    cases kvs with
    | nil => rfl
    | cons q r =>
      rw [gK]
      show (true && (isTup (gP ν q.1) == false)) = true
      rw [isTup_g]
      exact h
  | int x =>
    have h : keyIn kvs (.int x) = true := h
    rw [gP]
    cases kvs with
    | nil => rfl
    | cons q r =>
      rw [gK]
      show (true && (isTup (gP ν q.1) == false)) = true
      rw [isTup_g]
      exact h
  | tup xs =>
    have h : (match okPn 6 (.tup xs) with | true => keyIn kvs (.tup xs) | false => false) = true := h
    cases c : okPn 6 (.tup xs) with
    | false => rw [c] at h; cases h
    | true =>
      rw [c] at h
      have h : keyIn kvs (.tup xs) = true := h
      rw [okPn_id c]
      cases kvs with
      | nil => exact h
      | cons q r =>
        rw [gK]
        have h : ((match nkOf (.tup xs) with | some n => decide (n.depth ≤ 8) | none => false) && (isTup q.1 == isTup (.tup xs))) = true := h
        show ((match nkOf (.tup xs) with | some n => decide (n.depth ≤ 8) | none => false) && (isTup (gP ν q.1) == isTup (.tup xs))) = true
        rw [isTup_g]
        exact h
  | _ => cases h
theorem gK_len (l : List (PV × PV)) : (gK ν l).length = l.length := by rw [gK_map, List.length_map]
theorem atI_g (ps : List PV) (z : Int) : L2.atI (gPs ν ps) z = (L2.atI ps z).map (gP ν) := by
  unfold L2.atI
  rw [gPs_len]
  cases L2.ixN ps.length z with
  | none => rfl
  | some k => exact gPs_get ps k
noncomputable def vIxG (n : Nat) : VF := fun xs μ => match xs with
  | [.ref i, k] => match dctAt μ i with
    | some kvs => if keyG kvs k = true then match dgetX n kvs k with
        | some (some v) => .ok v μ
        | _ => .bad
      else .bad
    | none => match k with
      | .int z => vItem [.ref i, .int z] μ
      | _ => .bad
  | [.tup ps, .int z] => vItem [.tup ps, .int z] μ
  | [.str x, .int z] => if okS x = true then match vItem [.str x, .int z] μ with
      | .ok (.str y) _ => if okS y = true then .ok (.str y) μ else .bad
      | _ => .bad
    else .bad
  | _ => .bad
theorem item_str {x : Str} {z : Int} {μ μ' : Sto} {r : PV} (e : vItem [.str x, .int z] μ = .ok r μ') : ∀ μ2, vItem [.str x, .int z] μ2 = .ok r μ2 := fun μ2 => by
  have e : (if x.length ≤ sizeLine then match L2.atI x.cps.toList z with | some c => Rz.ok (PV.str ⟨#[c]⟩) μ | none => .bad else .bad) = .ok r μ' := e
  show (if x.length ≤ sizeLine then match L2.atI x.cps.toList z with | some c => Rz.ok (PV.str ⟨#[c]⟩) μ2 | none => .bad else .bad) = .ok r μ2
  by_cases c : x.length ≤ sizeLine
  · rw [if_pos c] at e ⊢
    cases h : L2.atI x.cps.toList z with
    | none => rw [h] at e; cases e
    | some d => rw [h] at e; cases e; rfl
  · rw [if_neg c] at e
    cases e
theorem q_vIx (N : Nam ν n) : QF ν (vIxG n) vIx := fun ps μ a μ' e => by
  unfold vIxG at e
  split at e
  · rename_i i k
    split at e
    · rename_i kvs hk
      split at e
      · rename_i c
        split at e
        · rename_i v ho
          cases e
          simp only [gPs, gP, vIx, gDct, hk, Option.map_some, keyG_ok c, if_true, dgetX_ok N ho]
        · cases e
      · cases e
    · rename_i hk
      split at e
      · rename_i z
        simp only [gPs, gP, vIx, gDct, hk, Option.map_none]
        have e : (match (seqAt μ i).bind fun ps => L2.atI ps z with | some p => Rz.ok p μ | none => .bad) = .ok a μ' := e
        show (match (seqAt (gM ν μ) i).bind fun ps => L2.atI ps z with | some p => Rz.ok p (gM ν μ) | none => .bad) = _
        rw [gSeq]
        cases h : seqAt μ i with
        | none => rw [h] at e; cases e
        | some qs =>
          rw [h] at e
          simp only [Option.map_some, Option.bind_some, atI_g] at e ⊢
          cases h2 : L2.atI qs z with
          | none => rw [h2] at e; cases e
          | some p => rw [h2] at e; cases e; rfl
      · cases e
  · rename_i qs z
    simp only [gPs, gP]
    have e : (match L2.atI qs z with | some p => Rz.ok p μ | none => .bad) = .ok a μ' := e
    show (match L2.atI (gPs ν qs) z with | some p => Rz.ok p (gM ν μ) | none => .bad) = _
    rw [atI_g]
    cases h2 : L2.atI qs z with
    | none => rw [h2] at e; cases e
    | some p => rw [h2] at e; cases e; rfl
  · rename_i x z
    split at e
    · rename_i c
      split at e
      · rename_i y μ1 h
        split at e
        · rename_i c2
          cases e
          simp only [gPs, gP, gTx_pure c, gTx_pure c2]
          exact item_str h _
        · cases e
      · cases e
    · cases e
  · cases e
noncomputable def vLenG : VF := fun xs μ => match xs with
  | [.str z] => if okS z = true then vLen [.str z] μ else .bad
  | xs => vLen xs μ
theorem q_vLen : QF ν vLenG vLen := fun ps μ a μ' e => by
  unfold vLenG at e
  split at e
  · rename_i z
    split at e
    · rename_i c
      simp only [gPs, gP, gTx_pure c]
      have e : (match (if z.length ≤ sizeLine then some z.length else none) with | some n => Rz.ok (PV.int n) μ | none => .bad) = .ok a μ' := e
      show (match (if z.length ≤ sizeLine then some z.length else none) with | some n => Rz.ok (PV.int n) (gM ν μ) | none => .bad) = _
      by_cases c2 : z.length ≤ sizeLine
      · rw [if_pos c2] at e ⊢
        cases e
        simp only [gP]
      · rw [if_neg c2] at e
        cases e
    · cases e
  · rename_i hx
    match ps, e with
    | [p], e =>
      simp only [gPs]
      have e : (match lenOf μ p with | some n => Rz.ok (PV.int n) μ | none => .bad) = .ok a μ' := e
      show (match lenOf (gM ν μ) (gP ν p) with | some n => Rz.ok (PV.int n) (gM ν μ) | none => .bad) = _
      have h : lenOf (gM ν μ) (gP ν p) = lenOf μ p := by
        cases p with
        | str z => exact absurd rfl (hx z)
        | tup qs => rw [gP]; show some (gPs ν qs).length = some qs.length; rw [gPs_len]
        | ref i =>
          rw [gP]
          show (match dctAt (gM ν μ) i with | some kvs => some kvs.length | none => (seqAt (gM ν μ) i).map (fun l : List PV => l.length)) = (match dctAt μ i with | some kvs => some kvs.length | none => (seqAt μ i).map (fun l : List PV => l.length))
          rw [gDct, gSeq]
          cases dctAt μ i with
          | some kvs => simp only [Option.map_some, gK_len]
          | none =>
            cases seqAt μ i with
            | none => rfl
            | some qs => simp only [Option.map_none, Option.map_some, gPs_len]
        | glb a => rw [gP]; split <;> rfl
        | _ => rw [gP]; rfl
      rw [h]
      cases h2 : lenOf μ p with
      | none => rw [h2] at e; cases e
      | some m => rw [h2] at e; cases e; simp only [gP]
end
end DL
namespace DL
open PySem PySem.Spec PyProof.Rows L2
section
variable {ν : Nu} {n : Nat}
noncomputable def memX (n : Nat) (x : Str) (l : List Str) : Option Bool := List.rec (motive := fun _ => Option Bool) (some false) (fun y _ ih => match eqX n y x with
  | some true => some true
  | some false => ih
  | none => none) l
theorem memX_ok (N : Nam ν n) {x : Str} : ∀ {l : List Str} {r : Bool}, memX n x l = some r → memS (gTx ν x) (l.map (gTx ν)) = r
  | [], r, h => by
    have h : some false = some r := h
    cases h
    rfl
  | y :: l, r, h => by
    have h : (match eqX n y x with | some true => some true | some false => memX n x l | none => none) = some r := h
    show (Bool.rec (motive := fun _ => Bool) (memS (gTx ν x) (l.map (gTx ν))) true (eqS (gTx ν y) (gTx ν x)) : Bool) = r
    cases e : eqX n y x with
    | none => rw [e] at h; cases h
    | some b =>
      rw [e] at h
      rw [eqX_ok N e]
      cases b with
      | true => cases h; rfl
      | false => exact memX_ok N h
theorem strs_g : ∀ {ps : List PV} {l : List Str}, strsL ps = some l → strsL (gPs ν ps) = some (l.map (gTx ν))
  | [], l, h => by cases h; rfl
  | p :: ps, l, h => by
    cases p with
    | str x =>
      obtain ⟨m, e, rfl⟩ := Option.map_eq_some_iff.mp (show (strsL ps).map (x :: ·) = some l from h)
      rw [gPs, gP]
      show (strsL (gPs ν ps)).map (gTx ν x :: ·) = _
      rw [strs_g e]
      rfl
    | _ => cases h
theorem okSs_g (N : Nam ν n) : ∀ l : List Str, okSs (l.map (gTx ν)) = true
  | [] => rfl
  | y :: l => by
    show (Bool.rec (motive := fun _ => Bool) false (okSs (l.map (gTx ν))) (okS (gTx ν y)) : Bool) = true
    rw [okS_g N]
    exact okSs_g N l
theorem in_list {μ : Sto} {i : Nat} {ps : List PV} {ys : List Str} {x : Str} (hd : dctAt μ i = none) (h : seqAt μ i = some ps) (e : strsL ps = some ys) (h1 : okS x = true) (h2 : okSs ys = true) : isIn μ (.str x) (.ref i) = some (memS x ys) := by
  show (match dctAt μ i with | some kvs => if keyIn kvs (.str x) = true then some (dget kvs (.str x)).isSome else none | none => inSeq μ (.str x) (.ref i)) = _
  rw [hd]
  show (match pdat μ 12 (.str x), pdat μ 12 (.ref i) with
          | some d, some (.list ds) => if (SeqAt.shaped d && SeqAt.shaped (.list ds)) = true then some (ds.any fun z => PyData.eqv z d) else none
          | some d, some (.tuple ds) => if (SeqAt.shaped d && SeqAt.shaped (.tuple ds)) = true then some (ds.any fun z => PyData.eqv z d) else none
          | _, _ => none) = _
  have e1 : pdat μ 12 (.ref i) = some (.list (ys.map PyData.str)) := by
    show (match seqAt μ i with | some ps => (pdatL (pdat μ 11) ps).map PyData.list | none => none) = _
    rw [h]
    show (pdatL (pdat μ 11) ps).map PyData.list = _
    rw [strsL_pdat (n := 10) e]
    rfl
  have e2 : pdat μ 12 (.str x) = some (.str x) := rfl
  rw [e1, e2]
  have e3 : SeqAt.shaped (.list (ys.map PyData.str)) = okSs ys := by
    simp [SeqAt.shaped, PyData.canLay0, PyData.depth, canLay_strs, depth_strs]
  show (if (SeqAt.shaped (.str x) && SeqAt.shaped (.list (ys.map PyData.str))) = true then some ((ys.map PyData.str).any fun z => PyData.eqv z (.str x)) else none) = _
  rw [e3, shaped_str, memS_eq, h1, h2]
  rfl
noncomputable def inG (n : Nat) (μ : Sto) (p c : PV) : Option Bool := match c with
  | .str z => match p with
    | .str x => match okS x && okS z with
      | true => isIn μ (.str x) (.str z)
      | false => none
    | _ => none
  | .tup ps => match p with
    | .str x => match strsL ps with
      | some ys => memX n x ys
      | none => isIn μ (.str x) (.tup ps)
    | p => isIn μ p (.tup ps)
  | .ref i => match dctAt μ i with
    | some kvs => if keyG kvs p = true then match dgetX n kvs p with
        | some o => some o.isSome
        | none => none
      else none
    | none => match p with
      | .str x => match (seqAt μ i).bind strsL with
        | some ys => memX n x ys
        | none => inSeq μ (.str x) (.ref i)
      | p => inSeq μ p (.ref i)
  | _ => none
theorem inSeq_g {μ : Sto} {p c : PV} {b : Bool} (hp : ∀ z, c ≠ .str z) (h : inSeq μ p c = some b) : inSeq (gM ν μ) (gP ν p) (gP ν c) = some b := by
  have gen : ∀ (μ : Sto) (p c : PV), (∀ z, c ≠ .str z) → inSeq μ p c = (match pdat μ 12 p, pdat μ 12 c with
          | some d, some (.list ds) => if (SeqAt.shaped d && SeqAt.shaped (.list ds)) = true then some (ds.any fun z => PyData.eqv z d) else none
          | some d, some (.tuple ds) => if (SeqAt.shaped d && SeqAt.shaped (.tuple ds)) = true then some (ds.any fun z => PyData.eqv z d) else none
          | _, _ => none) := fun μ p c hc => by
    cases c with
    | str z => exact absurd rfl (hc z)
    | _ => rfl
  have hp' : ∀ z, gP ν c ≠ .str z := fun z => by
    cases c with
    | str y => exact absurd rfl (hp y)
    | glb a => rw [gP]; split <;> simp
    | _ => simp [gP]
  rw [gen _ _ _ hp] at h
  rw [gen _ _ _ hp']
  cases e1 : pdat μ 12 p with
  | none => rw [e1] at h; cases h
  | some d =>
    cases e2 : pdat μ 12 c with
    | none => rw [e1, e2] at h; cases h
    | some f =>
      rw [e1, e2] at h
      cases f with
      | list ds =>
        have h : (if (SeqAt.shaped d && SeqAt.shaped (.list ds)) = true then some (ds.any fun z => PyData.eqv z d) else none) = some b := h
        by_cases c1 : (SeqAt.shaped d && SeqAt.shaped (.list ds)) = true
        · rw [pdat_g 12 p d e1 (shaped_lay c1).1, pdat_g 12 c _ e2 (shaped_lay c1).2]
          exact h
        · rw [if_neg c1] at h
          cases h
      | tuple ds =>
        have h : (if (SeqAt.shaped d && SeqAt.shaped (.tuple ds)) = true then some (ds.any fun z => PyData.eqv z d) else none) = some b := h
        by_cases c1 : (SeqAt.shaped d && SeqAt.shaped (.tuple ds)) = true
        · rw [pdat_g 12 p d e1 (shaped_lay c1).1, pdat_g 12 c _ e2 (shaped_lay c1).2]
          exact h
        · rw [if_neg c1] at h
          cases h
      | _ => cases h
theorem inG_ok (N : Nam ν n) {μ : Sto} {p c : PV} {b : Bool} (h : inG n μ p c = some b) : isIn (gM ν μ) (gP ν p) (gP ν c) = some b := by
  unfold inG at h
  split at h
  · rename_i z
    split at h
    · rename_i x
      split at h
      · rename_i hc
        rw [Bool.and_eq_true] at hc
        rw [gP, gP, gTx_pure hc.1, gTx_pure hc.2]
        exact h
      · cases h
    · cases h
  · rename_i ps
    have tupc : ∀ p : PV, isIn μ p (.tup ps) = some b → isIn (gM ν μ) (gP ν p) (gP ν (.tup ps)) = some b := fun p h => by
      have h : inSeq μ p (.tup ps) = some b := h
      have z := inSeq_g (ν := ν) (fun z e => by cases e) h
      rw [gP] at z ⊢
      exact z
    split at h
    · rename_i x
      split at h
      · rename_i ys e
        rw [gP, gP, ← inF_eq]
        show (match strsL (gPs ν ps) with | some ys => if (okS (gTx ν x) && okSs ys) = true then some (memS (gTx ν x) ys) else none | none => isIn (gM ν μ) (.str (gTx ν x)) (.tup (gPs ν ps))) = some b
        rw [strs_g e]
        show (if (okS (gTx ν x) && okSs (ys.map (gTx ν))) = true then some (memS (gTx ν x) (ys.map (gTx ν))) else none) = some b
        rw [okS_g N, okSs_g N, memX_ok N h]
        rfl
      · exact tupc _ h
    · exact tupc _ h
  · rename_i i
    split at h
    · rename_i kvs hk
      split at h
      · rename_i c
        split at h
        · rename_i o ho
          cases h
          rw [show gP ν (.ref i) = .ref i from by rw [gP]]
          show (match dctAt (gM ν μ) i with | some kvs => if keyIn kvs (gP ν p) = true then some (dget kvs (gP ν p)).isSome else none | none => inSeq (gM ν μ) (gP ν p) (.ref i)) = _
          rw [gDct, hk]
          show (if keyIn (gK ν kvs) (gP ν p) = true then some (dget (gK ν kvs) (gP ν p)).isSome else none) = _
          rw [if_pos (keyG_ok c), dgetX_ok N ho]
          cases o <;> rfl
        · cases h
      · cases h
    · rename_i hk
      have hk' : dctAt (gM ν μ) i = none := by rw [gDct, hk]; rfl
      have plain : ∀ p : PV, inSeq μ p (.ref i) = some b → isIn (gM ν μ) (gP ν p) (gP ν (.ref i)) = some b := fun p h => by
        have z := inSeq_g (ν := ν) (fun z e => by cases e) h
        rw [show gP ν (.ref i) = .ref i from by rw [gP]] at z ⊢
        show (match dctAt (gM ν μ) i with | some kvs => if keyIn kvs (gP ν p) = true then some (dget kvs (gP ν p)).isSome else none | none => inSeq (gM ν μ) (gP ν p) (.ref i)) = _
        rw [hk']
        exact z
      split at h
      · rename_i x
        split at h
        · rename_i ys hy
          obtain ⟨ps, h1, h2⟩ := Option.bind_eq_some_iff.mp hy
          rw [gP, gP]
          rw [in_list hk' (by rw [gSeq, h1]; rfl) (strs_g h2) (okS_g N x) (okSs_g N ys), memX_ok N h]
        · exact plain _ h
      · exact plain _ h
  · cases h
noncomputable def vInG (n : Nat) : VF := fun xs μ => match xs with
  | [p, c] => match inG n μ p c with
    | some b => .ok (.bl b) μ
    | none => .bad
  | _ => .bad
noncomputable def vNotInG (n : Nat) : VF := fun xs μ => match xs with
  | [p, c] => match inG n μ p c with
    | some b => .ok (.bl (!b)) μ
    | none => .bad
  | _ => .bad
theorem q_vIn (N : Nam ν n) : QF ν (vInG n) vIn := fun ps μ a μ' e => by
  unfold vInG at e
  split at e
  · rename_i p c
    split at e
    · rename_i b h
      cases e
      simp only [gPs, gP, vIn, inG_ok N h]
    · cases e
  · cases e
theorem q_vNotIn (N : Nam ν n) : QF ν (vNotInG n) vNotIn := fun ps μ a μ' e => by
  unfold vNotInG at e
  split at e
  · rename_i p c
    split at e
    · rename_i b h
      cases e
      simp only [gPs, gP, vNotIn, inG_ok N h]
    · cases e
  · cases e
theorem cut_g (ps : List PV) (lo hi : Option Int) : cut (gPs ν ps) lo hi = gPs ν (cut ps lo hi) := by
  unfold cut
  rw [gPs_len, gPs_map, gPs_map, ← List.map_drop, ← List.map_take]
noncomputable def vCutG (p : PV) (lo hi : Option Int) (μ : Sto) : Rz PV := match p with
  | .str z => match okS z && okS (cutS z lo hi) with
    | true => vCut (.str z) lo hi μ
    | false => .bad
  | p => vCut p lo hi μ
theorem q_vCut (p : PV) (lo hi : Option Int) (μ : Sto) : SG ν (gP ν) (vCutG p lo hi μ) (vCut (gP ν p) lo hi (gM ν μ)) := fun a μ' e => by
  cases p with
  | str z =>
    have e : (match okS z && okS (cutS z lo hi) with | true => vCut (.str z) lo hi μ | false => .bad) = .ok a μ' := e
    cases c : okS z && okS (cutS z lo hi) with
    | false => rw [c] at e; cases e
    | true =>
      rw [c] at e
      rw [Bool.and_eq_true] at c
      rw [gP, gTx_pure c.1]
      have e : (if z.length ≤ sizeLine then Rz.ok (PV.str (cutS z lo hi)) μ else .bad) = .ok a μ' := e
      show (if z.length ≤ sizeLine then Rz.ok (PV.str (cutS z lo hi)) (gM ν μ) else .bad) = _
      by_cases c2 : z.length ≤ sizeLine
      · rw [if_pos c2] at e ⊢
        cases e
        rw [gP, gTx_pure c.2]
      · rw [if_neg c2] at e
        cases e
  | tup ps =>
    have e : Rz.ok (PV.tup (cut ps lo hi)) μ = .ok a μ' := e
    cases e
    rw [gP, gP]
    show Rz.ok (PV.tup (cut (gPs ν ps) lo hi)) (gM ν μ) = _
    rw [cut_g]
  | ref i =>
    have e : (match seqAt μ i with | some ps => Rz.ok (PV.ref μ.length) (μ ++ [MObj.lst (cut ps lo hi)]) | none => .bad) = .ok a μ' := e
    rw [gP]
    show (match seqAt (gM ν μ) i with | some ps => Rz.ok (PV.ref (gM ν μ).length) (gM ν μ ++ [MObj.lst (cut ps lo hi)]) | none => .bad) = _
    rw [gSeq]
    cases h : seqAt μ i with
    | none => rw [h] at e; cases e
    | some ps =>
      rw [h] at e
      cases e
      simp only [Option.map_some, gM_len, gM_app, gO, cut_g, gP]
  | _ => cases e
theorem qNoPart : QO ν dNoPart dNoPart := fun η μ => SG.ok rfl
theorem qPart {d d' : DE} (h : QE ν d d') : QO ν (dPart d) (dPart d') := fun η μ => SG.bind (h η μ) fun p μ1 => by
  cases p with
  | int i => rw [gP]; exact SG.ok rfl
  | _ => exact SG.bad
noncomputable def dCutG (a : DE) (lo hi : DO) : DE := fun η μ => (a η μ).bind fun p μ1 => (lo η μ1).bind fun l μ2 => (hi η μ2).bind fun h μ3 => vCutG p l h μ3
theorem qCut {a a' : DE} {l l' h h' : DO} (h1 : QE ν a a') (h2 : QO ν l l') (h3 : QO ν h h') : QE ν (dCutG a l h) (dCut a' l' h') := fun η μ => SG.bind (h1 η μ) fun p μ1 => SG.bind (h2 η μ1) fun x μ2 => SG.bind (h3 η μ2) fun y μ3 => q_vCut p x y μ3
end
end DL
namespace DL
open PySem PySem.Spec PyProof.Rows L2
section
variable {ν : Nu} {n : Nat}
theorem gK_fst (l : List (PV × PV)) : (gK ν l).map (·.1) = gPs ν (l.map (·.1)) := by
  rw [gK_map, gPs_map, List.map_map, List.map_map]
  rfl
theorem gK_snd (l : List (PV × PV)) : (gK ν l).map (·.2) = gPs ν (l.map (·.2)) := by
  rw [gK_map, gPs_map, List.map_map, List.map_map]
  rfl
theorem signs_g {z : Str} (h : okS z = true) : gPs ν (signs z) = signs z := by
  refine gPs_id fun p hp => ?_
  unfold signs at hp
  obtain ⟨c, hc, rfl⟩ := List.mem_map.mp hp
  rw [gP, gTx_pure]
  unfold okS at h
  rw [okN_eq, List.all_eq_true] at h
  show okN [c] = true
  rw [okN_eq]
  simp [of_decide_eq_true (h c hc)]
noncomputable def vListG : VF := fun xs μ => match xs with
  | [.str z] => if okS z = true then vListB [.str z] μ else .bad
  | [.ref i] => vListA [.ref i] μ
  | [.tup ps] => vListA [.tup ps] μ
  | _ => .bad
theorem q_vList : QF ν vListG vListB := fun ps μ a μ' e => by
  unfold vListG at e
  split at e
  · rename_i z
    split at e
    · rename_i c
      simp only [gPs, gP, gTx_pure c]
      have e : (if z.length ≤ sizeLine then Rz.ok (PV.ref μ.length) (μ ++ [MObj.lst (signs z)]) else .bad) = .ok a μ' := e
      show (if z.length ≤ sizeLine then Rz.ok (PV.ref (gM ν μ).length) (gM ν μ ++ [MObj.lst (signs z)]) else .bad) = _
      by_cases c2 : z.length ≤ sizeLine
      · rw [if_pos c2] at e ⊢
        cases e
        simp only [gM_len, gM_app, gO, gP, signs_g c]
      · rw [if_neg c2] at e
        cases e
    · cases e
  · rename_i i
    simp only [gPs, gP]
    have e : (match dctAt μ i with | some kvs => Rz.ok (PV.ref μ.length) (μ ++ [MObj.lst (kvs.map fun q : PV × PV => q.1)]) | none => (match seqAt μ i with | some ps => Rz.ok (PV.ref μ.length) (μ ++ [MObj.lst ps]) | none => .bad)) = .ok a μ' := e
    show (match dctAt (gM ν μ) i with | some kvs => Rz.ok (PV.ref (gM ν μ).length) (gM ν μ ++ [MObj.lst (kvs.map fun q : PV × PV => q.1)]) | none => (match seqAt (gM ν μ) i with | some ps => Rz.ok (PV.ref (gM ν μ).length) (gM ν μ ++ [MObj.lst ps]) | none => .bad)) = _
    rw [gDct, gSeq]
    cases h : dctAt μ i with
    | some kvs =>
      rw [h] at e
      cases e
      simp only [Option.map_some, gM_len, gM_app, gO, gP, gK_fst]
    | none =>
      rw [h] at e
      cases h2 : seqAt μ i with
      | none => rw [h2] at e; cases e
      | some qs =>
        rw [h2] at e
        cases e
        simp only [Option.map_some, Option.map_none, gM_len, gM_app, gO, gP]
  · rename_i qs
    have e : Rz.ok (PV.ref μ.length) (μ ++ [MObj.lst qs]) = .ok a μ' := e
    cases e
    simp only [gPs, gP]
    show Rz.ok (PV.ref (gM ν μ).length) (gM ν μ ++ [MObj.lst (gPs ν qs)]) = _
    simp only [gM_len, gM_app, gO]
  · cases e
noncomputable def vTupleG : VF := fun xs μ => match xs with
  | [.str z] => if okS z = true then vTupleA [.str z] μ else .bad
  | [.ref i] => vTuple [.ref i] μ
  | [.tup ps] => .ok (.tup ps) μ
  | _ => .bad
theorem q_vTuple : QF ν vTupleG vTupleA := fun ps μ a μ' e => by
  unfold vTupleG at e
  split at e
  · rename_i z
    split at e
    · rename_i c
      simp only [gPs, gP, gTx_pure c]
      have e : (if z.length ≤ sizeLine then Rz.ok (PV.tup (signs z)) μ else .bad) = .ok a μ' := e
      show (if z.length ≤ sizeLine then Rz.ok (PV.tup (signs z)) (gM ν μ) else .bad) = _
      by_cases c2 : z.length ≤ sizeLine
      · rw [if_pos c2] at e ⊢
        cases e
        simp only [gP, signs_g c]
      · rw [if_neg c2] at e
        cases e
    · cases e
  · rename_i i
    simp only [gPs, gP]
    have e : (match seqAt μ i with | some ps => Rz.ok (PV.tup ps) μ | none => .bad) = .ok a μ' := e
    show (match seqAt (gM ν μ) i with | some ps => Rz.ok (PV.tup ps) (gM ν μ) | none => .bad) = _
    rw [gSeq]
    cases h2 : seqAt μ i with
    | none => rw [h2] at e; cases e
    | some qs =>
      rw [h2] at e
      cases e
      simp only [Option.map_some, gP]
  · rename_i qs
    cases e
    simp only [gPs, gP]
    rfl
  · cases e
theorem splitG_app {c : Nat} {xs : List Nat} (h : ∀ d ∈ xs, d ≠ c) : ∀ (acc rest : List Nat), splitG c acc (xs ++ rest) = splitG c (xs.reverse ++ acc) rest := by
  induction xs with
  | nil => intro acc rest; rfl
  | cons x xs ih =>
    intro acc rest
    rw [List.cons_append, splitG, if_neg (h x (by simp)), ih (fun d hd => h d (by simp [hd]))]
    rw [List.reverse_cons, List.append_assoc]
    rfl
theorem split_g (N : Nam ν n) {c : Nat} (hc : c < 97) : ∀ (l acc : List Nat), splitG c (gN ν acc.reverse).reverse (gN ν l) = (splitG c acc l).map (gN ν)
  | [], acc => by
    show splitG c (gN ν acc.reverse).reverse [] = _
    rw [splitG, splitG, List.reverse_reverse]
    rfl
  | d :: r, acc => by
    rw [gN, splitG]
    by_cases e : d = c
    · subst e
      rw [if_pos rfl, gC, if_pos (show d < lim from by unfold lim; omega)]
      rw [List.cons_append, List.nil_append, splitG, if_pos rfl, List.reverse_reverse, List.map_cons]
      have ih := split_g N hc r []
      rw [List.reverse_nil, gN, List.reverse_nil] at ih
      rw [ih]
    · rw [if_neg e]
      have no : ∀ x ∈ gC ν d, x ≠ c := fun x hx => by
        unfold gC at hx
        split at hx
        · rw [List.mem_singleton.mp hx]; exact e
        · have := (N.ok _ x hx).1
          omega
      rw [splitG_app no, ← split_g N hc r (d :: acc), List.reverse_cons, gN_app, List.reverse_append]
      congr 2
      show (gC ν d).reverse = (gC ν d ++ gN ν []).reverse
      rw [gN, List.append_nil]
noncomputable def vSplitG : VF := fun xs μ => match xs with
  | [.str a, .str ⟨⟨[c]⟩⟩] => if c < 97 then (if 8 * a.length + 2 ≤ sizeLine then .ok (.ref μ.length) (μ ++ [.lst (splitK c a.cps.toList [])]) else .bad) else .bad
  | _ => .bad
theorem q_vSplit (N : Nam ν n) : QF ν vSplitG vSplit := fun ps μ a μ' e => by
  unfold vSplitG at e
  split at e
  · rename_i x c
    split at e
    · rename_i hc
      split at e
      · rename_i hl
        cases e
        have hp : gTx ν ⟨⟨[c]⟩⟩ = ⟨⟨[c]⟩⟩ := gTx_pure (show okN [c] = true from by rw [okN_eq]; simp; omega)
        have h2 := gTx_len N x
        simp only [gPs, gP, hp]
        rw [← vSplitF_eq]
        show (if c < 256 then (if (gTx ν x).length + 2 ≤ sizeLine then Rz.ok (PV.ref (gM ν μ).length) (gM ν μ ++ [MObj.lst (splitK c (gTx ν x).cps.toList [])]) else .bad) else vSplit [.str (gTx ν x), .str ⟨⟨[c]⟩⟩] (gM ν μ)) = _
        rw [if_pos (by omega), if_pos (by omega), gM_len, gM_app, gO]
        have e3 : splitK c (gTx ν x).cps.toList [] = gPs ν (splitK c x.cps.toList []) := by
          rw [splitK_eq, splitK_eq, gPs_map, List.map_map]
          have := split_g N hc x.cps.toList []
          rw [List.reverse_nil, gN, List.reverse_nil] at this
          show (splitG c [] (gN ν x.cps.toList)).map _ = _
          rw [this, List.map_map]
          refine List.map_congr_left fun p _ => ?_
          show PV.str ⟨⟨gN ν p⟩⟩ = gP ν (PV.str ⟨⟨p⟩⟩)
          rw [gP]
          rfl
        rw [e3]
      · cases e
    · cases e
  · cases e
theorem map_pure : ∀ {ys : List Str}, okSs ys = true → ys.map (gTx ν) = ys
  | [], _ => rfl
  | y :: ys, h => by
    have h : (Bool.rec (motive := fun _ => Bool) false (okSs ys) (okS y) : Bool) = true := h
    cases e : okS y with
    | false => rw [e] at h; cases h
    | true =>
      rw [e] at h
      rw [List.map_cons, gTx_pure e, map_pure h]
noncomputable def vCountG : VF := fun xs μ => match xs with
  | [.str a, .str b] => if (okS a && okS b) = true then vCount [.str a, .str b] μ else .bad
  | _ => .bad
theorem q_vCount : QF ν vCountG vCount := fun ps μ a μ' e => by
  unfold vCountG at e
  split at e
  · split at e
    · rename_i c
      rw [Bool.and_eq_true] at c
      simp only [vCount] at e
      cases e
      simp only [gPs, gP, gTx_pure c.1, gTx_pure c.2, vCount]
    · cases e
  · cases e
noncomputable def vReprG : VF := fun xs μ => match xs with
  | [.tup ps] => match okPn 6 (.tup ps) with
    | true => match reprD [] (.tup ps) with
      | some z => match okS z with
        | true => .ok (.str z) μ
        | false => .bad
      | none => .bad
    | false => .bad
  | [.bl b] => .ok (.str (if b = true then Str.ofString "True" else Str.ofString "False")) μ
  | [.non] => .ok (.str (Str.ofString "None")) μ
  | _ => .bad
theorem q_vRepr : QF ν vReprG vRepr := fun ps μ a μ' e => by
  unfold vReprG at e
  split at e
  · rename_i qs
    split at e
    · rename_i c
      split at e
      · rename_i z hz
        split at e
        · rename_i cz
          cases e
          simp only [gPs, okPn_id c]
          show (match reprD (gM ν μ) (.tup qs) with | some z => Rz.ok (PV.str z) (gM ν μ) | none => .bad) = _
          have : reprD (gM ν μ) (.tup qs) = some z := by
            rw [← hz]
            unfold reprD
            rw [pdat_bare (μ := gM ν μ) 12 (.tup qs) (okPn_bare c)]
          rw [this, gP, gTx_pure cz]
        · cases e
      · cases e
    · cases e
  · rename_i b
    cases e
    simp only [gPs, gP]
    have : ∀ x : Str, okS x = true → gTx ν x = x := fun x h => gTx_pure h
    cases b with
    | true => rw [show (if true = true then Str.ofString "True" else Str.ofString "False") = Str.ofString "True" from rfl, this _ (by kernel_rfl)]; rfl
    | false => rw [show (if false = true then Str.ofString "True" else Str.ofString "False") = Str.ofString "False" from rfl, this _ (by kernel_rfl)]; rfl
  · cases e
    simp only [gPs, gP]
    rw [gTx_pure (show okS (Str.ofString "None") = true from by kernel_rfl)]
    rfl
  · cases e
end
end DL
namespace DL
open PySem PySem.Spec PyProof.Rows L2
section
variable {ν : Nu} {n : Nat}
theorem tgOf_g {p : PV} {μ : Sto} {t : Tg} (h : tgOf p μ = some t) : tgOf (gP ν p) (gM ν μ) = some t := by
  rw [← h]
  cases p with
  | glb a => cases h
  | ref i =>
    rw [gP]
    unfold tgOf
    simp only [gM_get]
    cases μ[i]? with
    | none => rfl
    | some o => cases o <;> rfl
  | _ => rw [gP]; rfl
theorem q_vIsi {f : Tg → Option Bool} : QF ν (vIsi f) (vIsi f) := fun ps μ a μ' e => by
  unfold vIsi at e
  split at e
  · rename_i p
    split at e
    · rename_i b h
      cases e
      obtain ⟨t, ht, _⟩ := Option.bind_eq_some_iff.mp h
      simp only [gPs, vIsi, tgOf_g ht, ← ht, h, gP]
    · cases e
  · cases e
noncomputable def vLenSetG : VF := fun xs μ => match xs with
  | [.ref i] => match (seqAt μ i).bind strsL with
    | some ys => match okSs ys with
      | true => vLenSet [.ref i] μ
      | false => .bad
    | none => .bad
  | _ => .bad
theorem strsOf_strsL : ∀ {ps : List PV} {ys : List Str}, strsL ps = some ys → strsOf ps = some ys
  | [], _, h => by cases h; rfl
  | p :: ps, ys, h => by
    cases p with
    | str x =>
      obtain ⟨m, e, rfl⟩ := Option.map_eq_some_iff.mp (show (strsL ps).map (x :: ·) = some ys from h)
      have ih := strsOf_strsL e
      simp only [strsOf, ih, Option.map_some]
    | _ => cases h
theorem q_vLenSet : QF ν vLenSetG vLenSet := fun ps μ a μ' e => by
  unfold vLenSetG at e
  split at e
  · rename_i i
    split at e
    · rename_i ys hy
      split at e
      · rename_i c
        obtain ⟨qs, h1, h2⟩ := Option.bind_eq_some_iff.mp hy
        have e : (match (seqAt μ i).bind strsOf with | some ss => if ss.length < 1000 then Rz.ok (PV.int (difS ss []).length) μ else .bad | none => .bad) = .ok a μ' := e
        rw [h1, Option.bind_some, strsOf_strsL h2] at e
        simp only [gPs, gP]
        show (match (seqAt (gM ν μ) i).bind strsOf with | some ss => if ss.length < 1000 then Rz.ok (PV.int (difS ss []).length) (gM ν μ) else .bad | none => .bad) = _
        rw [gSeq, h1]
        have e9 : (Option.map (gPs ν) (some qs)).bind strsOf = some ys := by
          show strsOf (gPs ν qs) = some ys
          rw [strsOf_strsL (strs_g h2), map_pure c]
        rw [e9]
        have e : (if ys.length < 1000 then Rz.ok (PV.int (difS ys []).length) μ else .bad) = .ok a μ' := e
        by_cases c2 : ys.length < 1000
        · rw [if_pos c2] at e
          cases e
          rw [gP]
          exact if_pos c2
        · rw [if_neg c2] at e
          cases e
      · cases e
    · cases e
  · cases e
noncomputable def srcG (p : PV) (μ : Sto) : Option (List PV × (Sto → Bool)) := match p with
  | .str z => match okS z with
    | true => some (signs z, fun _ => true)
    | false => none
  | .tup ps => some (ps, fun _ => true)
  | .ref i => match seqAt μ i with
    | some ps => some (ps, fun μ' => sameSeqF μ' i ps)
    | none => none
  | _ => none
theorem same_g {μ : Sto} {i : Nat} {ps : List PV} (h : sameSeqF μ i ps = true) : sameSeq (gM ν μ) i (gPs ν ps) = true := by
  rw [sameSeqF_eq] at h
  have z := sameSeq_of h
  unfold sameSeq
  rw [gSeq, z]
  exact PV.beqs_self _
theorem sameKvs_self : ∀ l : List (PV × PV), sameKvs l l = true
  | [] => rfl
  | q :: r => by
    show (PV.beq q.1 q.1 && PV.beq q.2 q.2 && sameKvs r r) = true
    rw [PV.beq_self, PV.beq_self, sameKvs_self r]
    rfl
theorem sameD_g {μ : Sto} {i : Nat} {ps : List (PV × PV)} (h : sameDctF μ i ps = true) : sameDct (gM ν μ) i (gK ν ps) = true := by
  rw [sameDctF_eq] at h
  unfold sameDct at h ⊢
  rw [gDct]
  cases e : dctAt μ i with
  | none => rw [e] at h; cases h
  | some qs =>
    rw [e] at h
    rw [sameKvs_of h]
    exact sameKvs_self _
theorem srcG_ok {p : PV} {μ : Sto} {its : List PV} {gd : Sto → Bool} (h : srcG p μ = some (its, gd)) : ∃ gd', srcOf (gP ν p) (gM ν μ) = some (gPs ν its, gd') ∧ ∀ μ, gd μ = true → gd' (gM ν μ) = true := by
  unfold srcG at h
  split at h
  · rename_i z
    split at h
    · rename_i c
      cases h
      refine ⟨fun _ => true, ?_, fun _ _ => rfl⟩
      rw [gP, gTx_pure c, signs_g c]
      rfl
    · cases h
  · cases h
    refine ⟨fun _ => true, ?_, fun _ _ => rfl⟩
    rw [gP]
    rfl
  · rename_i i
    split at h
    · rename_i ps hs
      cases h
      refine ⟨fun μ' => sameSeq μ' i (gPs ν its), ?_, fun μ h => same_g h⟩
      rw [gP]
      simp only [srcOf, gSeq, hs, Option.map_some]
    · cases h
  · cases h
noncomputable def srcKG (p : PV) (μ : Sto) : Option (List PV × (Sto → Bool)) := match p with
  | .ref i => match dctAt μ i with
    | some kvs => some (kvs.map (·.1), fun μ' => sameDctF μ' i kvs)
    | none => srcG p μ
  | _ => srcG p μ
theorem srcKG_ok {p : PV} {μ : Sto} {its : List PV} {gd : Sto → Bool} (h : srcKG p μ = some (its, gd)) : ∃ gd', srcK (gP ν p) (gM ν μ) = some (gPs ν its, gd') ∧ ∀ μ, gd μ = true → gd' (gM ν μ) = true := by
  cases p with
  | ref i =>
    have h : (match dctAt μ i with | some kvs => some (kvs.map (fun q : PV × PV => q.1), fun μ' => sameDctF μ' i kvs) | none => srcG (.ref i) μ) = some (its, gd) := h
    cases e : dctAt μ i with
    | some kvs =>
      rw [e] at h
      cases h
      refine ⟨fun μ' => sameDct μ' i (gK ν kvs), ?_, fun μ h => sameD_g h⟩
      rw [gP]
      simp only [srcK, gDct, e, Option.map_some]
      rw [gK_fst]
    | none =>
      rw [e] at h
      obtain ⟨gd', h1, h2⟩ := srcG_ok (ν := ν) h
      refine ⟨gd', ?_, h2⟩
      rw [gP] at h1 ⊢
      simp only [srcK, gDct, e, Option.map_none]
      exact h1
  | tup ps =>
    obtain ⟨gd', h1, h2⟩ := srcG_ok (ν := ν) (show srcG (.tup ps) μ = some (its, gd) from h)
    refine ⟨gd', ?_, h2⟩
    rw [gP] at h1 ⊢
    exact h1
  | str z =>
    obtain ⟨gd', h1, h2⟩ := srcG_ok (ν := ν) (show srcG (.str z) μ = some (its, gd) from h)
    refine ⟨gd', ?_, h2⟩
    rw [gP] at h1 ⊢
    exact h1
  | _ => cases h
noncomputable def dItAG (d : DE) : DI := fun η μ => (d η μ).bind fun p μ1 => match srcKG p μ1 with
  | some x => .ok x μ1
  | none => .bad
theorem bind_of {α β : Type} {r : Rz α} {f : α → Sto → Rz β} {b : β} {μ : Sto} (h : r.bind f = .ok b μ) : ∃ a μ1, r = .ok a μ1 ∧ f a μ1 = .ok b μ := by
  cases r with
  | ok a μ1 => exact ⟨a, μ1, rfl, h⟩
  | _ => cases h
theorem qItA {d d' : DE} (h : QE ν d d') : QI ν (dItAG d) (dItA d') := fun η μ its gd μ' e => by
  obtain ⟨p, μ1, e1, e2⟩ := bind_of e
  split at e2
  · rename_i x hx
    cases e2
    obtain ⟨gd', h1, h2⟩ := srcKG_ok (ν := ν) hx
    refine ⟨gd', ?_, h2⟩
    unfold dItA
    rw [h η μ _ _ e1]
    simp only [bindOk, h1]
  · cases e2
theorem enum_g : ∀ (l : List PV) (k : Nat), gPs ν ((enum2 l k).map PV.tup) = (enum2 (gPs ν l) k).map PV.tup
  | [], k => rfl
  | p :: r, k => by
    rw [enum2, List.map_cons, gPs, gP, gPs, gPs, gPs, gP, enum_g r (k + 1), gPs, enum2, List.map_cons]
noncomputable def dEnumG (d : DE) : DI := fun η μ => (d η μ).bind fun p μ1 => match srcG p μ1 with
  | some x => .ok ((enum2 x.1 0).map PV.tup, x.2) μ1
  | none => .bad
theorem qEnum {d d' : DE} (h : QE ν d d') : QI ν (dEnumG d) (dEnum d') := fun η μ its gd μ' e => by
  obtain ⟨p, μ1, e1, e2⟩ := bind_of e
  split at e2
  · rename_i x hx
    cases e2
    obtain ⟨gd', h1, h2⟩ := srcG_ok (ν := ν) (its := x.1) (gd := x.2) hx
    refine ⟨gd', ?_, h2⟩
    unfold dEnum
    rw [h η μ _ _ e1]
    simp only [bindOk, h1, enum_g]
  · cases e2
theorem qVals {d d' : DE} (h : QE ν d d') : QI ν (dValsF d) (dVals d') := fun η μ its gd μ' e => by
  obtain ⟨p, μ1, e1, e2⟩ := bind_of e
  split at e2
  · rename_i i
    split at e2
    · rename_i kvs hk
      cases e2
      refine ⟨fun μ' => sameDct μ' i (gK ν kvs), ?_, fun μ h => sameD_g h⟩
      unfold dVals
      rw [h η μ _ _ e1]
      simp only [bindOk, gP, gDct, hk, Option.map_some]
      rw [gK_snd]
    · cases e2
  · cases e2
theorem items_g (l : List (PV × PV)) : gPs ν ((l.map fun kv => [kv.1, kv.2]).map PV.tup) = ((gK ν l).map fun kv => [kv.1, kv.2]).map PV.tup := by
  induction l with
  | nil => rfl
  | cons q r ih => simp only [List.map_cons, gPs, gP, gK] at ih ⊢; rw [ih]
theorem qItems {d d' : DE} (h : QE ν d d') : QI ν (dItemsF d) (dItems d') := fun η μ its gd μ' e => by
  obtain ⟨p, μ1, e1, e2⟩ := bind_of e
  split at e2
  · rename_i i
    split at e2
    · rename_i kvs hk
      cases e2
      refine ⟨fun μ' => sameDct μ' i (gK ν kvs), ?_, fun μ h => sameD_g h⟩
      unfold dItems
      rw [h η μ _ _ e1]
      simp only [bindOk, gP, gDct, hk, Option.map_some]
      rw [items_g]
    · cases e2
  · cases e2
theorem qM {tp : PV → Sto → Bool} (ht : ∀ p μ, tp p μ = true → tp (gP ν p) (gM ν μ) = true) {f f' : VF} {d d' : DE} {ds ds' : DA} (hf : QF ν f f') (h : QE ν d d') (hs : QA ν ds ds') : QE ν (dM tp f d ds) (dM tp f' d' ds') := fun η μ => SG.bind (h η μ) fun p μ1 => by
  refine SG.guard fun c => ?_
  rw [if_pos (ht p μ1 c)]
  refine SG.bind (hs η μ1) fun ps μ2 => ?_
  have := hf (p :: ps) μ2
  rw [gPs] at this
  exact this
theorem t_str (p : PV) (μ : Sto) (h : isStrP p μ = true) : isStrP (gP ν p) (gM ν μ) = true := by
  cases p <;> first | (cases h; done) | (rw [gP]; rfl)
theorem t_lst (p : PV) (μ : Sto) (h : isLstP p μ = true) : isLstP (gP ν p) (gM ν μ) = true := by
  cases p with
  | ref i =>
    rw [gP]
    show (seqAt (gM ν μ) i).isSome = true
    rw [gSeq]
    have h : (seqAt μ i).isSome = true := h
    cases e : seqAt μ i with
    | none => rw [e] at h; cases h
    | some _ => rfl
  | _ => cases h
theorem isIns_g (C : Addr) (m : Str) (p : PV) (μ : Sto) : isIns C m (gP ν p) (gM ν μ) = isIns C m p μ := by
  cases p with
  | ref i =>
    rw [gP]
    unfold isIns
    simp only [gM_get]
    cases μ[i]? with
    | none => rfl
    | some o =>
      cases o with
      | ins D fs =>
        show (decide (D = C) && ((gF ν fs).lookup m).isNone) = (decide (D = C) && (fs.lookup m).isNone)
        rw [gF_lookup]
        cases fs.lookup m <;> rfl
      | _ => rfl
  | glb a => rw [gP]; split <;> rfl
  | _ => rw [gP]; rfl
theorem qMeth {C : Addr} {m : Str} {f f' : VF} {o o' : DE} {ds ds' : DA} (hf : QF ν f f') (h : QE ν o o') (hs : QA ν ds ds') : QE ν (dMeth C m f o ds) (dMeth C m f' o' ds') := fun η μ => SG.bind (h η μ) fun p μ1 => by
  rw [isIns_g]
  refine SG.ite Iff.rfl (fun _ => SG.bind (hs η μ1) fun ps μ2 => ?_) fun _ => SG.bad
  have := hf (p :: ps) μ2
  rw [gPs] at this
  exact this
theorem qMake {C : Addr} {f f' : VF} (hf : QF ν f f') : QF ν (vMake C f) (vMake C f') := fun ps μ => by
  unfold vMake
  refine SG.bind (ga := gP ν) ?_ fun r μ1 => ?_
  · have := hf (.ref μ.length :: ps) (μ ++ [.ins C []])
    rw [gPs, gP, gM_app, gO, gF] at this
    rw [gM_len]
    exact this
  · cases r with
    | non => rw [gP, gM_len]; exact SG.ok (by rw [gP])
    | _ => exact SG.bad
theorem qProp {C : Addr} {f f' : VF} (hf : QF ν f f') : QF ν (vProp C f) (vProp C f') := fun ps μ a μ' e => by
  unfold vProp at e
  split at e
  · rename_i i
    split at e
    · rename_i D fs hi
      split at e
      · rename_i c
        have := hf [.ref i] μ a μ' e
        simp only [gPs, gP] at this ⊢
        unfold vProp
        simp only [gM_get, hi, Option.map_some, gO, if_pos c]
        exact this
      · cases e
    · cases e
  · cases e
theorem qFld {C : Addr} {f : Str} : QF ν (vFld C f) (vFld C f) := fun ps μ a μ' e => by
  unfold vFld at e
  split at e
  · rename_i i
    split at e
    · rename_i D fs hi
      split at e
      · rename_i c
        split at e
        · rename_i p hp
          cases e
          simp only [gPs, gP, vFld, gM_get, hi, Option.map_some, gO, if_pos c, gF_lookup, hp]
        · cases e
      · cases e
    · cases e
  · cases e
theorem gF_put (f : Str) (v : PV) : ∀ l : List (Str × PV), gF ν (putD f v l) = putD f (gP ν v) (gF ν l)
  | [] => rfl
  | (g, x) :: r => by
    show gF ν (if g = f then (g, v) :: r else (g, x) :: putD f v r) = if g = f then (g, gP ν v) :: gF ν r else (g, gP ν x) :: putD f (gP ν v) (gF ν r)
    by_cases c : g = f
    · rw [if_pos c, if_pos c, gF]
    · rw [if_neg c, if_neg c, gF, gF_put f v r]
theorem gF_len (l : List (Str × PV)) : (gF ν l).length = l.length := by rw [gF_map, List.length_map]
theorem qsFld {C : Addr} {f : Str} {o o' v v' : DE} (h1 : QE ν o o') (h2 : QE ν v v') : QS ν (sFldSet C f o v) (sFldSet C f o' v') := fun η μ => SG.bind (h2 η μ) fun p μ1 => SG.bind (h1 η μ1) fun q μ2 => by
  cases q with
  | ref i =>
    rw [gP]
    simp only [gM_get]
    cases hi : μ2[i]? with
    | none => exact SG.bad
    | some ob =>
      cases ob with
      | ins D fs =>
        simp only [Option.map_some, gO]
        refine SG.ite (by rw [gF_len]) (fun _ => SG.ok ?_) fun _ => SG.bad
        rw [gM_set, gO, gF_put]
        rfl
      | _ => exact SG.bad
  | _ => exact SG.bad
noncomputable def vStoreG (n : Nat) (o i v : PV) (μ : Sto) : Option Sto := match o with
  | .ref j => match dctAt μ j with
    | some kvs => if keyG kvs i = true ∧ kvs.length < sizeLine then match dputX n kvs i v with
        | some l => some (μ.set j (.dct l))
        | none => none
      else none
    | none => match i with
      | .int k => match (isLst μ j).bind (storeL (.int k) v) with
        | some ps => some (μ.set j (.lst ps))
        | none => none
      | _ => none
  | _ => none
theorem gPs_set (ps : List PV) (k : Nat) (v : PV) : gPs ν (ps.set k v) = (gPs ν ps).set k (gP ν v) := by rw [gPs_map, gPs_map, List.map_set]
theorem vStoreG_ok (N : Nam ν n) {o i v : PV} {μ μ' : Sto} (h : vStoreG n o i v μ = some μ') : vStore (gP ν o) (gP ν i) (gP ν v) (gM ν μ) = some (gM ν μ') := by
  unfold vStoreG at h
  split at h
  · rename_i j
    split at h
    · rename_i kvs hk
      split at h
      · rename_i c
        split at h
        · rename_i l hl
          cases h
          rw [show gP ν (.ref j) = .ref j from by rw [gP]]
          simp only [vStore, gDct, hk, Option.map_some, gK_len, dputX_ok N hl, gM_set, gO]
          exact if_pos ⟨keyG_ok c.1, c.2⟩
        · cases h
      · cases h
    · rename_i hk
      split at h
      · rename_i k
        split at h
        · rename_i ps hps
          cases h
          rw [show gP ν (.ref j) = .ref j from by rw [gP], show gP ν (.int k) = .int k from by rw [gP]]
          obtain ⟨qs, h1, h2⟩ := Option.bind_eq_some_iff.mp hps
          have h2 : (L2.ixN qs.length k).map (fun n => qs.set n v) = some ps := h2
          obtain ⟨m, h3, h4⟩ := Option.map_eq_some_iff.mp h2
          subst h4
          simp only [vStore, gDct, hk, Option.map_none, gLst, h1, Option.map_some, Option.bind_some, storeL, gPs_len, h3, gM_set, gO, gPs_set]
        · cases h
      · cases h
  · cases h
noncomputable def gItemG (n : Nat) (d1 d2 : DE) : DG := fun p η μ => (d1 η μ).bind fun o μ1 => (d2 η μ1).bind fun i μ2 => match vStoreG n o i p μ2 with
  | some μ3 => match o with
    | .ref j => frAt j μ3 fun μ3 => .ok η μ3
    | _ => .ok η μ3
  | none => .bad
theorem qgItem (N : Nam ν n) {d1 d1' d2 d2' : DE} (h1 : QE ν d1 d1') (h2 : QE ν d2 d2') : QG ν (gItemG n d1 d2) (gItem d1' d2') := fun p η μ => SG.bind (h1 η μ) fun o μ1 => SG.bind (h2 η μ1) fun i μ2 => by
  cases e : vStoreG n o i p μ2 with
  | none => exact SG.bad
  | some μ3 =>
    have z := vStoreG_ok N e
    simp only [z]
    cases o <;> simp only [frAt_eq] <;> exact SG.ok rfl
theorem bare_g : ∀ p : PV, bareP p = true → bareP (gP ν p) = true
  | .tup ps, h => by
    rw [gP, bareP, gPs_map]
    rw [bareP] at h
    refine bareL_iff.mpr fun q hq => ?_
    obtain ⟨r, hr, rfl⟩ := List.mem_map.mp hq
    exact bare_g r (bareL_iff.mp h r hr)
  | .str x, _ => by rw [gP]; simp [bareP]
  | .non, _ => by rw [gP]; simp [bareP]
  | .bl _, _ => by rw [gP]; simp [bareP]
  | .int _, _ => by rw [gP]; simp [bareP]
  | .ty _, _ => by rw [gP]; simp [bareP]
  | .glb _, _ => by rw [gP]; split <;> simp [bareP]
  | .exc C v, h => by
    rw [gP, bareP]
    rw [bareP] at h
    exact bare_g v h
  | .ref _, h => by simp [bareP] at h
theorem bareL_g {ps : List PV} (h : bareL ps = true) : bareL (gPs ν ps) = true := by
  rw [gPs_map]
  refine bareL_iff.mpr fun q hq => ?_
  obtain ⟨r, hr, rfl⟩ := List.mem_map.mp hq
  exact bare_g r (bareL_iff.mp h r hr)
theorem qApart {f f' : VF} (hf : QF ν f f') : QF ν (vApart f) (vApart f') := fun ps μ a μ' e => by
  unfold vApart at e
  split at e
  · rename_i c
    split at e
    · rename_i p μ1 h
      split at e
      · rename_i c2
        cases e
        unfold vApart
        have := hf ps [] _ _ h
        rw [if_pos (bareL_g c), show (gM ν [] : Sto) = [] from rfl] at *
        rw [this]
        exact if_pos (bare_g _ c2)
      · cases e
    · cases e
  · cases e
/-- a def that is asked of a name: what it tells of each name is known -/
noncomputable def vNameOk (f : VF) : VF := fun xs μ => match xs with
  | [.str ⟨⟨[c]⟩⟩] => if lim ≤ c then .ok (.bl true) μ else vApart f [.str ⟨⟨[c]⟩⟩] μ
  | xs => vApart f xs μ
theorem qNameOk {f f' : VF} (hn : ∀ i μ, vApart f' [.str ⟨⟨ν i⟩⟩] μ = .ok (.bl true) μ) (hf : QF ν f f') : QF ν (vNameOk f) (vApart f') := fun ps μ a μ' e => by
  unfold vNameOk at e
  split at e
  · rename_i c
    split at e
    · rename_i hc
      cases e
      have e2 : gTx ν ⟨⟨[c]⟩⟩ = ⟨⟨ν (c - lim)⟩⟩ := by
        show (⟨⟨gN ν [c]⟩⟩ : Str) = _
        simp only [gN, List.append_nil, gC, if_neg (Nat.not_lt.mpr hc)]
      simp only [gPs, gP, e2, hn]
    · exact qApart hf _ _ _ _ e
  · exact qApart hf _ _ _ _ e
end
end DL
namespace DL
open PySem PySem.Spec PyProof.Rows L2
section
variable {ν : Nu} {n : Nat}
theorem qCs {x y : Str} (h : okS x = true) (e : x = y) : QE ν (dC (.str x)) (dC (.str y)) := qC (by rw [gP, gTx_pure h, e])
theorem qCi {i : Int} : QE ν (dC (.int i)) (dC (.int i)) := qC (by rw [gP])
theorem qCb {b : Bool} : QE ν (dC (.bl b)) (dC (.bl b)) := qC (by rw [gP])
theorem qCn : QE ν (dC .non) (dC .non) := qC (by rw [gP])
theorem qNewD : QE ν dNewD dNewD := fun η μ => SG.ok (by unfold dNewD; rw [gM_app, gM_len, gP, gO, gK])
noncomputable def vNameOkF (f : VF) : VF := fun xs μ => match xs with
  | [.str ⟨⟨[c]⟩⟩] => if lim ≤ c then .ok (.bl true) μ else vApartF f [.str ⟨⟨[c]⟩⟩] μ
  | xs => vApartF f xs μ
theorem vNameOkF_eq : vNameOkF = vNameOk := by
  funext f xs μ
  unfold vNameOkF vNameOk
  simp only [vApartF_eq]
  try rfl
end
def nu (x y : Str) : Nu := ⟨fun i => match i with
  | 0 => x.cps.toList
  | _ + 1 => y.cps.toList, fun _ => 0⟩
noncomputable def nameS (x : Str) : Bool := match x.cps.toList with
  | [] => false
  | c :: r => Nat.ble (c :: r).length 8 && (c :: r).all fun d => Nat.ble 97 d && Nat.ble d 122
theorem nameS_ok {x : Str} (h : nameS x = true) : x.cps.toList ≠ [] ∧ x.cps.toList.length ≤ 8 ∧ ∀ c ∈ x.cps.toList, 97 ≤ c ∧ c ≤ 122 := by
  unfold nameS at h
  split at h
  · cases h
  · rename_i c r e
    rw [Bool.and_eq_true, List.all_eq_true] at h
    rw [e]
    refine ⟨by simp, Nat.le_of_ble_eq_true h.1, fun d hd => ?_⟩
    have := h.2 d hd
    rw [Bool.and_eq_true] at this
    exact ⟨Nat.le_of_ble_eq_true this.1, Nat.le_of_ble_eq_true this.2⟩
noncomputable def allS (f : Str → Bool) (l : List Str) : Bool := List.rec (motive := fun _ => Bool) true (fun x _ ih => Bool.rec (motive := fun _ => Bool) false ih (f x)) l
theorem allS_iff {f : Str → Bool} : ∀ {l : List Str}, allS f l = true ↔ ∀ x ∈ l, f x = true
  | [] => ⟨fun _ _ h => (by cases h), fun _ => rfl⟩
  | x :: xs => by
    show (Bool.rec (motive := fun _ => Bool) false (allS f xs) (f x) : Bool) = true ↔ _
    cases e : f x with
    | false => simp [e]
    | true =>
      show allS f xs = true ↔ _
      rw [allS_iff]
      simp [e]
def isT : Rz PV → Bool
  | .ok (.bl true) _ => true
  | _ => false
theorem isT_of {r : Rz PV} (h : isT r = true) : ∃ μ, r = .ok (.bl true) μ := by
  unfold isT at h
  split at h
  · exact ⟨_, rfl⟩
  · cases h
end DL
namespace DL
open PySem PySem.Spec PyProof.Rows L2
/-- np by position, nk by name, in the parameters' order by js -/
def vKw (np nk : Nat) (js : List Nat) (F : VF) : VF := fun qs μ => if qs.length = np + nk then F (qs.take np ++ js.filterMap fun j => (qs.drop np)[j]?) μ else .bad
theorem _root_.L2.PK.impD {X : Cx} {kws : List Keyword} {t t' : TA} (h : PK X kws t) (i : ∀ σ H Q, t' σ H Q → t σ H Q) : PK X kws t' := ⟨fun pos pins s σ H Q I z => h.run pos pins s σ H Q I (i σ H Q z)⟩
end DL
namespace DL
open PySem PySem.Spec PyProof.Rows L2
end DL
namespace DL
open PySem PySem.Spec PyProof.Rows L2
end DL
namespace DL
open PySem PySem.Spec PyProof.Rows L2
end DL
namespace DL
open PySem PySem.Spec PyProof.Rows L2
end DL
namespace DL
open PySem PySem.Spec PyProof.Rows L2
end DL
namespace DL
open PySem PySem.Spec PyProof.Rows L2
section
variable (P : Program) (w : World) (K : PySem.W.Frag) (ρ0 : List Addr) (H0 : Hp) (gd : Sto → Bool)
/-- a number and a new tuple -/
def J3 (its : List (List PV)) : It :=
  ⟨fun i H => (∃ ρ μ, gS P w K ρ0 H0 gd H ρ μ) ∧ i < its.length, fun i H x H' => ∃ T1 T2 vs, x = .ref T2 ∧ H T1 = none ∧ H T2 = none ∧ T1 ≠ T2 ∧ H' = upd (upd H T1 (.tup vs)) T2 (.tup [.int (i : Int), .ref T1]) ∧ ∀ ρ μ ps, gS P w K ρ0 H0 gd H ρ μ → its[i]? = some ps → RVs K ρ H ps vs,
    fun i H => (∃ ρ μ, gS P w K ρ0 H0 gd H ρ μ) ∧ i = its.length⟩
end
end DL
namespace DL
open PySem PySem.Spec PyProof.Rows L2
end DL
namespace DL
open PySem PySem.Spec PyProof.Rows L2
end DL
namespace DL
open PySem PySem.Spec PyProof.Rows L2
end DL
namespace DL
open PySem PySem.Spec PyProof.Rows L2
end DL
namespace DL
open PySem PySem.Spec PyProof.Rows L2
noncomputable def allR {α : Type} (f : α → Bool) (l : List α) : Bool := List.rec (motive := fun _ => Bool) true (fun x _ ih => Bool.rec (motive := fun _ => Bool) false ih (f x)) l
theorem allR_iff {α : Type} {f : α → Bool} : ∀ {l : List α}, allR f l = true ↔ ∀ x ∈ l, f x = true
  | [] => ⟨fun _ _ h => (by cases h), fun _ => rfl⟩
  | p :: ps => by
    show (Bool.rec (motive := fun _ => Bool) false (allR f ps) (f p) : Bool) = true ↔ _
    cases e : f p with
    | false => simp [e]
    | true =>
      show allR f ps = true ↔ _
      rw [allR_iff]
      simp [e]
noncomputable def mapO {α β : Type} (f : α → Option β) (l : List α) : Option (List β) := List.rec (motive := fun _ => Option (List β)) (some []) (fun x _ ih => match f x with
  | some y => match ih with
    | some r => some (y :: r)
    | none => none
  | none => none) l
theorem mapO_cons {α β : Type} {f : α → Option β} {x : α} {xs : List α} {l : List β} (h : mapO f (x :: xs) = some l) : ∃ y r, f x = some y ∧ mapO f xs = some r ∧ l = y :: r := by
  have h : (match f x with
    | some y => match mapO f xs with
      | some r => some (y :: r)
      | none => none
    | none => none) = some l := h
  cases e : f x with
  | none => rw [e] at h; cases h
  | some y =>
    rw [e] at h
    cases e2 : mapO f xs with
    | none => rw [e2] at h; cases h
    | some r => rw [e2] at h; cases h; exact ⟨y, r, rfl, rfl, rfl⟩
theorem mapO_len {α β : Type} {f : α → Option β} : ∀ {xs : List α} {l : List β}, mapO f xs = some l → l.length = xs.length
  | [], _, h => by cases h; rfl
  | x :: xs, l, h => by
    obtain ⟨y, r, _, h2, rfl⟩ := mapO_cons h
    simp [mapO_len h2]
theorem mapO_get {α β : Type} {f : α → Option β} : ∀ {xs : List α} {l : List β} {i : Nat} {y : β}, mapO f xs = some l → l[i]? = some y → ∃ x, xs[i]? = some x ∧ f x = some y
  | [], _, i, y, h, e => by cases h; simp at e
  | x :: xs, l, i, y, h, e => by
    obtain ⟨y0, r, h1, h2, rfl⟩ := mapO_cons h
    cases i with
    | zero => simp at e; subst e; exact ⟨x, rfl, h1⟩
    | succ i =>
      obtain ⟨x', a, b⟩ := mapO_get h2 (i := i) (y := y) (by simpa using e)
      exact ⟨x', by simpa using a, b⟩
/-- no number from n on -/
noncomputable def clP (n : Nat) : Nat → PV → Bool
  | 0, p => match p with
    | .ref i => Nat.ble (i + 1) n
    | .tup _ => false
    | .exc _ _ => false
    | _ => true
  | k + 1, p => match p with
    | .ref i => Nat.ble (i + 1) n
    | .tup ps => allR (clP n k) ps
    | .exc _ v => clP n k v
    | _ => true
noncomputable def clO (n : Nat) (o : MObj) : Bool := match o with
  | .lst ps => allR (clP n 12) ps
  | .rol _ => true
  | .dct kvs => allR (fun q => Bool.rec (motive := fun _ => Bool) false (clP n 12 q.2) (clP n 12 q.1)) kvs
  | .ins _ fs => allR (fun q => clP n 12 q.2) fs
/-- the new number -/
noncomputable def idxK (ks : List Nat) (i : Nat) : Nat → Option Nat := List.rec (motive := fun _ => Nat → Option Nat) (fun _ => none) (fun k _ ih j => Bool.rec (motive := fun _ => Option Nat) (frN (j + 1) ih) (some j) (Nat.beq k i)) ks
noncomputable def rnI (n : Nat) (ks : List Nat) (i : Nat) : Option Nat := Bool.rec (motive := fun _ => Option Nat) (idxK ks i n) (some i) (Nat.ble (i + 1) n)
noncomputable def rnP (f : Nat → Option Nat) : Nat → PV → Option PV
  | 0, p => match p with
    | .ref i => match f i with
      | some j => some (.ref j)
      | none => none
    | .tup _ => none
    | .exc _ _ => none
    | p => some p
  | k + 1, p => match p with
    | .ref i => match f i with
      | some j => some (.ref j)
      | none => none
    | .tup ps => match mapO (rnP f k) ps with
      | some qs => some (.tup qs)
      | none => none
    | .exc C v => match rnP f k v with
      | some u => some (.exc C u)
      | none => none
    | p => some p
noncomputable def rnKV (f : Nat → Option Nat) (q : PV × PV) : Option (PV × PV) := match rnP f 12 q.1 with
  | some a => match rnP f 12 q.2 with
    | some b => some (a, b)
    | none => none
  | none => none
noncomputable def rnFV (f : Nat → Option Nat) (q : Str × PV) : Option (Str × PV) := match rnP f 12 q.2 with
  | some b => some (q.1, b)
  | none => none
noncomputable def rnO (f : Nat → Option Nat) (o : MObj) : Option MObj := match o with
  | .lst ps => match mapO (rnP f 12) ps with
    | some qs => some (.lst qs)
    | none => none
  | .rol ps => some (.rol ps)
  | .dct kvs => match mapO (rnKV f) kvs with
    | some qs => some (.dct qs)
    | none => none
  | .ins C fs => match mapO (rnFV f) fs with
    | some qs => some (.ins C qs)
    | none => none
section
variable {K : PySem.W.Frag} {ρ ρ2 : List Addr} {H : Hp} {f : Nat → Option Nat} {P : Program} {w : World}
/-- the new numbers tell the same things -/
def RenI (f : Nat → Option Nat) (ρ ρ2 : List Addr) : Prop := ∀ i j a, f i = some j → ρ[i]? = some a → ρ2[j]? = some a
theorem ren_vs {k : Nat} (ih : ∀ {p p' : PV} {v : V}, RV K ρ H p v → rnP f k p = some p' → RV K ρ2 H p' v) : ∀ {ps qs : List PV} {vs : List V}, RVs K ρ H ps vs → mapO (rnP f k) ps = some qs → RVs K ρ2 H qs vs
  | _, _, _, .nil, h => by cases h; exact .nil
  | _, _, _, .cons r t, h => by
    obtain ⟨y, l, h1, h2, rfl⟩ := mapO_cons h
    exact .cons (ih r h1) (ren_vs ih t h2)
theorem ren_v (hr : RenI f ρ ρ2) : ∀ (k : Nat) {p p' : PV} {v : V}, RV K ρ H p v → rnP f k p = some p' → RV K ρ2 H p' v
  | k, p, p', v, r, h => by
    cases r with
    | ref e =>
      rename_i i a
      have h : (match f i with | some j => some (PV.ref j) | none => none) = some p' := by cases k <;> exact h
      cases e2 : f i with
      | none => rw [e2] at h; cases h
      | some j =>
        rw [e2] at h
        cases h
        exact .ref (hr i j a e2 e)
    | tup e r =>
      rename_i ps vs a
      cases k with
      | zero => cases h
      | succ k =>
        have h : (match mapO (rnP f k) ps with | some qs => some (PV.tup qs) | none => none) = some p' := h
        cases e2 : mapO (rnP f k) ps with
        | none => rw [e2] at h; cases h
        | some qs =>
          rw [e2] at h
          cases h
          exact .tup e (ren_vs (fun r h => ren_v hr k r h) r e2)
    | non => cases k <;> (cases h; exact .non)
    | bl b => cases k <;> (cases h; exact .bl b)
    | int i => cases k <;> (cases h; exact .int i)
    | str x => cases k <;> (cases h; exact .str x)
    | ty n => cases k <;> (cases h; exact .ty n)
    | glb a => cases k <;> (cases h; exact .glb a)
    | exc e1 e2 e3 e4 e5 r =>
      rename_i C a d oe od fs q x
      cases k with
      | zero => cases h
      | succ k =>
        have h : (match rnP f k q with | some u => some (PV.exc C u) | none => none) = some p' := h
        cases e6 : rnP f k q with
        | none => rw [e6] at h; cases h
        | some u =>
          rw [e6] at h
          cases h
          exact .exc e1 e2 e3 e4 e5 (ren_v hr k r e6)
theorem rn_pvK (k : Nat) (q : Key) : rnP f k (pvK q) = some (pvK q) := by
  cases q <;> cases k <;> rfl
theorem rn_pvNs {k : Nat} (ih : ∀ {q : NestedKey} {p : PV}, rnP f k (pvN q) = some p → p = pvN q) : ∀ {ks : List NestedKey} {l : List PV}, mapO (rnP f k) (pvNs ks) = some l → l = pvNs ks
  | [], _, h => by cases h; rfl
  | q :: r, l, h => by
    obtain ⟨y, l, h1, h2, rfl⟩ := mapO_cons (show mapO (rnP f k) (pvN q :: pvNs r) = some l from h)
    rw [ih h1, rn_pvNs ih h2]
    rfl
theorem rn_pvN : ∀ (k : Nat) {q : NestedKey} {p : PV}, rnP f k (pvN q) = some p → p = pvN q
  | k, q, p, h => by
    cases q with
    | none => cases k <;> (cases h; rfl)
    | num i => cases k <;> (cases h; rfl)
    | text x => cases k <;> (cases h; rfl)
    | tup ks =>
      cases k with
      | zero => cases h
      | succ k =>
        have h : (match mapO (rnP f k) (pvNs ks) with | some qs => some (PV.tup qs) | none => none) = some p := h
        cases e2 : mapO (rnP f k) (pvNs ks) with
        | none => rw [e2] at h; cases h
        | some qs =>
          rw [e2] at h
          cases h
          rw [rn_pvNs (fun h => rn_pvN k h) e2]
          rfl
theorem paired_map {α β : Type} {F G : α → β → Prop} {g : α → Option α} (hm : ∀ a b a', F a b → g a = some a' → G a' b) : ∀ {l1 l1' : List α} {l2 : List β}, Paired F l1 l2 → mapO g l1 = some l1' → Paired G l1' l2
  | _, _, _, .nil, h => by cases h; exact .nil
  | _, _, _, .cons r t, h => by
    obtain ⟨y, l, h1, h2, rfl⟩ := mapO_cons h
    exact .cons (hm _ _ _ r h1) (paired_map hm t h2)
theorem rnkv {q z : PV × PV} (h : rnKV f q = some z) : rnP f 12 q.1 = some z.1 ∧ rnP f 12 q.2 = some z.2 := by
  unfold rnKV at h
  cases e : rnP f 12 q.1 with
  | none => rw [e] at h; cases h
  | some a =>
    rw [e] at h
    cases e2 : rnP f 12 q.2 with
    | none => rw [e2] at h; cases h
    | some b => rw [e2] at h; cases h; exact ⟨rfl, rfl⟩
theorem ren_o (hr : RenI f ρ ρ2) {a : Addr} {o o' : MObj} (h : ObjR P w K ρ H a o) (e : rnO f o = some o') : ObjR P w K ρ2 H a o' := by
  cases o with
  | lst ps =>
    obtain ⟨vs, h1, h2⟩ := h
    have e : (match mapO (rnP f 12) ps with | some qs => some (MObj.lst qs) | none => none) = some o' := e
    cases e2 : mapO (rnP f 12) ps with
    | none => rw [e2] at e; cases e
    | some qs =>
      rw [e2] at e
      cases e
      exact ⟨vs, h1, ren_vs (fun r h => ren_v hr 12 r h) h2 e2⟩
  | rol ps =>
    obtain ⟨vs, h1, h2, h3⟩ := h
    cases e
    exact ⟨vs, h1, bare_rvs h3 h2, h3⟩
  | dct kvs =>
    obtain ⟨o, h1, h2, x, z, es, ep, d, h⟩ := h
    unfold rnO at e
    simp only at e
    split at e
    · rename_i qs e2
      cases e
      refine ⟨o, h1, h2, x, by rw [mapO_len e2]; exact z, es, ep, d, ?_⟩
      have val : ∀ {p p' : PV} {u : Value}, RVal K ρ H p u → rnP f 12 p = some p' → RVal K ρ2 H p' u := fun ⟨v, r1, r2⟩ e => ⟨v, r1, ren_v hr 12 r2 e⟩
      rcases h with ⟨vs, a, b, c, t⟩ | ⟨xs, a, b, t⟩
      · refine .inl ⟨vs, a, b, c, paired_map (fun p q p' r g => ?_) t e2⟩
        obtain ⟨g1, g2⟩ := rnkv g
        rw [r.1, rn_pvK] at g1
        exact ⟨(Option.some.inj g1).symm, val r.2 g2⟩
      · refine .inr ⟨xs, a, b, paired_map (fun p q p' r g => ?_) t e2⟩
        obtain ⟨g1, g2⟩ := rnkv g
        obtain ⟨r1, r2, r3, r4⟩ := r
        have k1 := ren_v hr 12 r3 g1
        rw [r1] at g1
        exact ⟨rn_pvN 12 g1, r2, k1, val r4 g2⟩
    · cases e
  | ins C fs =>
    obtain ⟨dx, gs, h1, h2, h3⟩ := h
    unfold rnO at e
    simp only at e
    split at e
    · rename_i qs e2
      cases e
      refine ⟨dx, gs, h1, ?_⟩
      have go : ∀ {fs qs : List (Str × PV)} {vs : List V}, mapO (rnFV f) fs = some qs → RVs K ρ H (fs.map (·.2)) vs → qs.map (·.1) = fs.map (·.1) ∧ RVs K ρ2 H (qs.map (·.2)) vs := by
        intro fs
        induction fs with
        | nil =>
          intro qs vs e r
          cases e
          cases r
          exact ⟨rfl, .nil⟩
        | cons p r ih =>
          intro qs vs e rv
          obtain ⟨y, l, e1, e2, rfl⟩ := mapO_cons e
          cases rv with
          | cons r1 r2 =>
            obtain ⟨i1, i2⟩ := ih e2 r2
            unfold rnFV at e1
            cases e3 : rnP f 12 p.2 with
            | none => simp only [e3] at e1; cases e1
            | some b =>
              simp only [e3] at e1
              cases e1
              exact ⟨by simp [i1], .cons (ren_v hr 12 r1 e3) i2⟩
      obtain ⟨g1, g2⟩ := go e2 h3
      exact ⟨h2.trans g1.symm, g2⟩
    · cases e
theorem cl_vs {n k : Nat} (ih : ∀ {p : PV} {v : V}, RV K ρ H p v → clP n k p = true → RV K ρ2 H p v) : ∀ {ps : List PV} {vs : List V}, RVs K ρ H ps vs → (∀ p ∈ ps, clP n k p = true) → RVs K ρ2 H ps vs
  | _, _, .nil, _ => .nil
  | _, _, .cons r t, h => .cons (ih r (h _ (by simp))) (cl_vs ih t fun p hp => h p (by simp [hp]))
theorem cl_v {n : Nat} (hr : ∀ i a, i < n → ρ[i]? = some a → ρ2[i]? = some a) : ∀ (k : Nat) {p : PV} {v : V}, RV K ρ H p v → clP n k p = true → RV K ρ2 H p v
  | k, p, v, r, h => by
    cases r with
    | ref e =>
      rename_i i a
      have h : Nat.ble (i + 1) n = true := by cases k <;> exact h
      exact .ref (hr i a (Nat.le_of_ble_eq_true h) e)
    | tup e r =>
      rename_i ps vs a
      cases k with
      | zero => cases h
      | succ k =>
        have h : allR (clP n k) ps = true := h
        exact .tup e (cl_vs (fun r h => cl_v hr k r h) r (allR_iff.mp h))
    | non => exact .non
    | bl b => exact .bl b
    | int i => exact .int i
    | str x => exact .str x
    | ty n => exact .ty n
    | glb a => exact .glb a
    | exc e1 e2 e3 e4 e5 r =>
      rename_i C a d oe od fs q x
      cases k with
      | zero => cases h
      | succ k => exact .exc e1 e2 e3 e4 e5 (cl_v hr k r h)
theorem paired_in {α β : Type} {F G : α → β → Prop} : ∀ {l1 : List α} {l2 : List β}, Paired F l1 l2 → (∀ a ∈ l1, ∀ b, F a b → G a b) → Paired G l1 l2
  | _, _, .nil, h => .nil
  | _, _, .cons r t, h => .cons (h _ (by simp) _ r) (paired_in t fun a ha => h a (by simp [ha]))
theorem boolRec_and {a b : Bool} (h : (Bool.rec (motive := fun _ => Bool) false a b : Bool) = true) : b = true ∧ a = true := by
  cases b with
  | false => cases h
  | true => exact ⟨rfl, h⟩
theorem cl_o {n : Nat} (hr : ∀ i a, i < n → ρ[i]? = some a → ρ2[i]? = some a) {a : Addr} {o : MObj} (h : ObjR P w K ρ H a o) (e : clO n o = true) : ObjR P w K ρ2 H a o := by
  cases o with
  | lst ps =>
    obtain ⟨vs, h1, h2⟩ := h
    exact ⟨vs, h1, cl_vs (fun r h => cl_v hr 12 r h) h2 (allR_iff.mp e)⟩
  | rol ps =>
    obtain ⟨vs, h1, h2, h3⟩ := h
    exact ⟨vs, h1, bare_rvs h3 h2, h3⟩
  | dct kvs =>
    obtain ⟨o, h1, h2, x, z, es, ep, d, h⟩ := h
    have e := allR_iff.mp (show allR (fun q : PV × PV => (Bool.rec (motive := fun _ => Bool) false (clP n 12 q.2) (clP n 12 q.1) : Bool)) kvs = true from e)
    refine ⟨o, h1, h2, x, z, es, ep, d, ?_⟩
    have val : ∀ {p : PV} {u : Value}, RVal K ρ H p u → clP n 12 p = true → RVal K ρ2 H p u := fun ⟨v, r1, r2⟩ e => ⟨v, r1, cl_v hr 12 r2 e⟩
    rcases h with ⟨vs, a, b, c, t⟩ | ⟨xs, a, b, t⟩
    · exact .inl ⟨vs, a, b, c, paired_in t fun p hp q r => ⟨r.1, val r.2 (boolRec_and (e p hp)).2⟩⟩
    · exact .inr ⟨xs, a, b, paired_in t fun p hp q r => ⟨r.1, r.2.1, cl_v hr 12 r.2.2.1 (boolRec_and (e p hp)).1, val r.2.2.2 (boolRec_and (e p hp)).2⟩⟩
  | ins C fs =>
    obtain ⟨dx, gs, h1, h2, h3⟩ := h
    have e := allR_iff.mp (show allR (fun q : Str × PV => clP n 12 q.2) fs = true from e)
    exact ⟨dx, gs, h1, h2, cl_vs (fun r h => cl_v hr 12 r h) h3 fun p hp => by
      obtain ⟨q, hq, rfl⟩ := List.mem_map.mp hp
      exact e q hq⟩
end
noncomputable def rfP : Nat → PV → List Nat → List Nat
  | 0, p, tl => match p with
    | .ref i => i :: tl
    | _ => tl
  | k + 1, p, tl => match p with
    | .ref i => i :: tl
    | .tup ps => List.rec (motive := fun _ => List Nat) tl (fun q _ ih => rfP k q ih) ps
    | .exc _ v => rfP k v tl
    | _ => tl
noncomputable def rfO (o : MObj) (tl : List Nat) : List Nat := match o with
  | .lst ps => List.rec (motive := fun _ => List Nat) tl (fun q _ ih => rfP 12 q ih) ps
  | .rol _ => tl
  | .dct kvs => List.rec (motive := fun _ => List Nat) tl (fun q _ ih => rfP 12 q.1 (rfP 12 q.2 ih)) kvs
  | .ins _ fs => List.rec (motive := fun _ => List Nat) tl (fun q _ ih => rfP 12 q.2 ih) fs
noncomputable def memK (i : Nat) (l : List Nat) : Bool := List.rec (motive := fun _ => Bool) false (fun k _ ih => Bool.rec (motive := fun _ => Bool) ih true (Nat.beq k i)) l
noncomputable def reach (n : Nat) (μ : Sto) : Nat → List Nat → List Nat → List Nat
  | 0, _, acc => acc
  | f + 1, todo, acc => match todo with
    | [] => acc
    | i :: r => match Nat.ble (i + 1) n with
      | true => reach n μ f r acc
      | false => match memK i acc with
        | true => reach n μ f r acc
        | false => match nth μ i with
          | some o => frL (acc ++ [i]) fun a => reach n μ f (rfO o r) a
          | none => acc
/-- the numbers are from n to m, each once -/
noncomputable def goodK (n m : Nat) (ks : List Nat) : Bool := List.rec (motive := fun _ => Bool) true (fun k r ih => match Nat.ble n k with
  | false => false
  | true => match Nat.ble (k + 1) m with
    | false => false
    | true => match memK k r with
      | true => false
      | false => ih) ks
theorem memK_iff {i : Nat} : ∀ {l : List Nat}, memK i l = true ↔ i ∈ l
  | [] => ⟨fun h => (by cases h), fun h => (by cases h)⟩
  | k :: r => by
    show (Bool.rec (motive := fun _ => Bool) (memK i r) true (Nat.beq k i) : Bool) = true ↔ _
    cases e : Nat.beq k i with
    | true => simp [Nat.eq_of_beq_eq_true e]
    | false =>
      have := Nat.ne_of_beq_eq_false e
      show memK i r = true ↔ _
      rw [memK_iff, List.mem_cons]
      exact ⟨fun h => .inr h, fun h => h.resolve_left fun z => this z.symm⟩
theorem goodK_ok {n m : Nat} : ∀ {ks : List Nat}, goodK n m ks = true → ks.Nodup ∧ ∀ k ∈ ks, n ≤ k ∧ k < m
  | [], _ => ⟨List.nodup_nil, fun _ h => by cases h⟩
  | k :: r, h => by
    have h : (match Nat.ble n k with
      | false => false
      | true => match Nat.ble (k + 1) m with
        | false => false
        | true => match memK k r with
          | true => false
          | false => goodK n m r) = true := h
    cases e1 : Nat.ble n k with
    | false => rw [e1] at h; cases h
    | true =>
      rw [e1] at h
      cases e2 : Nat.ble (k + 1) m with
      | false => rw [e2] at h; cases h
      | true =>
        rw [e2] at h
        cases e3 : memK k r with
        | true => rw [e3] at h; cases h
        | false =>
          rw [e3] at h
          obtain ⟨a, b⟩ := goodK_ok h
          refine ⟨List.nodup_cons.mpr ⟨fun z => ?_, a⟩, fun q hq => ?_⟩
          · rw [memK_iff.mpr z] at e3; cases e3
          · rcases List.mem_cons.mp hq with rfl | hq
            · exact ⟨Nat.le_of_ble_eq_true e1, Nat.le_of_ble_eq_true e2⟩
            · exact b q hq
theorem idxK_ok {i : Nat} : ∀ {ks : List Nat} {b j : Nat}, idxK ks i b = some j → ∃ t, j = b + t ∧ ks[t]? = some i
  | [], _, _, h => by cases h
  | k :: r, b, j, h => by
    have h : (Bool.rec (motive := fun _ => Option Nat) (frN (b + 1) (idxK r i)) (some b) (Nat.beq k i) : Option Nat) = some j := h
    cases e : Nat.beq k i with
    | true =>
      rw [e] at h
      cases h
      exact ⟨0, rfl, by simp [Nat.eq_of_beq_eq_true e]⟩
    | false =>
      rw [e] at h
      have h : frN (b + 1) (idxK r i) = some j := h
      rw [frN_eq] at h
      obtain ⟨t, h1, h2⟩ := idxK_ok h
      exact ⟨t + 1, by omega, by simpa using h2⟩
noncomputable def rnAt (n : Nat) (ks : List Nat) (μ : Sto) (k : Nat) : Option MObj := match nth μ k with
  | some o => rnO (rnI n ks) o
  | none => none
/-- what is left behind a call -/
noncomputable def gcK (n : Nat) (ks : List Nat) (p : PV) (μ : Sto) : Rz PV := match goodK n μ.length ks with
  | false => .ok p μ
  | true => match allR (clO n) (μ.take n) with
    | false => .ok p μ
    | true => match rnP (rnI n ks) 12 p with
      | none => .ok p μ
      | some p' => match mapO (rnAt n ks μ) ks with
        | none => .ok p μ
        | some m2 => frL (μ.take n ++ m2) fun m => .ok p' m
noncomputable def gcR (n : Nat) (p : PV) (μ : Sto) : Rz PV := frL (reach n μ 2000 (rfP 12 p []) []) fun ks => gcK n ks p μ
noncomputable def vGc (F : VF) : VF := fun xs μ => match F xs μ with
  | .ok p μ' => gcR μ.length p μ'
  | .err C v μ' => .err C v μ'
  | .bad => .bad
section
variable {P : Program} {w : World} {K : PySem.W.Frag} {W : EW} {ρ : List Addr} {H : Hp} {Q : VK}
theorem gcK_core {n : Nat} (hn : ρ.length = n) {ks : List Nat} {p p2 : PV} {μ μ2 : Sto} {ρ' : List Addr} {H' : Hp} (h : gcK n ks p μ = .ok p2 μ2) (st : Step K ρ H ρ' H') (t : RSt P w K ρ' H' μ) :
    ∃ ρ2, Step K ρ H ρ2 H' ∧ RSt P w K ρ2 H' μ2 ∧ ((p2 = p ∧ ρ2 = ρ') ∨ ∃ f, RenI f ρ' ρ2 ∧ rnP f 12 p = some p2) := by
  have same : (Rz.ok p μ = Rz.ok p2 μ2) → ∃ ρ2, Step K ρ H ρ2 H' ∧ RSt P w K ρ2 H' μ2 ∧ ((p2 = p ∧ ρ2 = ρ') ∨ ∃ f, RenI f ρ' ρ2 ∧ rnP f 12 p = some p2) := fun e => by
    cases e
    exact ⟨ρ', st, t, .inl ⟨rfl, rfl⟩⟩
  unfold gcK at h
  cases g : goodK n μ.length ks with
  | false => rw [g] at h; exact same h
  | true =>
    rw [g] at h
    simp only at h
    cases c : allR (clO n) (μ.take n) with
    | false => rw [c] at h; exact same h
    | true =>
      rw [c] at h
      simp only at h
      cases e1 : rnP (rnI n ks) 12 p with
      | none => rw [e1] at h; exact same h
      | some p' =>
        rw [e1] at h
        simp only at h
        cases e2 : mapO (rnAt n ks μ) ks with
        | none => rw [e2] at h; exact same h
        | some m2 =>
          rw [e2] at h
          simp only [frL_eq] at h
          cases h
          obtain ⟨nd, rg⟩ := goodK_ok g
          obtain ⟨more, em, hm⟩ := st.ext
          have hl := t.len
          have hnl : n ≤ ρ'.length := by rw [em, List.length_append]; omega
          let as := ks.map fun k => ρ'.getD k 0
          have has : ∀ (i : Nat) (k : Nat), ks[i]? = some k → ∃ a, ρ'[k]? = some a ∧ as[i]? = some a := fun i k e => by
            have hk := (rg k (List.mem_of_getElem? e)).2
            rw [hl] at hk
            refine ⟨ρ'[k], List.getElem?_eq_getElem hk, ?_⟩
            show (ks.map fun k => ρ'.getD k 0)[i]? = _
            rw [List.getElem?_map, e]
            simp [List.getD_eq_getElem?_getD, List.getElem?_eq_getElem hk]
          have old : ∀ (i : Nat) (a : Addr), i < n → ρ'[i]? = some a → (ρ ++ as)[i]? = some a := fun i a hi e => by
            rw [em] at e
            rw [List.getElem?_append_left (by omega)] at e ⊢
            exact e
          have ren : RenI (rnI n ks) ρ' (ρ ++ as) := fun i j a e ea => by
            unfold rnI at e
            cases q : Nat.ble (i + 1) n with
            | true =>
              rw [q] at e
              cases e
              exact old i a (Nat.le_of_ble_eq_true q) ea
            | false =>
              rw [q] at e
              obtain ⟨tt, rfl, h2⟩ := idxK_ok (show idxK ks i n = some j from e)
              obtain ⟨a', h3, h4⟩ := has tt i h2
              rw [ea] at h3
              cases h3
              rw [List.getElem?_append_right (by omega), show n + tt - ρ.length = tt by omega]
              exact h4
          have inmore : ∀ a ∈ as, a ∈ more := fun a ha => by
            obtain ⟨k, hk, rfl⟩ := List.mem_map.mp ha
            obtain ⟨k1, k2⟩ := rg k hk
            rw [hl] at k2
            have : ρ'.getD k 0 = ρ'[k] := by simp [List.getD_eq_getElem?_getD, List.getElem?_eq_getElem k2]
            rw [this]
            have e : ∀ z, ρ'[k]? = some z → z ∈ more := fun z e => by
              rw [em, List.getElem?_append_right (by omega)] at e
              exact List.mem_of_getElem? e
            exact e _ (List.getElem?_eq_getElem k2)
          have nd2 : (ρ ++ as).Nodup := by
            have nd' := t.nd
            have nd3 := nd'
            rw [em, List.nodup_append] at nd'
            rw [List.nodup_append]
            refine ⟨nd'.1, ?_, fun a ha b hb => nd'.2.2 a ha b (inmore b hb)⟩
            show (ks.map fun k => ρ'.getD k 0).Nodup
            rw [List.Nodup, List.pairwise_map]
            refine List.Pairwise.imp_of_mem ?_ nd
            intro a b ha hb hne e
            have a2 := (rg a ha).2
            have b2 := (rg b hb).2
            rw [hl] at a2 b2
            rw [List.getD_eq_getElem?_getD, List.getD_eq_getElem?_getD, List.getElem?_eq_getElem a2, List.getElem?_eq_getElem b2] at e
            exact hne ((List.getElem_inj nd3).mp e)
          have st2 : Step K ρ H (ρ ++ as) H' := ⟨⟨as, rfl, fun q hq => hm q (inmore q hq)⟩, st.keep, st.tup, st.live, st.dct, st.fz, fun p hp h => (st.tbl p hp h).sub fun x hx => by
            rw [em]
            exact List.mem_append.mpr ((List.mem_append.mp hx).imp id (inmore x))⟩
          refine ⟨ρ ++ as, st2, ⟨?_, nd2, fun i a o ea eo => ?_, fun p hp => (t.tab p hp).sub fun x hx => by
            rw [em]
            exact List.mem_append.mpr ((List.mem_append.mp hx).imp id (inmore x))⟩, .inr ⟨_, ren, e1⟩⟩
          · rw [List.length_append, List.length_append, List.length_take, mapO_len e2, List.length_map]
            omega
          · by_cases hi : i < n
            · rw [List.getElem?_append_left (by omega)] at ea
              rw [List.getElem?_append_left (by rw [List.length_take]; omega)] at eo
              have eo2 : μ[i]? = some o := by rw [List.getElem?_take_of_lt hi] at eo; exact eo
              have ea2 : ρ'[i]? = some a := by rw [em, List.getElem?_append_left (by omega)]; exact ea
              exact cl_o old (t.obj i a o ea2 eo2) (allR_iff.mp c o (List.mem_of_getElem? eo))
            · rw [List.getElem?_append_right (by omega)] at ea
              rw [List.getElem?_append_right (by rw [List.length_take]; omega)] at eo
              rw [List.length_take, show min n μ.length = n by omega] at eo
              rw [hn] at ea
              obtain ⟨k, k1, k2⟩ := mapO_get e2 eo
              obtain ⟨a', h3, h4⟩ := has _ k k1
              rw [ea] at h4
              cases h4
              unfold rnAt at k2
              rw [nth_eq] at k2
              cases e5 : μ[k]? with
              | none => rw [e5] at k2; cases k2
              | some o1 =>
                rw [e5] at k2
                exact ren_o ren (t.obj k a o1 h3 e5) k2
theorem gcK_ok (n : Nat) (ks : List Nat) (p : PV) (μ : Sto) : ∃ p2 μ2, gcK n ks p μ = .ok p2 μ2 := by
  unfold gcK
  cases goodK n μ.length ks with
  | false => exact ⟨_, _, rfl⟩
  | true =>
    cases allR (clO n) (μ.take n) with
    | false => exact ⟨_, _, rfl⟩
    | true =>
      cases rnP (rnI n ks) 12 p with
      | none => exact ⟨_, _, rfl⟩
      | some p' =>
        cases mapO (rnAt n ks μ) ks with
        | none => exact ⟨_, _, rfl⟩
        | some m2 => simp only [frL_eq]; exact ⟨_, _, rfl⟩
theorem gcK_post {n : Nat} (hn : ρ.length = n) {ks : List Nat} {p : PV} {μ : Sto} (h : Post P w K W ρ H (gcK n ks p μ) (RV K) Q) : Post P w K W ρ H (.ok p μ) (RV K) Q := by
  obtain ⟨p2, μ2, e⟩ := gcK_ok n ks p μ
  rw [e] at h
  intro ρ' x H' st rx t
  obtain ⟨ρ2, st2, t2, ⟨rfl, rfl⟩ | ⟨f, hf, hp⟩⟩ := gcK_core hn e st t
  · exact h _ x H' st2 rx t2
  · exact h ρ2 x H' st2 (ren_v hf 12 rx hp) t2
theorem gc_of {F : VF} {vs : List V} (h : rL P w K W (vGc F) vs H Q) : rL P w K W F vs H Q := by
  obtain ⟨ρ, μ, ps, r, t, h⟩ := h
  refine ⟨ρ, μ, ps, r, t, ?_⟩
  unfold vGc at h
  cases e : F ps μ with
  | ok p μ' =>
    rw [e] at h
    unfold gcR at h
    simp only [frL_eq] at h
    exact gcK_post t.len.symm h
  | err C v μ' => rw [e] at h; exact h
  | bad => rw [e] at h; exact h
theorem gc_ar {n : Nat} {F : VF} (a : Ar n F) : Ar n (vGc F) := fun ps μ h => by
  unfold vGc
  rw [a ps μ h]
end
section
variable {P : Program} {w : World} {K : PySem.W.Frag} {mg : Str → Option Value} {base : Heap} {k : Nat} {f : Addr} {ps : List Str}
section
variable {x qual : Str} {st : Stmt} {fd : FuncData} {N : List Str} {d : DS} {kws : List (Str × V)}
theorem lawG_of {np nn : Nat} (hp : ps.length = np) (hn : N.length = nn) (F : FunD K x qual (defArgs st) (defBody st) (defScope st) [] kws f fd) (S : FnScope N ps (defScope st))
    (h : ∀ (cdv : Value) (A : Around) (outer : List Env) (s : Shared) (H : Hp) (E : XK), A.guards = some [] → Room k (A.deeper (envOfC qual (defScope st) s.heap.objs.size f cdv)) →
      LSs (cxOf CX0 P w K mg base N qual (defScope st) f cdv A outer s H E).nox EW0 (defBody st) d) : FnG P w K mg base (k + 1) f fd ps (spD P w K np (fnBody np nn d)) := by
  subst hp hn
  exact fn_g (He5.fun_of F) S h
end
theorem Has.gc {F : VF} (h : Has P w K mg base k f ps F) : Has P w K mg base k f ps (vGc F) :=
  let ⟨⟨fd, b, G⟩, kp, ar⟩ := h
  ⟨⟨fd, b, G.imp fun vs H Q E h => ⟨h.1, gc_of h.2⟩⟩, kp, gc_ar ar⟩
theorem HasG.gc {F : VF} (h : HasG P w K mg base k f ps F) : HasG P w K mg base k f ps (vGc F) :=
  let ⟨⟨fd, b, G⟩, kp, ar⟩ := h
  ⟨⟨fd, b, ⟨fun vs H Q E h => h.1, fun A outer s H args us vs Q E a b c d e z => G.run A outer s H args us vs Q E a b c d e ⟨z.1, gc_of z.2⟩⟩⟩, kp, gc_ar ar⟩
end
theorem lt_of_get {μ : Sto} {i : Nat} {o : MObj} (h : μ[i]? = some o) : i < μ.length := (List.getElem?_eq_some_iff.mp h).1
end DL
namespace DL
open PySem PySem.Spec PyProof.Rows L2
section
variable {ν : Nu}
theorem allR_g {α β : Type} {g : α → β} {f : α → Bool} {f' : β → Bool} (e : ∀ x, f' (g x) = f x) : ∀ xs : List α, allR f' (xs.map g) = allR f xs
  | [] => rfl
  | x :: xs => by
    show (Bool.rec (motive := fun _ => Bool) false (allR f' (xs.map g)) (f' (g x)) : Bool) = (Bool.rec (motive := fun _ => Bool) false (allR f xs) (f x) : Bool)
    rw [e, allR_g e xs]
theorem gGlb (a : Addr) : (gP ν (.glb a) = .glb a) ∨ ∃ i, gP ν (.glb a) = .int i := by
  rw [gP]
  split
  · exact .inl rfl
  · exact .inr ⟨_, rfl⟩
theorem clP_g (n : Nat) : ∀ (k : Nat) (p : PV), clP n k (gP ν p) = clP n k p
  | k, p => by
    cases p with
    | tup ps =>
      rw [gP]
      cases k with
      | zero => rfl
      | succ k =>
        show allR (clP n k) (gPs ν ps) = allR (clP n k) ps
        rw [gPs_map]
        exact allR_g (fun x => clP_g n k x) ps
    | exc C v =>
      rw [gP]
      cases k with
      | zero => rfl
      | succ k => exact clP_g n k v
    | glb a => rcases gGlb (ν := ν) a with e | ⟨i, e⟩ <;> rw [e] <;> cases k <;> rfl
    | _ => rw [gP] <;> cases k <;> rfl
theorem clO_g (n : Nat) (o : MObj) : clO n (gO ν o) = clO n o := by
  cases o with
  | lst ps =>
    show allR (clP n 12) (gPs ν ps) = allR (clP n 12) ps
    rw [gPs_map]
    exact allR_g (fun x => clP_g n 12 x) ps
  | rol ps => rfl
  | dct kvs =>
    show allR (fun q : PV × PV => (Bool.rec (motive := fun _ => Bool) false (clP n 12 q.2) (clP n 12 q.1) : Bool)) (gK ν kvs) = _
    rw [gK_map]
    exact allR_g (fun x => by rw [clP_g, clP_g]) kvs
  | ins C fs =>
    show allR (fun q : Str × PV => clP n 12 q.2) (gF ν fs) = _
    rw [gF_map]
    exact allR_g (fun x => by rw [clP_g]) fs
end
end DL
namespace DL
open PySem PySem.Spec PyProof.Rows L2
noncomputable def vKwF (np nk : Nat) (js : List Nat) (F : VF) : VF := fun qs μ => if qs.length = np + nk then frL (qs.take np ++ js.filterMap fun j => (qs.drop np)[j]?) fun l => F l μ else .bad
theorem vKwF_eq : vKwF = vKw := by
  funext np nk js F qs μ
  unfold vKwF vKw
  simp only [frL_eq]
inductive Ent where
  | tk (n d : Nat)
  | nm (n : Nat)
abbrev Tape := List Ent
def potI (ν : Nu) (k : Nat) : MObj := .lst [.int (ν.iv (3 * k)), .int (ν.iv (3 * k + 1)), .int (ν.iv (3 * k + 2))]
def potL (k : Nat) : MObj := .lst [.glb (lim + 3 * k), .glb (lim + 3 * k + 1), .glb (lim + 3 * k + 2)]
/-- how many were taken of a pot -/
noncomputable def potK (o : Option MObj) : Option Nat := match o with
  | some (.lst [.glb a, .glb b, .glb c]) => match Nat.beq a (lim + 3 * ((a - lim) / 3)) with
    | true => match Nat.beq b (a + 1) with
      | true => match Nat.beq c (a + 2) with
        | true => frN ((a - lim) / 3) fun k => some k
        | false => none
      | false => none
    | false => none
  | _ => none
theorem potK_ok {o : Option MObj} {k : Nat} (h : potK o = some k) : o = some (potL k) := by
  unfold potK at h
  split at h
  · rename_i a b c
    split at h
    · rename_i h1
      split at h
      · rename_i h2
        split at h
        · rename_i h3
          rw [frN_eq] at h
          cases h
          have h1 := Nat.eq_of_beq_eq_true h1
          have h2 := Nat.eq_of_beq_eq_true h2
          have h3 := Nat.eq_of_beq_eq_true h3
          subst h2 h3
          unfold potL
          rw [← h1]
        · cases h
      · cases h
    · cases h
  · cases h
noncomputable def putPot (i k : Nat) (μ : Sto) (f : Sto → Rz PV) : Rz PV := frN (lim + 3 * k) fun a => frN (a + 1) fun b => frN (a + 2) fun c => frAt i (μ.set i (.lst [.glb a, .glb b, .glb c])) f
theorem putPot_eq (i k : Nat) (μ : Sto) (f : Sto → Rz PV) : putPot i k μ f = f (μ.set i (potL k)) := by
  unfold putPot potL
  simp only [frN_eq, frAt_eq]
/-- closed, so that what nothing reaches can be forgotten -/
noncomputable def clM (μ : Sto) : Bool := allR (clO μ.length) μ
noncomputable def letS (j n : Nat) : List PV := Nat.rec (motive := fun _ => Nat → List PV) (fun _ => []) (fun _ ih j => frN j fun c => .str ⟨⟨[c]⟩⟩ :: ih (c + 1)) n j
theorem letS_eq : ∀ (n j : Nat), letS j n = (List.range n).map fun i => PV.str ⟨⟨[j + i]⟩⟩
  | 0, j => rfl
  | n + 1, j => by
    show frN j (fun c => PV.str ⟨⟨[c]⟩⟩ :: letS (c + 1) n) = _
    rw [frN_eq, letS_eq n, List.range_succ_eq_map, List.map_cons, List.map_map]
    congr 1
    refine List.map_congr_left fun i _ => ?_
    simp only [Function.comp, Nat.add_assoc, Nat.add_comm 1 i]
noncomputable def vOrcN (tp : Tape) : VF := fun xs μ => match xs with
  | [.ref i, .int (.ofNat u)] => match potK (nth μ i) with
    | some k => match nth tp k with
      | some (.nm n) => match Nat.beq n u with
        | true => match clM μ with
          | true => putPot i (k + 1) μ fun μ' => frLf fr1 (letS lim n) fun l => frN μ.length fun r => .ok (.ref r) (μ' ++ [.lst l])
          | false => .bad
        | false => .bad
      | _ => .bad
    | none => .bad
  | _ => .bad
/-- the tape tells what the pots tell -/
structure TapeOk (ν : Nu) (tp : Tape) (take names : VF) : Prop where
  tk : ∀ k n d, tp[k]? = some (.tk n d) → ∀ (μ : Sto) (i : Nat), μ[i]? = some (potI ν k) → clM μ = true → vGc take [.ref i, .int (n : Nat)] μ = .ok (.int (d : Nat)) (μ.set i (potI ν (k + 1)))
  nm : ∀ k n, tp[k]? = some (.nm n) → ∀ (μ : Sto) (i : Nat), μ[i]? = some (potI ν k) → clM μ = true → vGc names [.ref i, .int (n : Nat)] μ = .ok (.ref μ.length) (μ.set i (potI ν (k + 1)) ++ [.lst ((List.range n).map fun j => .str ⟨⟨ν j⟩⟩)])
section
variable {ν : Nu} {tp : Tape} {take names : VF}
theorem glb_g (j : Nat) : gP ν (.glb (lim + j)) = .int (ν.iv j) := by
  rw [gP, if_neg (Nat.not_lt.mpr (Nat.le_add_right _ _)), Nat.add_sub_cancel_left]
theorem potL_g (k : Nat) : gO ν (potL k) = potI ν k := by
  show MObj.lst (gPs ν [.glb (lim + 3 * k), .glb (lim + 3 * k + 1), .glb (lim + 3 * k + 2)]) = potI ν k
  rw [gPs, gPs, gPs, gPs, glb_g, Nat.add_assoc, Nat.add_assoc, glb_g, glb_g]
  rfl
theorem clM_g (μ : Sto) : clM (gM ν μ) = clM μ := by
  unfold clM
  rw [gM_len]
  exact allR_g (fun o => clO_g _ o) μ
theorem q_orcN (O : TapeOk ν tp take names) : QF ν (vOrcN tp) (vGc names) := fun ps μ a μ' e => by
  unfold vOrcN at e
  split at e
  · rename_i i u
    rw [nth_eq] at e
    cases h1 : potK μ[i]? with
    | none => rw [h1] at e; cases e
    | some k =>
      rw [h1] at e
      simp only [nth_eq] at e
      have h1 := potK_ok h1
      split at e
      · rename_i n h2
        split at e
        · rename_i h3
          split at e
          · rename_i h4
            rw [putPot_eq, frLf_eq fr1_eq, frN_eq] at e
            cases e
            have h3 := Nat.eq_of_beq_eq_true h3
            subst h3
            simp only [gPs, gP]
            rw [gM_app, gM_set, potL_g]
            have e1 : gO ν (.lst (letS lim n)) = .lst ((List.range n).map fun j => .str ⟨⟨ν j⟩⟩) := by
              show MObj.lst (gPs ν (letS lim n)) = _
              rw [letS_eq, gPs_map, List.map_map]
              congr 1
              refine List.map_congr_left fun j _ => ?_
              simp only [Function.comp, gP, gTx, gN, List.append_nil, gC]
              rw [if_neg (Nat.not_lt.mpr (Nat.le_add_right _ _)), Nat.add_sub_cancel_left]
            rw [e1]
            have := O.nm k n h2 (gM ν μ) i (by rw [gM_get, h1, Option.map_some, potL_g]) (by rw [clM_g]; exact h4)
            rw [gM_len] at this
            exact this
          · cases e
        · cases e
      · cases e
  · cases e
end
theorem mapO_two {α β : Type} {f : α → Option β} {x : α} {xs : List α} {y : β} {r : List β} (h1 : f x = some y) (h2 : mapO f xs = some r) : mapO f (x :: xs) = some (y :: r) := by
  show (match f x with
    | some y => match mapO f xs with
      | some r => some (y :: r)
      | none => none
    | none => none) = some (y :: r)
  rw [h1, h2]
theorem mapO_nil {α β : Type} (f : α → Option β) : mapO f [] = some [] := rfl
theorem clP_int (n k : Nat) (j : Int) : clP n k (.int j) = true := by cases k <;> rfl
theorem clM_set {μ : Sto} {i : Nat} {a b c : Int} (h : clM μ = true) : clM (μ.set i (.lst [.int a, .int b, .int c])) = true := by
  unfold clM at *
  rw [List.length_set]
  refine allR_iff.mpr fun o ho => ?_
  rcases List.mem_or_eq_of_mem_set ho with ho | rfl
  · exact allR_iff.mp h o ho
  · show allR (clP μ.length 12) [.int a, .int b, .int c] = true
    refine allR_iff.mpr fun p hp => ?_
    simp only [List.mem_cons, List.not_mem_nil, or_false] at hp
    rcases hp with rfl | rfl | rfl <;> exact clP_int _ _ _
theorem mapO_strs (f : Nat → Option Nat) : ∀ xs : List Str, mapO (rnP f 12) (xs.map PV.str) = some (xs.map PV.str)
  | [] => rfl
  | x :: xs => mapO_two (f := rnP f 12) (x := PV.str x) (xs := xs.map PV.str) rfl (mapO_strs f xs)
theorem gc_strs {m more : Sto} {r : Nat} {xs : List Str} (h : clM m = true) (hr : m.length ≤ r) (hx : (m ++ more)[r]? = some (.lst (xs.map PV.str))) : gcR m.length (.ref r) (m ++ more) = .ok (.ref m.length) (m ++ [.lst (xs.map PV.str)]) := by
  have hl : r < (m ++ more).length := (List.getElem?_eq_some_iff.mp hx).1
  have b1 : Nat.ble (r + 1) m.length = false := by
    cases q : Nat.ble (r + 1) m.length with
    | false => rfl
    | true => have := Nat.le_of_ble_eq_true q; omega
  have rf : ∀ (f : Nat) (acc : List Nat), reach m.length (m ++ more) f [] acc = acc := fun f acc => by cases f <;> rfl
  have rs : ∀ xs : List Str, rfO (.lst (xs.map PV.str)) [] = [] := fun xs => by
    show (List.rec (motive := fun _ => List Nat) [] (fun q _ ih => rfP 12 q ih) (xs.map PV.str) : List Nat) = []
    induction xs with
    | nil => rfl
    | cons x xs ih => exact ih
  have e0 : reach m.length (m ++ more) 2000 (rfP 12 (.ref r) []) [] = [r] := by
    show (match Nat.ble (r + 1) m.length with
      | true => reach m.length (m ++ more) 1999 [] []
      | false => match memK r [] with
        | true => reach m.length (m ++ more) 1999 [] []
        | false => match nth (m ++ more) r with
          | some o => frL ([] ++ [r]) fun a => reach m.length (m ++ more) 1999 (rfO o []) a
          | none => []) = [r]
    rw [b1, nth_eq, hx, show memK r [] = false from rfl]
    simp only [frL_eq, rs, rf, List.nil_append]
  unfold gcR
  simp only [frL_eq]
  rw [e0]
  unfold gcK
  have e1 : goodK m.length (m ++ more).length [r] = true := by
    show (match Nat.ble m.length r with
      | false => false
      | true => match Nat.ble (r + 1) (m ++ more).length with
        | false => false
        | true => match memK r [] with
          | true => false
          | false => true) = true
    rw [Nat.ble_eq_true_of_le hr, Nat.ble_eq_true_of_le (by omega)]
    rfl
  have e2 : (m ++ more).take m.length = m := by simp
  have e3 : rnI m.length [r] r = some m.length := by
    unfold rnI
    rw [b1]
    show (Bool.rec (motive := fun _ => Option Nat) (frN (m.length + 1) (idxK [] r)) (some m.length) (Nat.beq r r) : Option Nat) = _
    rw [Nat.beq_refl]
  have e4 : rnP (rnI m.length [r]) 12 (.ref r) = some (.ref m.length) := by
    show (match rnI m.length [r] r with | some j => some (PV.ref j) | none => none) = _
    rw [e3]
  have e5 : mapO (rnAt m.length [r] (m ++ more)) [r] = some [.lst (xs.map PV.str)] := by
    refine mapO_two ?_ (mapO_nil _)
    unfold rnAt
    rw [nth_eq, hx]
    show (match mapO (rnP (rnI m.length [r]) 12) (xs.map PV.str) with | some qs => some (MObj.lst qs) | none => none) = _
    rw [mapO_strs]
  rw [e1, e2, show allR (clO m.length) m = true from h, e4, e5]
  simp only [frL_eq]
end DL
namespace DL
open PySem PySem.Spec PyProof.Rows L2
theorem vix3 {μ : Sto} {i : Nat} {a b c : PV} (h : μ[i]? = some (.lst [a, b, c])) : vIx [.ref i, .int 0] μ = .ok a μ ∧ vIx [.ref i, .int 1] μ = .ok b μ ∧ vIx [.ref i, .int 2] μ = .ok c μ := ⟨ix_l h rfl, ix_l h rfl, ix_l h rfl⟩
abbrev Pot := Int × Int × Int
def potO (p : Pot) : MObj := .lst [.int p.1, .int p.2.1, .int p.2.2]
/-- a pot, from which so many were taken at most -/
structure PotOk (p : Pot) (c : Int) : Prop where
  a : 0 ≤ p.1
  b : 0 ≤ p.2.1
  b2 : p.2.1 < 2305843009213693921
  c1 : 0 ≤ p.2.2
  c2 : p.2.2 ≤ c
theorem PotOk.le {p : Pot} {c d : Int} (h : PotOk p c) (l : c ≤ d) : PotOk p d := ⟨h.a, h.b, h.b2, h.c1, Int.le_trans h.c2 l⟩
/-- a draw: a number below u, another pot, whatever else stands there -/
def TakeSpec (take : VF) : Prop := ∀ (p : Pot) (c u : Int), PotOk p c → c ≤ 1000 → 0 < u → u ≤ 1000 →
  ∃ (d : Nat) (p' : Pot), (d : Int) < u ∧ PotOk p' (c + 1) ∧ ∀ (μ : Sto) (i : Nat), μ[i]? = some (potO p) → ∃ more, take [.ref i, .int u] μ = .ok (.int d) (μ.set i (potO p') ++ more)
/-- so many of a pool, each but once -/
inductive Picks {α : Type} : List α → List α → Prop
  | nil {l : List α} : Picks l []
  | cons {l : List α} {a : Nat} (h : a < l.length) {xs : List α} : Picks (l.eraseIdx a) xs → Picks l (l[a] :: xs)
/-- but for some numbers all stands as it was -/
def FrS (S : List Nat) (μ μ' : Sto) : Prop := μ.length ≤ μ'.length ∧ ∀ j, j < μ.length → j ∉ S → μ'[j]? = μ[j]?
theorem FrS.trans {S : List Nat} {μ μ1 μ2 : Sto} (a : FrS S μ μ1) (b : FrS S μ1 μ2) : FrS S μ μ2 := ⟨Nat.le_trans a.1 b.1, fun j h n => (b.2 j (Nat.lt_of_lt_of_le h a.1) n).trans (a.2 j h n)⟩
theorem FrS.set {S : List Nat} {μ : Sto} {i : Nat} {o : MObj} (h : i ∈ S) : FrS S μ (μ.set i o) := ⟨by simp, fun j _ n => List.getElem?_set_ne fun e => n (by rw [← e]; exact h)⟩
theorem FrS.app {S : List Nat} {μ more : Sto} : FrS S μ (μ ++ more) := ⟨by simp, fun j h _ => List.getElem?_append_left h⟩
theorem FrS.sub {S S' : List Nat} {μ μ' : Sto} (h : FrS S μ μ') (hs : ∀ j, j < μ.length → j ∈ S → j ∈ S') : FrS S' μ μ' := ⟨h.1, fun j hj n => h.2 j hj fun z => n (hs j hj z)⟩
theorem FrS.eq {i : Nat} {μ μ' : Sto} {o : MObj} (h : FrS [i] μ μ') (hi : i < μ.length) (ho : μ'[i]? = some o) : μ' = μ.set i o ++ μ'.drop μ.length := by
  refine List.ext_getElem? fun j => ?_
  by_cases hj : j < μ.length
  · rw [List.getElem?_append_left (by simpa using hj)]
    by_cases e : j = i
    · subst e
      rw [List.getElem?_set_self hj, ho]
    · rw [List.getElem?_set_ne (Ne.symm e), h.2 j hj (by simpa using e)]
  · rw [List.getElem?_append_right (by simpa using Nat.le_of_not_lt hj), List.getElem?_drop, List.length_set]
    congr 1
    omega
def someL (take : VF) : DS := sExpr (dM isLstP vAppend (dVar 4) (dCons (dM isLstP vPop (dVar 3) (dCons (dApp take (dCons (dVar 0) (dCons (dApp vLen (dCons (dVar 3) dNil)) dNil))) dNil)) dNil))
def someB (take : VF) : DS := sSeq (sPar 3 4 (dCons (dApp vListB (dCons (dVar 1) dNil)) (dCons (dApp vLst dNil) dNil))) (sSeq (sFor (dRg1 (dVar 2)) (gSet 5) (someL take)) (sRet (dVar 4)))
theorem some_loop {take : VF} (T : TakeSpec take) : ∀ (its left : List PV) (p : Pot) (c : Int), PotOk p c → c + its.length ≤ 1000 → its.length ≤ left.length → left.length ≤ 100 →
    ∃ xs p', xs.length = its.length ∧ Picks left xs ∧ PotOk p' (c + its.length) ∧ ∀ (μ : Sto) (i a b : Nat) (found : List PV) (x1 x2 x5 : Option PV), i ≠ a → i ≠ b → a ≠ b → μ[i]? = some (potO p) → μ[a]? = some (.lst left) → μ[b]? = some (.lst found) → found.length + its.length ≤ 200 →
      ∃ μ' x5', FrS [i, a, b] μ μ' ∧ μ'[i]? = some (potO p') ∧ μ'[b]? = some (.lst (found ++ xs)) ∧
        forGo (fun _ => true) (gSet 5) (someL take) its [some (.ref i), x1, x2, some (.ref a), some (.ref b), x5] μ = .ok (.nx, [some (.ref i), x1, x2, some (.ref a), some (.ref b), x5']) μ'
  | [], left, p, c, hp, _, _, _ => ⟨[], p, rfl, .nil, by simpa using hp, fun μ i a b found x1 x2 x5 _ _ _ h1 h2 h3 _ => ⟨μ, x5, ⟨Nat.le_refl _, fun _ _ _ => rfl⟩, h1, by simpa using h3, rfl⟩⟩
  | x :: its, left, p, c, hp, hc, hl, hl2 => by
    simp only [List.length_cons] at hc hl
    obtain ⟨d, p1, d1, hp1, sp⟩ := T p c (left.length : Int) hp (by omega) (by omega) (by omega)
    have hd : d < left.length := by omega
    have le : (left.eraseIdx d).length = left.length - 1 := by rw [List.length_eraseIdx]; simp [hd]
    obtain ⟨xs, p', h1, h2, h3, h4⟩ := some_loop T its (left.eraseIdx d) p1 (c + 1) hp1 (by omega) (by omega) (by omega)
    refine ⟨left[d] :: xs, p', by simp [h1], .cons hd h2, h3.le (by simp only [List.length_cons]; omega), fun μ i a b found x1 x2 x5 ia ib ab gi ga gb hf => ?_⟩
    simp only [List.length_cons] at hf
    obtain ⟨more, et⟩ := sp μ i gi
    have li := lt_of_get gi
    have la := lt_of_get ga
    have lb := lt_of_get gb
    generalize hm1 : μ.set i (potO p1) ++ more = μ1 at *
    have f1 : FrS [i, a, b] μ μ1 := by rw [← hm1]; exact (FrS.set (by simp)).trans FrS.app
    have g1 : μ1[i]? = some (potO p1) := by rw [← hm1, List.getElem?_append_left (by simpa using li), List.getElem?_set_self li]
    have g2 : μ1[a]? = some (.lst left) := by rw [← hm1, List.getElem?_append_left (by simpa using la), List.getElem?_set_ne ia]; exact ga
    have g3 : μ1[b]? = some (.lst found) := by rw [← hm1, List.getElem?_append_left (by simpa using lb), List.getElem?_set_ne ib]; exact gb
    have pp := pop_l g2 hd (by omega)
    have la1 := lt_of_get g2
    have g4 : (μ1.set a (.lst (left.eraseIdx d)))[b]? = some (.lst found) := by rw [List.getElem?_set_ne ab]; exact g3
    have ap := app_l (p := left[d]) g4 (by omega)
    have lb2 := lt_of_get g4
    generalize hm2 : (μ1.set a (.lst (left.eraseIdx d))).set b (.lst (found ++ [left[d]])) = μ2 at *
    have f2 : FrS [i, a, b] μ1 μ2 := by rw [← hm2]; exact (FrS.set (by simp)).trans (FrS.set (by simp))
    have k1 : μ2[i]? = some (potO p1) := by rw [← hm2, List.getElem?_set_ne (Ne.symm ib), List.getElem?_set_ne (Ne.symm ia)]; exact g1
    have k2 : μ2[a]? = some (.lst (left.eraseIdx d)) := by rw [← hm2, List.getElem?_set_ne (Ne.symm ab), List.getElem?_set_self la1]
    have k3 : μ2[b]? = some (.lst (found ++ [left[d]])) := by rw [← hm2, List.getElem?_set_self lb2]
    obtain ⟨μ', x5', fr, q1, q2, q3⟩ := h4 μ2 i a b (found ++ [left[d]]) x1 x2 (some x) ia ib ab k1 k2 k3 (by simp; omega)
    refine ⟨μ', x5', (f1.trans f2).trans fr, q1, by rw [q2]; simp, ?_⟩
    rw [← q3]
    have e : someL take [some (.ref i), x1, x2, some (.ref a), some (.ref b), some x] μ = .ok (.nx, [some (.ref i), x1, x2, some (.ref a), some (.ref b), some x]) μ2 := by
      unfold someL
      simp only [sExpr, dM, dApp, dCons, dVar, dNil, List.getElem?_cons_zero, List.getElem?_cons_succ, bindOk, islp gb, islp ga, len_l ga, et, islp g2, pp, ap, if_true]
    simp only [forGo, gSet, bindOk, List.set, e, if_true]
theorem some_spec {take : VF} (T : TakeSpec take) (n : Nat) (pool : List PV) (p : Pot) (c : Int) (hp : PotOk p c) (hc : c + n ≤ 1000) (hn : n ≤ pool.length) (hl : pool.length ≤ 100) :
    ∃ xs p', xs.length = n ∧ Picks pool xs ∧ PotOk p' (c + n) ∧ ∀ (μ : Sto) (i q : Nat), i ≠ q → μ[i]? = some (potO p) → μ[q]? = some (.lst pool) →
      ∃ r more, μ.length ≤ r ∧ (μ.set i (potO p') ++ more)[r]? = some (.lst xs) ∧ fnBody 3 6 (someB take) [.ref i, .ref q, .int n] μ = .ok (.ref r) (μ.set i (potO p') ++ more) := by
  have hr : (rgP 0 (n : Int)).length = n := by simp [rgP]
  obtain ⟨xs, p', h1, h2, h3, h4⟩ := some_loop T (rgP 0 n) pool p c hp (by rw [hr]; exact hc) (by rw [hr]; exact hn) hl
  rw [hr] at h1 h3
  refine ⟨xs, p', h1, h2, h3, fun μ i q iq gi gq => ?_⟩
  have li := lt_of_get gi
  have e1 := listB_l gq
  have e2 : vLst [] (μ ++ [MObj.lst pool]) = .ok (.ref (μ.length + 1)) (μ ++ [MObj.lst pool] ++ [MObj.lst []]) := by rw [lst_k (by simp)]; simp
  have g0 : (μ ++ [MObj.lst pool] ++ [MObj.lst []])[i]? = some (potO p) := by rw [List.append_assoc, List.getElem?_append_left li]; exact gi
  have g1 : (μ ++ [MObj.lst pool] ++ [MObj.lst []])[μ.length]? = some (.lst pool) := by simp
  have g2 : (μ ++ [MObj.lst pool] ++ [.lst []])[μ.length + 1]? = some (.lst []) := by simp
  have f0 : FrS [i] μ (μ ++ [MObj.lst pool] ++ [MObj.lst []]) := FrS.app.trans FrS.app
  have ll : (μ ++ [MObj.lst pool] ++ [MObj.lst []]).length = μ.length + 2 := by simp
  generalize hm : μ ++ [MObj.lst pool] ++ [MObj.lst []] = μ1 at *
  obtain ⟨μ', x5', fr, q1, q2, q3⟩ := h4 μ1 i μ.length (μ.length + 1) [] (some (.ref q)) (some (.int n)) none (by omega) (by omega) (by omega) g0 g1 g2 (by rw [hr]; simp; omega)
  have fr2 : FrS [i] μ μ' := ⟨by have := fr.1; omega, fun j hj n => by
    have n : j ≠ i := by simpa using n
    rw [fr.2 j (by omega) (by simp; omega), f0.2 j hj (by simpa using n)]⟩
  have e3 := fr2.eq li q1
  refine ⟨μ.length + 1, μ'.drop μ.length, by omega, by rw [← e3, q2]; rfl, ?_⟩
  rw [← e3]
  have fit : rgFit 0 (n : Int) = true := by
    have : (n : Int) ≤ 100 := by omega
    unfold rgFit
    have c1 : (0 : Int) < 2 ^ 62 := by decide
    have c2 : (100 : Int) < 2 ^ 62 := by decide
    have c3 : -(2 ^ 62) ≤ (0 : Int) := by decide
    have c4 : (100 : Nat) ≤ 2 ^ 24 := by decide
    generalize (2 : Int) ^ 62 = M at *
    generalize (2 : Nat) ^ 24 = M2 at *
    simp only [Bool.and_eq_true, decide_eq_true_eq]
    omega
  have rg : rg1 rgI (.int n) μ1 = .ok (rgP 0 n, fun _ => true) μ1 := by
    simp only [rg1, fit, if_true]
  unfold fnBody someB
  simp only [List.length_cons, List.length_nil, Nat.reduceAdd, if_true, List.map_cons, List.map_nil, sSeq, sPar, dCons, dApp, dVar, dC, dNil, List.cons_append, List.nil_append, Nat.reduceSub, List.replicate, List.getElem?_cons_zero, List.getElem?_cons_succ, bindOk, e1, e2, hm, List.set, sFor, dRg1, rg, q3, sRet]
end DL
namespace DL
open PySem PySem.Spec PyProof.Rows L2
theorem erase_map2 {α β : Type} (f : α → β) : ∀ (l : List α) (a : Nat), (l.map f).eraseIdx a = (l.eraseIdx a).map f
  | [], _ => rfl
  | x :: xs, 0 => rfl
  | x :: xs, a + 1 => by
    show f x :: (xs.map f).eraseIdx a = f x :: (xs.eraseIdx a).map f
    rw [erase_map2 f xs a]
theorem Picks.map {α β : Type} {f : α → β} : ∀ {xs : List β} {l : List α}, Picks (l.map f) xs → ∃ ys, xs = ys.map f ∧ Picks l ys
  | [], l, _ => ⟨[], rfl, .nil⟩
  | x :: xs, l, h => by
    generalize hl : l.map f = l' at h
    cases h with
    | cons h q =>
      rename_i a
      subst hl
      rw [erase_map2] at q
      obtain ⟨ys, rfl, r⟩ := Picks.map q
      refine ⟨l[a]'(by simpa using h) :: ys, by simp, .cons _ r⟩
theorem Picks.mem {α : Type} : ∀ {xs l : List α}, Picks l xs → ∀ x ∈ xs, x ∈ l
  | [], _, _, _, hx => by cases hx
  | x :: xs, l, h, y, hy => by
    cases h with
    | cons h q =>
      rcases List.mem_cons.mp hy with rfl | hy
      · exact List.getElem_mem h
      · exact List.mem_of_mem_eraseIdx (q.mem y hy)
theorem not_mem_erase {α : Type} : ∀ {l : List α} {a : Nat} (h : a < l.length), l.Nodup → l[a] ∉ l.eraseIdx a
  | x :: r, 0, h, n => (List.nodup_cons.mp n).1
  | x :: r, a + 1, h, n => by
    have n2 := List.nodup_cons.mp n
    have h' : a < r.length := by simpa using h
    show r[a] ∉ x :: r.eraseIdx a
    rw [List.mem_cons]
    rintro (e | e)
    · exact n2.1 (e ▸ List.getElem_mem h')
    · exact not_mem_erase h' n2.2 e
theorem Picks.nodup {α : Type} : ∀ {xs l : List α}, Picks l xs → l.Nodup → xs.Nodup
  | [], _, _, _ => List.nodup_nil
  | x :: xs, l, h, n => by
    cases h with
    | cons h q =>
      rw [List.nodup_cons]
      exact ⟨fun z => not_mem_erase h n (q.mem _ z), q.nodup (n.sublist (List.eraseIdx_sublist l _))⟩
/-- all ways of so many draws -/
inductive Plan where
  | done
  | tk (n : Nat) (f : Nat → Plan)
def Plan.ok : Plan → Nat → Prop
  | .done, _ => True
  | .tk _ _, 0 => False
  | .tk n f, m + 1 => 0 < n ∧ n ≤ 1000 ∧ ∀ d, (f d).ok m
def Nm (names : VF) (f : Nat → List Nat) (p : Pot) (n : Nat) (p' : Pot) : Prop := ∀ (μ : Sto) (i : Nat), μ[i]? = some (potO p) → clM μ = true → vGc names [.ref i, .int (n : Nat)] μ = .ok (.ref μ.length) (μ.set i (potO p') ++ [.lst ((List.range n).map fun j => .str ⟨⟨f j⟩⟩)])
/-- so many names of a pool -/
def NamesSpec (names : VF) (pool : List Str) (n : Nat) : Prop := ∀ (p : Pot) (c : Int), PotOk p c → c + n ≤ 1000 →
  ∃ xs p', xs.length = n ∧ Picks (pool.map PV.str) xs ∧ PotOk p' (c + n) ∧ ∀ (μ : Sto) (i : Nat), μ[i]? = some (potO p) →
    ∃ r more, μ.length ≤ r ∧ (μ.set i (potO p') ++ more)[r]? = some (.lst xs) ∧ names [.ref i, .int (n : Nat)] μ = .ok (.ref r) (μ.set i (potO p') ++ more)
def nmL (ys : List Str) (d : Str) (i : Nat) : List Nat := match ys[i]? with
  | some y => y.cps.toList
  | none => d.cps.toList
theorem nm_of {names : VF} {pool : List Str} {n : Nat} (T : NamesSpec names pool n) (hd : pool.Nodup) (d : Str) {p : Pot} {c : Int} (h : PotOk p c) (hc : c + n ≤ 1000) : ∃ ys p', ys.length = n ∧ ys.Nodup ∧ (∀ y ∈ ys, y ∈ pool) ∧ PotOk p' (c + n) ∧ Nm names (nmL ys d) p n p' := by
  obtain ⟨xs, p', hl, pk, hp, sp⟩ := T p c h hc
  obtain ⟨ys, rfl, pk2⟩ := pk.map
  have hl : ys.length = n := by simpa using hl
  refine ⟨ys, p', hl, pk2.nodup hd, pk2.mem, hp, fun μ i hi cl => ?_⟩
  obtain ⟨r, more, h1, h2, e⟩ := sp μ i hi
  unfold vGc
  rw [e]
  have := gc_strs (more := more) (r := r) (xs := ys) (clM_set (a := p'.1) (b := p'.2.1) (c := p'.2.2) (i := i) cl) (by simpa using h1) h2
  rw [List.length_set] at this
  have e2 : ys.map PV.str = (List.range n).map fun j => PV.str ⟨⟨nmL ys d j⟩⟩ := by
    refine List.ext_getElem (by simp [hl]) fun k h1 h2 => ?_
    have hk : k < ys.length := by simpa using h1
    simp [nmL, hk]
  rw [← e2]
  exact this
def nuP (f : Nat → List Nat) (Ps : Nat → Pot) : Nu := ⟨f, fun x => if x % 3 = 0 then (Ps (x / 3)).1 else if x % 3 = 1 then (Ps (x / 3)).2.1 else (Ps (x / 3)).2.2⟩
theorem nuP_pot (f : Nat → List Nat) (Ps : Nat → Pot) (k : Nat) : potI (nuP f Ps) k = potO (Ps k) := by
  unfold potI potO nuP
  simp only
  have a1 : 3 * k % 3 = 0 := by omega
  have a2 : (3 * k + 1) % 3 = 1 := by omega
  have a3 : (3 * k + 2) % 3 = 2 := by omega
  have b1 : 3 * k / 3 = k := by omega
  have b2 : (3 * k + 1) / 3 = k := by omega
  have b3 : (3 * k + 2) / 3 = k := by omega
  simp [a1, a2, a3, b1, b2, b3]
theorem nam_list {ys : List Str} {d : Str} {Ps : Nat → Pot} (hy : ∀ y ∈ ys, nameS y = true) (hd : nameS d = true) (nd : ys.Nodup) : Nam (nuP (nmL ys d) Ps) ys.length := by
  have get : ∀ i, ∃ y, nameS y = true ∧ (nuP (nmL ys d) Ps) i = y.cps.toList := fun i => by
    show ∃ y, nameS y = true ∧ nmL ys d i = y.cps.toList
    unfold nmL
    cases e : ys[i]? with
    | none => exact ⟨d, hd, rfl⟩
    | some y => exact ⟨y, hy y (List.mem_of_getElem? e), rfl⟩
  refine ⟨fun i => ?_, fun i => ?_, fun i => ?_, fun i j hi hj e => ?_⟩
  · obtain ⟨y, h, e⟩ := get i
    rw [e]; exact (nameS_ok h).2.2
  · obtain ⟨y, h, e⟩ := get i
    rw [e]; exact (nameS_ok h).1
  · obtain ⟨y, h, e⟩ := get i
    rw [e]; exact (nameS_ok h).2.1
  · have e : nmL ys d i = nmL ys d j := e
    unfold nmL at e
    rw [List.getElem?_eq_getElem hi, List.getElem?_eq_getElem hj] at e
    have e : ys[i].cps.toList = ys[j].cps.toList := e
    have e2 : ys[i] = ys[j] := by
      generalize ys[i] = x at *
      generalize ys[j] = y at *
      obtain ⟨⟨x⟩⟩ := x
      obtain ⟨⟨y⟩⟩ := y
      simp only at e
      rw [e]
    exact (List.getElem_inj nd).mp e2
end DL
namespace DL
open PySem PySem.Spec PyProof.Rows L2
end DL
namespace DL
open PySem PySem.Spec PyProof.Rows L2
/-- a text by its signs -/
abbrev TX (l : List Nat) : Str := ⟨⟨l⟩⟩
theorem big : (1000000 : Nat) ≤ sizeLine := by decide
end DL
namespace DL
open PySem PySem.Spec PyProof.Rows L2
end DL
namespace DL
open PySem PySem.Spec PyProof.Rows L2 PySem.W
end DL
namespace DL
open PySem PySem.Spec PyProof.Rows L2
end DL
namespace DL
open PySem PySem.Spec PyProof.Rows L2
theorem lookup_mem {α β : Type} [BEq α] [LawfulBEq α] {l : List (α × β)} {x : α} {v : β} (h : l.lookup x = some v) : (x, v) ∈ l := by
  induction l with
  | nil => simp at h
  | cons q r ih =>
    obtain ⟨k, u⟩ := q
    rw [List.lookup_cons] at h
    by_cases c : x = k
    · subst c
      simp at h
      subst h
      simp
    · rw [show (x == k) = false from beq_eq_false_iff_ne.mpr c] at h
      exact List.mem_cons_of_mem _ (ih h)
end DL
namespace DL
open PySem PySem.Spec PyProof.Rows L2
theorem joinT (s : List Nat) (l : List (List Nat)) : Txt.join (TX s) (l.map TX) = TX (TL.joinL s l) := by
  have h := TL.tl_join (TX s) (l.map TX)
  rw [← TL.join_eq] at h
  have e : (l.map TX).map TL.tl = l := by
    rw [List.map_map]
    exact (List.map_congr_left fun x _ => rfl).trans (List.map_id l)
  rw [e] at h
  generalize Txt.join (TX s) (l.map TX) = r at h
  obtain ⟨⟨r⟩⟩ := r
  have h : r = TL.joinL s l := h
  rw [h]
end DL
namespace DL
open PySem PySem.Spec PyProof.Rows L2
end DL
namespace DL
open PySem PySem.Spec PyProof.Rows L2
end DL
namespace DL
open PySem PySem.Spec PyProof.Rows L2
end DL
namespace DL
open PySem PySem.Spec PyProof.Rows L2 PySem.W
end DL
namespace DL
open PySem PySem.Spec PyProof.Rows L2
end DL
namespace DL
open PySem PySem.Spec PyProof.Rows L2 PySem.W
end DL
namespace DL
open PySem PySem.Spec PyProof.Rows L2 PySem.W
structure ZPairs (xs ys : Array Value) (lo : Addr) (h : Heap) (as : List Addr) : Prop where
  rise : as.Pairwise (· < ·)
  above : ∀ a ∈ as, lo < a
  pairs : ∀ (j : Nat) (a : Addr), as[j]? = some a → ∃ x y, xs[j]? = some x ∧ ys[j]? = some y ∧ IsPair h a x y
theorem ZPairs.there {xs ys : Array Value} {lo : Addr} {h : Heap} {as : List Addr} (g : ZPairs xs ys lo h as) {a : Addr} (ha : a ∈ as) : a < h.objs.size := by
  obtain ⟨j, hj⟩ := List.mem_iff_getElem?.mp ha
  obtain ⟨_, _, _, _, e⟩ := g.pairs j a hj
  exact Heap.lt_size e
def ZSt (h : Heap) (z TI TO i1 i2 l1 l2 : Addr) (xs ys : Array Value) (S : Addr) (i : Nat) : Prop :=
  IsPair h TI (.ref i1) (.ref i2) ∧ h.IsListIter i1 l1 i ∧ h.IsListIter i2 l2 i ∧ h.IsList l1 xs ∧ h.IsList l2 ys ∧
    ((IsZip h z TI TO .none ∧ ∃ a b, IsPair h TO a b) ∨ ∃ T f oT, IsZipHeld h z TI TO T f ∧ h.get? T = some oT ∧ T ≠ z ∧ T ≠ i1 ∧ T ≠ i2 ∧ T ≠ S)
structure ZBelow (z TI TO i1 i2 l1 l2 S : Addr) : Prop where
  z : z < S
  TI : TI < S
  TO : TO < S
  i1 : i1 < S
  i2 : i2 < S
  l1 : l1 < S
  l2 : l2 < S
theorem ZSt.keep {h h' : Heap} {z TI TO i1 i2 l1 l2 : Addr} {xs ys : Array Value} {S : Addr} {i : Nat} (st : ZSt h z TI TO i1 i2 l1 l2 xs ys S i) (B : ZBelow z TI TO i1 i2 l1 l2 S) (hk : ∀ b o, b ≠ S → h.get? b = some o → h'.get? b = some o) : ZSt h' z TI TO i1 i2 l1 l2 xs ys S i := by
  obtain ⟨hTI, h1, h2, hl1, hl2, hz⟩ := st
  refine ⟨hk _ _ (Nat.ne_of_lt B.TI) hTI, h1.at fun o e => hk _ o (Nat.ne_of_lt B.i1) e, h2.at fun o e => hk _ o (Nat.ne_of_lt B.i2) e, hl1.at fun o e => hk _ o (Nat.ne_of_lt B.l1) e, hl2.at fun o e => hk _ o (Nat.ne_of_lt B.l2) e, ?_⟩
  rcases hz with ⟨hz, a, b, hTO⟩ | ⟨T, f, oT, hz, hT, r1, r2, r3, r4⟩
  · exact .inl ⟨hk _ _ (Nat.ne_of_lt B.z) hz, a, b, hk _ _ (Nat.ne_of_lt B.TO) hTO⟩
  · exact .inr ⟨T, f, oT, hk _ _ (Nat.ne_of_lt B.z) hz, hk _ _ r4 hT, r1, r2, r3, r4⟩
section
variable {prog : Program} {w : World} {A : Around} {E : Value → Shared → Prop} {s : Shared} {z TI TO i1 i2 l1 l2 : Addr} {xs ys : Array Value}
theorem ZSt.zip {h : Heap} {S : Addr} (hz : IsZip h z TI TO .none) (hTI : IsPair h TI (.ref i1) (.ref i2)) (hTO : ∃ a b, IsPair h TO a b) (h1 : h.IsListIter i1 l1 0) (h2 : h.IsListIter i2 l2 0) (hl1 : h.IsList l1 xs) (hl2 : h.IsList l2 ys) : ZSt h z TI TO i1 i2 l1 l2 xs ys S 0 :=
  ⟨hTI, h1, h2, hl1, hl2, .inl ⟨hz, hTO⟩⟩
end
end DL
namespace DL
open PySem PySem.Spec PyProof.Rows L2 PySem.W
structure ZTrips (P1 P2 P3 : Nat → Value → Prop) (lo : Addr) (h : Heap) (as : List Addr) : Prop where
  rise : as.Pairwise (· < ·)
  above : ∀ a ∈ as, lo < a
  trips : ∀ (j : Nat) (a : Addr), as[j]? = some a → ∃ x y z, P1 j x ∧ P2 j y ∧ P3 j z ∧ IsTupOf3 h a x y z
theorem ZTrips.there {P1 P2 P3 : Nat → Value → Prop} {lo : Addr} {h : Heap} {as : List Addr} (g : ZTrips P1 P2 P3 lo h as) {a : Addr} (ha : a ∈ as) : a < h.objs.size := by
  obtain ⟨j, hj⟩ := List.mem_iff_getElem?.mp ha
  obtain ⟨_, _, _, _, _, _, e⟩ := g.trips j a hj
  exact Heap.lt_size e
section
variable {prog : Program} {w : World} {A : Around} {E : Value → Shared → Prop} {s : Shared} {z TI TO i1 i2 i3 T : Addr} {fp1 fp2 fp3 : List Addr} {n1 n2 n3 i : Nat} {P1 P2 P3 : Nat → Value → Prop} {St1 St2 St3 : Nat → Heap → Prop} {f : Bool} {oT : Obj}
def Z3St (h : Heap) (z TI TO i1 i2 i3 : Addr) (St1 St2 St3 : Nat → Heap → Prop) (S : Addr) (i : Nat) : Prop :=
  IsTupOf3 h TI (.ref i1) (.ref i2) (.ref i3) ∧ St1 i h ∧ St2 i h ∧ St3 i h ∧
    ((IsZip h z TI TO .none ∧ ∃ a b c, IsTupOf3 h TO a b c) ∨ ∃ T f oT, IsZipHeld h z TI TO T f ∧ h.get? T = some oT ∧ T ≠ z ∧ T ≠ i1 ∧ T ≠ i2 ∧ T ≠ i3 ∧ T ≠ S)
structure Z3Below (z TI TO i1 i2 i3 : Addr) (fp1 fp2 fp3 : List Addr) (S : Addr) : Prop where
  z : z < S
  TI : TI < S
  TO : TO < S
  f1 : ∀ b ∈ fp1, b < S
  f2 : ∀ b ∈ fp2, b < S
  f3 : ∀ b ∈ fp3, b < S
end
section
variable {prog : Program} {w : World} {A : Around} {E : Value → Shared → Prop} {s : Shared} {z TI TO i1 i2 i3 S : Addr} {fp1 fp2 fp3 : List Addr} {n1 n2 n3 i : Nat} {P1 P2 P3 : Nat → Value → Prop} {St1 St2 St3 : Nat → Heap → Prop}
theorem Z3St.keep {h h' : Heap} (D1 : Draws prog w A i1 fp1 n1 P1 St1) (D2 : Draws prog w A i2 fp2 n2 P2 St2) (D3 : Draws prog w A i3 fp3 n3 P3 St3) (st : Z3St h z TI TO i1 i2 i3 St1 St2 St3 S i) (B : Z3Below z TI TO i1 i2 i3 fp1 fp2 fp3 S) (hk : ∀ b o, b ≠ S → h.get? b = some o → h'.get? b = some o) : Z3St h' z TI TO i1 i2 i3 St1 St2 St3 S i := by
  obtain ⟨hTI, h1, h2, h3, hz⟩ := st
  refine ⟨hk _ _ (Nat.ne_of_lt B.TI) hTI, D1.frame _ _ _ h1 fun b hb o e => hk b o (Nat.ne_of_lt (B.f1 b hb)) e, D2.frame _ _ _ h2 fun b hb o e => hk b o (Nat.ne_of_lt (B.f2 b hb)) e, D3.frame _ _ _ h3 fun b hb o e => hk b o (Nat.ne_of_lt (B.f3 b hb)) e, ?_⟩
  rcases hz with ⟨hz, a, b, c, hTO⟩ | ⟨T, f, oT, hz, hT, r1, r2, r3, r4, r5⟩
  · exact .inl ⟨hk _ _ (Nat.ne_of_lt B.z) hz, a, b, c, hk _ _ (Nat.ne_of_lt B.TO) hTO⟩
  · exact .inr ⟨T, f, oT, hk _ _ (Nat.ne_of_lt B.z) hz, hk _ _ r5 hT, r1, r2, r3, r4, r5⟩
end
end DL
namespace DL
open PySem PySem.Spec PyProof.Rows L2 PySem.W PySem.Calls
section
variable {prog : Program} {w : World} {A : Around} {E : Value → Shared → Prop} {hp : Heap} {gn : Array GenState} {dr : Drawn} {tk : Nat} {os : OsState}
/-- the bound built-in __init__ is called: the args are laid anew -/
theorem call_mw {C u x t0 : Addr} {rest : List Value} {Q : Value → Shared → Prop} {nm q : Str} {N : Addr} {bs bm : List Value} {hdct : Bool} {sn : List Str} {sub : List Value} {ab : Bool} {col : Option Bool} {dd : Option Addr} {k0 k1 k2 k3 k5 : Option Value}
    (cls : hp.get? C = some (excClassObj nm q C N bs bm hdct sn sub ab col dd k0 k1 k2 k3 k5 "ValueError.__new__")) (obj : hp.get? x = some (HandSPX.excO C t0)) (mw : hp.get? u = some (kxs_mw "ValueError.__init__" x)) (few : rest.length ≤ sizeLine)
    (fin : ∀ h' t1, (∀ b o, b ≠ x → hp.get? b = some o → h'.get? b = some o) → h'.get? x = some (HandSPX.excO C t1) → Q .none ⟨h', gn, dr, tk, os⟩) : wpAny (model prog w) A (call (.ref u) rest) Q E ⟨hp, gn, dr, tk, os⟩ := by
  refine wpAny_call (codeAny_of_tree ?_)
  show wpAny (model prog w) A.in1 (callAny (.ref u) { pos := rest }) _ _ _
  unfold callAny
  refine wpAny_bind (wpAny_load mw ?_)
  have m1 : (Value.type "method-wrapper" == Value.type "method" || Value.type "method-wrapper" == Value.type "builtin_function_or_method" || Value.type "method-wrapper" == Value.type "method-wrapper") = true := by decide
  dsimp only [kxs_mw]
  simp only [m1, if_true]
  refine KFB.if_so (by decide) ?_
  refine wpAny_bind (check_bound_init (F.excBase_ValueError.toExcCallFacts) cls obj rfl ?_)
  refine wpAny_bind (wpAny_pure (wpAny_pure ⟨plainId_quiet F.excBase_ValueError.init.plain _, codeAny_builtin F.excBase_ValueError.initEntry ?_⟩))
  exact exc_init_tree (cls := .ref C) (t0 := t0) (dv := none) (c2 := .none) (c3 := .none) (b4 := .bool false) obj few fun h' k e _ => fin h' _ k e
end
/-- the body of such an __init__ -/
abbrev xiCall (l : Nat) : Expr := .Call (.Attribute (.Call (.Name "super" ⟨l, 8, l, 13⟩) [] [] ⟨l, 8, l, 15⟩) "__init__" ⟨l, 8, l, 24⟩) [.Name "value" ⟨l, 25, l, 30⟩] [] ⟨l, 8, l, 31⟩
abbrev xiSet (l : Nat) : Stmt := .Assign [.Attribute (.Name "self" ⟨l + 1, 8, l + 1, 12⟩) "value" ⟨l + 1, 8, l + 1, 18⟩] (.Name "value" ⟨l + 1, 21, l + 1, 26⟩) ⟨l + 1, 8, l + 1, 26⟩
abbrev xiBody (l : Nat) : List Stmt := [.Expr (xiCall l) ⟨l, 8, l, 31⟩, xiSet l]
/-- how it is read -/
structure XiRead (l : Nat) : Prop where
  call : ∃ pl, ∀ env, eval (xiCall l) env = (do
      let ov ← attributeBase (.Call (.Name "super" ⟨l, 8, l, 13⟩) [] [] ⟨l, 8, l, 15⟩) "__init__" env (eval (.Call (.Name "super" ⟨l, 8, l, 13⟩) [] [] ⟨l, 8, l, 15⟩) env)
      standAt (Pos.atName ⟨l, 8, l, 24⟩)
      let (f, first) ← holding [ov] (getMethod ov "__init__" pl)
      callWith ⟨l, 8, l, 31⟩ f first (backTo ⟨l, 8, l, 31⟩ (starEach [.Name "value" ⟨l, 25, l, 30⟩] env)) [])
  one : ∀ env, swapsWith (xiCall l) none l env = pure false
  two : ∀ env, swapsWith (.Name "value" ⟨l + 1, 21, l + 1, 26⟩) (some (.Attribute (.Name "self" ⟨l + 1, 8, l + 1, 12⟩) "value" ⟨l + 1, 8, l + 1, 18⟩)) (l + 1) env = pure false
theorem xiRead {l : Nat} (h : l = 5 ∨ l = 8) : XiRead l := by
  rcases h with rfl | rfl
  · exact ⟨⟨_, fun _ => rfl⟩, fun _ => rfl, fun _ => rfl⟩
  · exact ⟨⟨_, fun _ => rfl⟩, fun _ => rfl, fun _ => rfl⟩
abbrev xiScope : Scope := { kind := .function, names := [("self", .local), ("value", .local), ("__class__", .free), ("super", .globalImplicit)], isGenerator := false, isCoroutine := false, more := [] }
/-- what the written part must say of the def at f in the class at M -/
structure XiDef (K : PySem.W.Frag) (P : Program) (M f : Addr) : Prop where
  ex : ∃ (oc dV kV doc pm ct : Value) (od an : Option Addr) (osl : Array (Option Value)) (ar : Arg) (params : Arguments) (l : Nat) (cda cc : Addr) (qual : Str) (c1 c3 : Value) (c2 c4 : Option Addr) (vs cs1 : Array (Option Value)) (fs : Array Value) (file : Str) (tf : Tok),
    (l = 5 ∨ l = 8) ∧ K.lookup f = some ⟨oc, od, .func (ksFn "__init__" qual params (xiBody l) xiScope dV kV doc pm an (.ref cda) ct cc), osl⟩ ∧ codeIn K (.ref cda) qual = true ∧
      (params.posonlyargs ++ params.args).head? = some ar ∧ ar.arg = "self" ∧ (∀ (x u : Value), bindArgs (ksFn "__init__" qual params (xiBody l) xiScope dV kV doc pm an (.ref cda) ct cc) ⟨[x, u], []⟩ = pure [(Str.ofString "self", x), (Str.ofString "value", u)]) ∧
      K.lookup cda = some ⟨c1, c2, .fields fs, vs⟩ ∧ fs[2]? = some (.str file tf) ∧ ((P.main.file : Str) == file) = true ∧ (P.main.scope.names.lookup ("super" : Str)).isSome = false ∧
      K.lookup cc = some ⟨c3, c4, .cell (some (.ref M)), cs1⟩
  typ : typeIn K (.ref f) = some (.type "function")
  cls : (clsIn K M).isSome = true
  sup : nsIn K mainGlobals "super" = some none
  thr : nsIn K cStatics "thirdparty.any" = some none
/-- .. of the class at C, M itself or below it -/
structure XiCls (K : PySem.W.Frag) (M f C : Addr) : Prop where
  oex : OexC K C
  ini : findIn K (.ref C) "__init__" = some (some (.ref f))
  sub : mroIn K C (.ref M) = some true
  bas : ks_superIn K C M "__init__" = some (some (.builtin "ValueError.__init__"))
  ve : subIn K (.ref C) (.type "ValueError") = some true
  val : findIn K (.ref C) "value" = some none
section
variable {prog : Program} {w : World} {A : Around} {R : Result → Shared → Prop} {K : PySem.W.Frag} {mg mb : Str → Option Value} {hp : Heap} {gn : Array GenState} {dr : Drawn} {tk : Nat} {os : OsState} {M f C x t0 : Addr} {u : Value}
theorem ns_kept {h1 h2 : Heap} {a : Addr} {m : Str → Option Value} (n : h1.Ns a m) (k : ∀ o, h1.get? a = some o → h2.get? a = some o) : h2.Ns a m :=
  let ⟨o, es, ep, e, r⟩ := n
  ⟨o, es, ep, k o e, r⟩
/-- the __init__ is run on a new exception object -/
theorem xi_run (D : XiDef K prog M f) (T : XiCls K M f C) (inK : K.In hp) (glob : hp.Ns mainGlobals mg) (blt : hp.Ns builtinsNs mb) (boot : ∀ y : Str, y ≠ "__name__" → mb y = bootBuiltins y) (lim : hp.NoLimit) (room : A.depth < recursionLimit)
    (obj : hp.get? x = some (HandSPX.excO C t0)) (xnew : K.lookup x = none)
    (fin : ∀ h' t1 dx tk', (∀ b o, b ≠ x → hp.get? b = some o → h'.get? b = some o) → hp.objs.size ≤ dx → h'.get? x = some { cls := .ref C, dict := some dx, data := .fields #[.ref t1, .none, .none, .none, .bool false, .none] } →
      h'.Ns1 dx (fun y => if y = "value" then some u else none) → R (.ok (.ret .none)) ⟨h', gn, dr, tk', os⟩) :
    codeAny (model prog w) A (.call (.ref f) ⟨[.ref x, u], []⟩) R ⟨hp, gn, dr, tk, os⟩ := by
  obtain ⟨oc, dV, kV, doc, pm, ct, od, an, osl, ar, params, l, cda, cc, qual, c1, c3, c2, c4, vs, cs1, fs, file, tf, line, look, code, head, arg, bind, codeAt, fileAt, here, noSup, cell⟩ := D.ex
  obtain ⟨nm, q, N, bs, bm, sn, sub, ab, col, dd, k0, k1, k2, k3, k5, atC, isVE⟩ := T.oex.cls
  obtain ⟨cdM, atM⟩ := Option.isSome_iff_exists.mp D.cls
  have cdC : clsIn K C = some { name := nm, bases := bs, mro := .ref C :: bm, ns := N, qualname := q, hasDict := true, slotNames := sn, subclasses := sub, abstract := ab, collection := col, hasDel := false } := by unfold clsIn; rw [atC] <;> rfl
  have names : ∀ y ∈ [(("self" : Str), Value.ref x), ("value", u)], xiScope.names.lookup y.1 = some .local := fun y hy => by
    rcases List.mem_cons.mp hy with e | hy
    · rw [e]; rfl
    · rw [List.mem_singleton.mp hy]; rfl
  refine ks_codeAny_call_defAt (fd := ksFn "__init__" qual params (xiBody l) xiScope dV kV doc pm an (.ref cda) ct cc) (body := xiBody l) (binds := [("self", .ref x), ("value", u)]) room (inK _ _ look) rfl lim (codeRec_of inK code) rfl (BindsTo.of_eq (bind _ _))
    (show ∀ y ∈ xiScope.names, y.2 ≠ .cell by decide) names fun h1 n1 k1' => ?_
  obtain ⟨L, hL⟩ : ∃ L, hp.objs.size = L := ⟨_, rfl⟩
  have n1 : h1.Ns L (fun y => List.lookup y (List.reverse [(("self" : Str), Value.ref x), ("value", u)])) := by rw [← hL]; exact n1
  have xL : x < L := by rw [← hL]; exact Heap.lt_size obj
  have L1 : ∀ b o, hp.get? b = some o → b ≠ L := fun b o e => by rw [← hL]; exact Nat.ne_of_lt (Heap.lt_size e)
  rw [hL]
  obtain ⟨⟨pl, rd⟩, rd1, rd2⟩ := xiRead line
  refine ks_wpAt_execs_cons (ks_wpAt_Expr_any (ks_wpAt_MethodCall (pl := pl) ?_ (rd _)) rfl (rd1 _))
  have at1 : ∀ {b : Addr} {o : Obj}, K.lookup b = some o → h1.get? b = some o := fun e => k1' _ _ (inK _ _ e)
  have mgS : mg "super" = none := mg_none_of inK glob D.sup
  obtain ⟨oM, oM1, oM2⟩ : ∃ oM, h1.get? M = some oM ∧ oM.data = .cls cdM := by
    unfold clsIn at atM
    split at atM
    · rename_i z1 z2 z3 z4 z5
      cases atM
      exact ⟨_, at1 z5, rfl⟩
    · cases atM
  refine ks_wpAt_super_base (ar := ar) rfl rfl (by decide) rfl (at1 look) rfl head rfl (at1 codeAt) rfl fileAt here noSup ?_
  rw [arg]
  refine ks_loadName_global rfl rfl (loadGlobal_builtin (ns_kept glob fun o e => k1' _ o e) mgS (ns_kept blt fun o e => k1' _ o e) ((boot _ (by decide +kernel)).trans PyProof.Rows.Boot.«super») ⟨rfl, ?_⟩)
  refine wpAny_loadName_free rfl rfl rfl ⟨_, at1 cell, rfl⟩ (wpAny_loadName_local rfl rfl n1 (v := .ref x) rfl (ks_wpAny_isType_cls oM1 oM2 ⟨rfl, ?_⟩))
  have obj1 := k1' _ _ obj
  refine ks_wpAny_call_super oM1 oM2 obj1 rfl (fun c z => nomatch z) (looks_mroIn (inK.keeps k1') T.sub) fun h2 so k2 => ?_
  -- super().__init__
  have in2 : K.In h2 := (inK.keeps k1').keeps k2
  have obj2 := k2 _ _ obj1
  have i2 : InstAt h2 x (HandSPX.excO C t0) C none := ⟨obj2, rfl, rfl, trivial⟩
  have xC : x ≠ C := ks_ne in2 i2 cdC
  have bas := T.bas
  unfold ks_superIn at bas
  rw [cdC, Option.bind_some] at bas
  refine kxs_getMethod kxs_ValueError so (looks_opaque in2 D.thr) (fun A' Q' E' s' kk z => wpAny_bind (looks_clsIn in2 cdC A' _ E' s' kk (wpAny_pure z))) rfl in2 bas (i2.type.andThen (looks_subIn in2 T.ve)) xC (by decide) ?_
  generalize hu : h2.objs.size = wu
  have szL : L < h1.objs.size := n1.lt
  obtain ⟨h3, e3⟩ : ∃ h3, h2.push (kxs_mw "ValueError.__init__" x) = h3 := ⟨_, rfl⟩
  rw [e3]
  have k3 : ∀ b o, h2.get? b = some o → h3.get? b = some o := fun b o e => by rw [← e3]; exact Heap.get?_push_of_some _ e
  have mw : h3.get? wu = some (kxs_mw "ValueError.__init__" x) := by rw [← e3, ← hu]; exact Heap.get?_push_at rfl rfl
  have k03 : ∀ b o, hp.get? b = some o → h3.get? b = some o := fun b o e => k3 _ _ (k2 _ _ (k1' _ _ e))
  have n3 : h3.Ns L (fun y => List.lookup y (List.reverse [(("self" : Str), Value.ref x), ("value", u)])) := ns_kept n1 fun o e => k3 _ _ (k2 _ _ e)
  refine kxs_callWith (i := "ValueError.__init__") (x := x) rfl (evalArgs_plain ?_)
  refine Calls.spliced_cons (wpAny_Name (wpAny_loadName_local rfl rfl n3 (v := u) rfl (Calls.spliced_nil ⟨mw, ?_⟩)) (by decide))
  refine call_mw (k3 _ _ (k2 _ _ (at1 atC))) (k3 _ _ obj2) mw (by show 1 ≤ sizeLine; rw [sizeLine_eq]; omega) fun h4 t1 k4 obj4 => ?_
  -- self.value = value
  have k04 : ∀ b o, b ≠ x → hp.get? b = some o → h4.get? b = some o := fun b o n e => k4 b o n (k03 b o e)
  have in4 : K.In h4 := fun b o e => k4 b o (fun z => by
    rw [z, xnew] at e
    cases e) (k03 _ _ (inK _ _ e))
  have n4 : h4.Ns L (fun y => List.lookup y (List.reverse [(("self" : Str), Value.ref x), ("value", u)])) := ns_kept n3 fun o e => k4 _ _ (Nat.ne_of_gt xL) e
  refine ks_wpAt_execs_cons (ks_wpAt_Assign_Attr (PySem.wpAt_of_wpAny (wpAny_Name (wpAny_loadName_local rfl rfl n4 (v := u) rfl (wpAny_Name (wpAny_loadName_local rfl rfl n4 (v := .ref x) rfl ?_) (by decide))) (by decide))) (rd2 _))
  have i4 : InstAt h4 x (HandSPX.excO C t1) C none := ⟨obj4, rfl, rfl, trivial⟩
  refine set_plain in4 i4 T.oex.sa (HandSPX.exc_osa in4 obj4 cdC (show HandSPX.refsVE (.ref C :: bm) = true from isVE) rfl T.val fun h5 tk5 dx k5' dn dne obj5 n5 => ?_)
  refine PySem.wpAt_of_wpAny (wpAny_execs_nil ?_)
  refine fin h5 t1 dx tk5 (fun b o n e => k5' b o n (k04 b o n e)) ?_ obj5 n5
  exact Nat.le_of_lt (Nat.lt_of_lt_of_le (by rw [hL]; exact n4.lt) dn)
end
end DL
namespace DL
open PySem PySem.Spec PyProof.Rows L2
/-- the exception object at a, its dict at d, both known as they stand -/
def excH (H : Hp) (a d : Addr) (oe od : Obj) (x : V) : Hp := upd (upd H a (.frz oe (.own a))) d (.frz od (.xd [("value", x)]))
theorem excH_d {H : Hp} {a d : Addr} {oe od : Obj} {x : V} : excH H a d oe od x d = some (.frz od (.xd [("value", x)])) := upd_same
theorem excH_a {H : Hp} {a d : Addr} {oe od : Obj} {x : V} (h : a ≠ d) : excH H a d oe od x a = some (.frz oe (.own a)) := (upd_ne h).trans upd_same
theorem excH_ne {H : Hp} {a d b : Addr} {oe od : Obj} {x : V} (h1 : b ≠ a) (h2 : b ≠ d) : excH H a d oe od x b = H b := (upd_ne h2).trans (upd_ne h1)
section
variable {X : Cx} {pins : List (Addr × Obj)} {σ : L2.St} {H : Hp} {s : Shared} {a d : Addr} {oe : Obj} {x : V} {fs : Array Value}
theorem inv_frozen (I : Inv X pins σ H s) (here : s.heap.get? a = some oe) (dat : oe.data = .fields fs) (un : H a = none) (new : X.s_0.heap.get? a = none) (loc : a ≠ X.env.locals) (pn : ∀ p ∈ X.pn ++ pins, p.1 ≠ a) (hd : H d = some (.xd [("value", x)])) :
    ∃ od, Inv X pins σ (excH H a d oe od x) s := by
  obtain ⟨mA, ⟨od, es, ep, e1, e2⟩, e3⟩ : ObjOk X.prog X.w H s.heap d (.xd [("value", x)]) := I.hok d _ hd
  have da : d ≠ a := fun z => by rw [z, un] at hd; cases hd
  have out : ∀ b, b ≠ a → b ≠ d → excH H a d oe od x b = H b := fun b h1 h2 => excH_ne h1 h2
  have nu : ∀ b u, H b = some u → (u ≠ .xd [("value", x)]) → b ≠ a ∧ b ≠ d := fun b u e n => by
    refine ⟨fun z => ?_, fun z => ?_⟩
    · rw [z, un] at e
      cases e
    · rw [z, hd] at e
      exact n (Option.some.inj e).symm
  have no : ∀ b, H b = none → b ≠ d := fun b e z => by rw [z, hd] at e; cases e
  refine ⟨od, ⟨I.ok, I.os, I.bare, ⟨I.base.keep, I.base.slot, fun b o g n hx => ?_, I.base.there, fun b xs e => ?_, fun b o u e => ?_, fun b ps e => ?_⟩, I.loc, I.cell, ?_, fun y c e => ?_, fun p hp => ?_, fun b u e => ?_, I.len⟩⟩
  · have h := I.base.free b o g n hx
    rw [out b (fun z => by rw [z, new] at g; cases g) (no b h)]
    exact h
  · have h := I.base.tups b xs e
    obtain ⟨h1, h2⟩ := nu b _ h (fun z => nomatch z)
    rw [out b h1 h2]
    exact h
  · have h := I.base.frzs b o u e
    obtain ⟨h1, h2⟩ := nu b _ h (fun z => nomatch z)
    rw [out b h1 h2]
    exact h
  · obtain ⟨more, h⟩ := I.base.tbls b ps e
    obtain ⟨h1, h2⟩ := nu b _ h (fun z => nomatch z)
    exact ⟨more, by rw [out b h1 h2]; exact h⟩
  · rw [out _ (Ne.symm loc) (no _ I.free)]
    exact I.free
  · have h := I.freeC y c e
    rw [out c (fun z => ?_) (no c h)]
    · exact h
    · obtain ⟨v, o, g1, g2⟩ := I.cell y c e
      rw [z, here] at g1
      cases g1
      rw [dat] at g2
      cases g2
  · obtain ⟨g1, g2, g3, g4, g5⟩ := I.pin p hp
    exact ⟨g1, by rw [out _ (pn p hp) (no _ g2)]; exact g2, g3, g4, g5⟩
  · by_cases hb : b = d
    · subst hb
      rw [excH_d] at e
      cases e
      exact ⟨e1, mA, ⟨od, es, ep, e1, e2⟩, e3⟩
    · by_cases hb2 : b = a
      · subst hb2
        rw [excH_a (Ne.symm da)] at e
        cases e
        exact ⟨here, oe, here⟩
      · rw [out b hb2 hb] at e
        exact (I.hok b u e).stay (fun _ _ _ g => g) (fun c h => by
          obtain ⟨h1, h2⟩ := nu c _ h (fun z => nomatch z)
          rw [out c h1 h2]
          exact h) fun c xs h => by
          obtain ⟨h1, h2⟩ := nu c _ h (fun z => nomatch z)
          rw [out c h1 h2]
          exact h
end
/-- what the clause `except x as n` wishes of an exception with a value; the suite runs through, and the exception stays known -/
def wKeep (K : PySem.W.Frag) (c : Value) (i : Nat) (ts : Addr → Value → Option Addr → TS) (D : Ends) : WX := fun cls dd σ H =>
  ∃ (C d : Addr) (x : V), cls = .ref C ∧ dd = some d ∧ PySem.W.exmOne K cls c = some true ∧ ∀ a, H a = none →
    ts a cls dd { nx := fun σ' H' => H' d = some (.xd [("value", x)]) ∧ ∀ oe od fs, oe.cls = .ref C → oe.dict = some d → oe.data = .fields fs → D.nx (σ'.set i none) (excH H' a d oe od x), rt := fun _ _ => False, bk := fun _ _ => False, ct := fun _ _ => False } (σ.set i (some (.ref a))) H
section
variable {X : Cx} {x n : Str} {c : Value} {i : Nat} {body suite : List Stmt} {b₀ : Stmt} {np pos pos' : Pos} {tb : WX → TS} {ts : Addr → Value → Option Addr → TS}
theorem ps_try_kept (stk : X.stack = X.env :: X.outer) (fr : X.env.frame = some X.env.locals) (nd : X.N.Nodup) (hi : X.N[i]? = some n) (lc : X.env.kindOf n = some .local) (hc : Names X x c) (ex : X.ex = [])
    (hb : ∀ (W : WX) (pn : List (Addr × Obj)) (xe : Value → Shared → Prop), Takes (X.tr pn xe) W → PassesOwn (model X.prog X.w) X.A X.env xe → PSs (X.tr pn xe) body (tb W))
    (hs : ∀ (a : Addr) (oe : Obj) (cls : Value) (d : Option Addr) (pn : List (Addr × Obj)), Zc cls d oe → (∃ vs, oe.data = .fields vs) → PSs (X.suite a ((a, oe) :: pn)) (b₀ :: suite) (ts a cls d)) :
    PS X (.Try body [.ExceptHandler (some (.Name x np)) (some n) (b₀ :: suite) pos'] [] [] pos) (fun D σ H => tb (wKeep X.K c i ts D) D σ H) := by
  constructor
  intro pins s σ H D I want
  have okX := I.ok
  have frames : X.A.frames = some (X.env :: X.outer) := by rw [okX.frames, stk]
  have whole := (hb (wKeep X.K c i ts D) (X.pn ++ pins) (fun e s₁ => wpAny (model X.prog X.w) X.A (noteFrame e X.env) (fun _ s₂ => wpAny (model X.prog X.w) X.A (setFlight e none) (fun _ s₃ =>
    wpAny (model X.prog X.w) X.A (handleBy e X.env [.ExceptHandler (some (.Name x np)) (some n) (b₀ :: suite) pos']) (SP X pins D) X.xe s₃) X.xe s₂) X.xe s₁) (fun u s2 air => ?_) PassesOwn.looking).run [] s σ H D (I.toTry _) want
  · refine wpAny_Try_except (wpAny_mono whole (fun fl s2 ends => ?_) fun _ _ z => z)
    cases fl with
    | next =>
      obtain ⟨σ2, H2, I2, q2⟩ := ends
      exact wpAny_execs_nil ⟨σ2, H2, I2.ofTry okX, q2⟩
    | ret u =>
      obtain ⟨v, σ2, H2, I2, ru, q2⟩ := ends
      exact ⟨v, σ2, H2, I2.ofTry okX, ru, q2⟩
    | brk =>
      obtain ⟨σ2, H2, I2, q2⟩ := ends
      exact ⟨σ2, H2, I2.ofTry okX, q2⟩
    | cont =>
      obtain ⟨σ2, H2, I2, q2⟩ := ends
      exact ⟨σ2, H2, I2.ofTry okX, q2⟩
  · obtain ⟨a, B, sI, pins2, σ2, H2, cls, dd, rfl, J2, ground, slots, sky, un, osE, bare, C, d, v, rfl, rfl, match1, suiteOk⟩ := air
    have J : Inv X pins σ2 H2 sI := J2.ofTry okX
    have sky2 : Sky B (X.env :: X.outer) a (Zc (.ref C) (some d)) X.env.locals s2.heap := by rw [← stk]; exact sky
    refine Sky.land Zc.steady frames fr sky2 fun h3 fly up3 => ?_
    have J3 : Inv X pins σ2 H2 { s2 with heap := h3 } := J.landed ground fly.1 (slots.trans up3) osE bare
    obtain ⟨oe3, fs3, at3, z3, dat3⟩ := fly.there
    have noFr : ∀ {h : Heap} {o : Obj} {vs : Array Value}, h.FunFrames B (X.env :: X.outer) → h.get? a = some o → o.data = .fields vs → a ∉ frs (X.env :: X.outer) := fun ff e1 e2 hm => by
      obtain ⟨_, o', e3, hn⟩ := ff.mem hm
      rw [e1] at e3
      cases e3
      exact hn _ e2
    have nf3 := noFr fly.2.2.1 at3 dat3
    have locA : a ≠ X.env.locals := fun z => nf3 (List.mem_filterMap.mpr ⟨X.env, List.mem_cons_self, by rw [fr, z]⟩)
    have fsA : a ∉ X.fs := fun hm => by
      obtain ⟨e1, he1, q1⟩ := List.mem_filterMap.mp hm
      exact nf3 (List.mem_filterMap.mpr ⟨e1, List.mem_cons_of_mem _ he1, q1⟩)
    have newI : sI.heap.get? a = none := by
      cases e : sI.heap.get? a with
      | none => rfl
      | some o =>
        have g := ground a o e (by rw [stk]; exact nf3)
        rw [fly.2.1] at g
        cases g
    have new0 : X.s_0.heap.get? a = none := by
      cases e : X.s_0.heap.get? a with
      | none => rfl
      | some o =>
        obtain ⟨o', e'⟩ := J.base.there a o e (by rw [ex]; exact fun z => nomatch z)
        rw [newI] at e'
        cases e'
    have pinA : ∀ p ∈ X.pn ++ pins, p.1 ≠ a := fun p hp z => by
      have g := (J.pin p hp).1
      rw [z, newI] at g
      cases g
    have S3 := J3.suite at3 dat3 un locA fsA
    refine wpAny_handleBy_cons (codeAny_handlers_test ?_) (fun z => nomatch z)
    have ty3 : PySem.W.Looks (model X.prog X.w) h3 (typeOf (.ref a)) (.ref C) := fun A Q E s k q => wpAny_typeOf_ref (k _ _ at3) (by rw [z3.1]; exact q)
    have is3 := PySem.W.exm_one (M := model X.prog X.w) J3.kIn ty3 match1
    have named : ∀ {Q : Value → Shared → Prop} {E : Value → Shared → Prop}, Q c { s2 with heap := h3 } → wpAny (model X.prog X.w) (X.A.mark (some (.ref a))) (eval (.Name x np) X.env) Q E { s2 with heap := h3 } := fun {Q E} q => by
      obtain ⟨g1, g2, g3 | ⟨g4, g5, g6⟩⟩ := hc
      · exact ld_glob (X := X.suite a ((a, oe3) :: (X.pn ++ pins))) S3 g1 g3 q g2
      · exact ld_blt (X := X.suite a ((a, oe3) :: (X.pn ++ pins))) S3 g1 g4 g5 q g6 g2
    refine named (is3.here (codeAny_handlers_suite_as (HandSPX.lands_againZ fly fun h4 fly4 up4 => ?_)))
    have J4 : Inv X pins σ2 H2 { s2 with heap := h4 } := J.landed ground fly4.1 ((slots.trans up3).trans up4) osE bare
    obtain ⟨oe4, fs4, at4, z4, dat4⟩ := fly4.there
    have S4 := J4.suite at4 dat4 un locA fsA
    refine store_ok (X := X.suite a ((a, oe4) :: (X.pn ++ pins))) (v := .ref a) S4 nd hi (.inl lc) rfl (fun s5 S5 => ?_) (.inr lc)
    refine wpAny_mono ((hs a oe4 (.ref C) (some d) (X.pn ++ pins) z4 ⟨_, dat4⟩).run [] s5 _ H2 _ S5 (suiteOk a un)) (fun fl s6 ends => ?_) fun _ _ z => False.elim z
    cases fl with
    | next =>
      obtain ⟨σ6, H6, S6, hd6, q6⟩ := ends
      refine gone_ok (X := X.suite a ((a, oe4) :: (X.pn ++ pins))) S6 nd hi lc fun s7 S7 => ?_
      have J7 : Inv X pins (σ6.set i none) H6 s7 := S7.unsuite okX
      obtain ⟨g1, g2, _⟩ := S7.pin (a, oe4) (List.mem_append_left _ List.mem_cons_self)
      obtain ⟨od, J8⟩ := inv_frozen J7 g1 dat4 g2 new0 locA pinA hd6
      exact ⟨_, _, J8, q6 oe4 od fs4 z4.1 z4.2 dat4⟩
    | ret u =>
      obtain ⟨v6, σ6, H6, S6, r6, q6⟩ := ends
      exact q6.elim
    | brk =>
      obtain ⟨σ6, H6, S6, q6⟩ := ends
      exact q6.elim
    | cont =>
      obtain ⟨σ6, H6, S6, q6⟩ := ends
      exact q6.elim
end
end DL
namespace DL
open PySem PySem.Spec PyProof.Rows L2
section
variable (P : Program) (w : World) (K : PySem.W.Frag)
/-- an exception with a value, as W says, seen from outside -/
def EX (W : EW) : XK := fun cls dd H' => ∃ (C : Addr) (v : PV) (μ : Sto) (ρ : List Addr) (H0 : Hp) (d : Addr) (x : V), cls = .ref C ∧ dd = some d ∧ H0 d = none ∧ RSt P w K ρ H0 μ ∧ RV K ρ H0 v x ∧ H' = upd H0 d (.xd [("value", x)]) ∧ W C v μ ρ H0
/-- .. and back -/
def WE (E : XK) : EW := fun C v μ ρ H0 => ∀ (d : Addr) (x : V), H0 d = none → RV K ρ H0 v x → E (.ref C) (some d) (upd H0 d (.xd [("value", x)]))
/-- a def that may raise keeps this promise -/
def spX (n : Nat) (F : VF) : Sp := fun vs H Q E => vs.length = n ∧ rL P w K (WE K E) F vs H Q
end
section
variable {P : Program} {w : World} {K : PySem.W.Frag} {W W' : EW} {F : VF}
theorem Post.wish {α β : Type} {ρ : List Addr} {H : Hp} {r : Rz α} {Rel : List Addr → Hp → α → β → Prop} {Q : β → Hp → Prop} (h : Post P w K W ρ H r Rel Q) (hw : ∀ C v μ ρ' H', RSt P w K ρ' H' μ → W C v μ ρ' H' → W' C v μ ρ' H') : Post P w K W' ρ H r Rel Q := by
  cases r with
  | ok a μ => exact h
  | err C v μ => exact fun ρ' H' st t => hw _ _ _ _ _ t (h ρ' H' st t)
  | bad => exact h
theorem wish_out {C : Addr} {v : PV} {μ : Sto} {ρ : List Addr} {H : Hp} (t : RSt P w K ρ H μ) (h : W C v μ ρ H) : WE K (EX P w K W) C v μ ρ H := fun d x hd rx => ⟨C, v, μ, ρ, H, d, x, rfl, rfl, hd, t, rx, rfl, h⟩
theorem rl_out {vs : List V} {H : Hp} {Q : VK} (h : rL P w K W F vs H Q) : rL P w K (WE K (EX P w K W)) F vs H Q := by
  obtain ⟨ρ, μ, ps, r, t, q⟩ := h
  exact ⟨ρ, μ, ps, r, t, q.wish fun _ _ _ _ _ t h => wish_out t h⟩
end
def dPure (d : DE) : DE := fun η μ => calmR (d η μ)
def tPure (d : DT) : DT := fun η μ => calmR (d η μ)
def sPure (d : DS) : DS := fun η μ => calmR (d η μ)
section
variable {X : Cx} {W : EW}
theorem le_pure {e : Expr} {d : DE} (h : LE X EW0 e d) : LE X W e (dPure d) := h.impD fun σ H Q ⟨ρ, η, μ, en, s, q⟩ => ⟨ρ, η, μ, en, s, Post.calm q⟩
theorem lt_pure {e : Expr} {d : DT} (h : LT X EW0 e d) : LT X W e (tPure d) := h.impD fun σ H Q ⟨ρ, η, μ, en, s, q⟩ => ⟨ρ, η, μ, en, s, Post.calm q⟩
theorem ls_pure {e : Stmt} {d : DS} (h : LS X EW0 e d) : LS X W e (sPure d) := h.impD fun D σ H ⟨ρ, η, μ, en, s, q⟩ => ⟨ρ, η, μ, en, s, Post.calm q⟩
end
/-- exceptions with a value, as W says, are taken -/
def XW (X : Cx) (W : EW) : Prop := Takes X fun cls dd _ H => EX X.prog X.w X.K W cls dd H
structure HasX (P : Program) (w : World) (K : PySem.W.Frag) (mg : Str → Option Value) (base : Heap) (k : Nat) (f : Addr) (ps : List Str) (F : VF) : Prop where
  ex : ∃ fd, Binds K fd ps [] ∧ FnOk P w K mg base (L2.CX P w) k f fd ps (spX P w K ps.length F)
  kp : PySem.W.keepIn K (.ref f) = true
  ar : Ar ps.length F
section
variable {P : Program} {w : World} {K : PySem.W.Frag} {mg : Str → Option Value} {base : Heap} {x qual : Str} {st : Stmt} {f : Addr} {fd : FuncData} {N ps : List Str} {k : Nat} {d : DS} {kws : List (Str × V)}
theorem xw_of {qual : Str} {scope : Scope} {cdv : Value} {A : Around} {outer : List Env} {s : Shared} {H : Hp} {E : XK} : XW (cxOf (L2.CX P w) P w K mg base N qual scope f cdv A outer s H E) (WE K E) :=
  (takes_of (X := cxOf (L2.CX P w) P w K mg base N qual scope f cdv A outer s H E) (E := E) rfl rfl rfl rfl).imp fun c dd σ H1 ⟨C, v, μ, ρ, H0, dx, y, e1, e2, e3, _, e5, e6, e7⟩ => by
    subst e1 e2 e6
    exact e7 dx y e3 e5
theorem po_of {qual : Str} {scope : Scope} {cdv : Value} {A : Around} {outer : List Env} {s : Shared} {H : Hp} {E : XK} : PassesOwn (model P w) (cxOf (L2.CX P w) P w K mg base N qual scope f cdv A outer s H E).A (cxOf (L2.CX P w) P w K mg base N qual scope f cdv A outer s H E).env (cxOf (L2.CX P w) P w K mg base N qual scope f cdv A outer s H E).xe :=
  passes_of (X := cxOf (L2.CX P w) P w K mg base N qual scope f cdv A outer s H E) rfl
theorem fn_okX (G : Fun K x qual st f fd) (S : FnScope N ps (defScope st))
    (h : ∀ (cdv : Value) (A : Around) (outer : List Env) (s : Shared) (H : Hp) (E : XK), Room k (A.deeper (envOfC qual (defScope st) s.heap.objs.size f cdv)) →
      LSs (cxOf (L2.CX P w) P w K mg base N qual (defScope st) f cdv A outer s H E) (WE K E) (defBody st) d) : FnOk P w K mg base (L2.CX P w) (k + 1) f fd ps (spX P w K ps.length (fnBody ps.length N.length d)) := by
  obtain ⟨oc, od, kV, doc, pm, an, cdv, ct, osl, rfl, look, rec⟩ := G.ex
  refine fn_of look rec S (fun vs H Q E h => h.1) fun A outer s H vs Q E hr ⟨hv, ρ, μ, qs, r, t, q⟩ => ⟨_, h cdv A outer s H E hr, ?_⟩
  have hl : qs.length = ps.length := fnBody_ar.len q
  have en0 := REnv.start r N
  rw [hl] at en0
  unfold fnBody at q
  rw [if_pos hl] at q
  refine ⟨ρ, _, μ, en0, t, (Post.bind q).mono fun y H1 ⟨ρ1, o, μ1, st1, rel, s1, q1⟩ => ?_⟩
  cases rel with
  | nx en => exact q1 ρ1 .non H1 Step.refl .non s1
  | rt r1 => exact q1 ρ1 _ H1 Step.refl r1 s1
  | bk en => exact q1.elim
  | ct en => exact q1.elim
theorem hasX_of {np nn : Nat} (hp : ps.length = np) (hn : N.length = nn) (G : ∃ fd, FunD K x qual (defArgs st) (defBody st) (defScope st) [] kws f fd) (S : FnScope N ps (defScope st))
    (hb : ∀ (kV doc pm : Value) (an : Option Addr) (cdv ct : Value) (us : List Value), us.length = ps.length → bindArgs (PySem.W.fnOf x qual (defArgs st) (defBody st) (defScope st) .none kV doc pm an cdv ct) ⟨us, []⟩ = pure (ps.zip us))
    (h : ∀ (cdv : Value) (A : Around) (outer : List Env) (s : Shared) (H : Hp) (E : XK), Room k (A.deeper (envOfC qual (defScope st) s.heap.objs.size f cdv)) →
      LSs (cxOf (L2.CX P w) P w K mg base N qual (defScope st) f cdv A outer s H E) (WE K E) (defBody st) d) : HasX P w K mg base (k + 1) f ps (fnBody np nn d) := by
  subst hp hn
  obtain ⟨fd, G⟩ := G
  exact ⟨⟨fd, (He5.fun_of G).binds hb, fn_okX (He5.fun_of G) S h⟩, G.kp, fnBody_ar⟩
end
section
variable {X : Cx} {W : EW} {k n : Nat} {f C g p0 : Addr} {fd : FuncData} {ps : List Str} {F : VF} {x m : Str} {p pos apos : Pos} {e o : Expr} {es : List Expr} {ds : DA} {d : DE}
theorem passX (tk : XW X W) : Passes (L2.CX X.prog X.w) X (EX X.prog X.w X.K W) := passes_call tk fun _ _ _ _ h => h
theorem spx_of {vs : List V} {H : Hp} {Q : VK} (hF : Ar n F) (h : rL X.prog X.w X.K W F vs H Q) : spX X.prog X.w X.K n F (vs ++ []) H Q (EX X.prog X.w X.K W) := by
  have h2 := rl_out h
  obtain ⟨ρ, μ, qs, r, t, q⟩ := h
  rw [List.append_nil]
  exact ⟨by rw [← r.length]; exact hF.len q, h2⟩
theorem leh_callX (tk : XW X W) (h : HasX X.prog X.w X.K X.mg X.base k f ps F) (hr : Room k X.A) (hg : Gl X x) (hm : X.mg x = some (.ref f)) (ha : LA X W (e :: es) ds)
    (hdb : (x == ("__debug__" : Str)) = false := by decide) (he : starEach (e :: es) X.env = (false, eval e X.env) :: starEach es X.env := by rfl) (hpl : (backTo pos (starEach es X.env)).any (·.1) = false := by rfl) :
    LE X W (.Call (.Name x p) (e :: es) [] pos) (dApp F ds) := by
  obtain ⟨⟨fd, b, G⟩, kp, ar⟩ := h
  exact (pe_call G hr hg hm kp b .nil (passX tk) ha hdb he hpl).impD fun σ H Q h => (app_of h).mono fun vs H1 h => spx_of ar h
theorem makeX_of {vs : List V} {H : Hp} {Q : VK} (hF : Ar n F) (h : rL X.prog X.w X.K W (vMake C F) vs H Q) : ∀ x dx, H x = none → H dx = none → dx ≠ x →
    spX X.prog X.w X.K n F (.ref x :: (vs ++ [])) (upd (upd H dx (.own x)) x (.ins C dx [])) (fun v H2 => v = .non ∧ Q (.ref x) H2) (EX X.prog X.w X.K W) := by
  intro x dx hx hdx hne
  obtain ⟨ρ, μ, qs, r, t, q⟩ := h
  have h1 : upd H dx (.own x) x = none := by rw [upd_ne (Ne.symm hne)]; exact hx
  have st : Step X.K ρ H (ρ ++ [x]) (upd (upd H dx (.own x)) x (.ins C dx [])) := (Step.quiet hdx).trans (Step.new h1)
  have s1 : RSt X.prog X.w X.K (ρ ++ [x]) (upd (upd H dx (.own x)) x (.ins C dx [])) (μ ++ [.ins C []]) := (t.quiet hdx).new h1 ⟨dx, [], upd_same, rfl, .nil⟩
  have hid : (ρ ++ [x])[μ.length]? = some x := t.nextId
  refine spx_of (vs := .ref x :: vs) hF ⟨ρ ++ [x], _, .ref μ.length :: qs, .cons (.ref hid) (r.step st), s1, (Post.bind (Post.step st q)).mono fun v H2 ⟨ρ2, b, μ2, st2, r2, s2, q2⟩ => ?_⟩
  cases r2 with
  | non => exact ⟨rfl, q2 ρ2 (.ref x) H2 Step.refl (.ref (st2.get hid)) s2⟩
  | _ => exact q2.elim
theorem leh_makeX (tk : XW X W) (M : Mk X.K C f) (h : HasX X.prog X.w X.K X.mg X.base k f ps F) (hr : Room (k + 1) X.A) (hg : Gl X x) (hm : X.mg x = some (.ref C)) (ha : LA X W (e :: es) ds)
    (hdb : (x == ("__debug__" : Str)) = false := by decide) (he : starEach (e :: es) X.env = (false, eval e X.env) :: starEach es X.env := by rfl) (hpl : (backTo pos (starEach es X.env)).any (·.1) = false := by rfl) :
    LE X W (.Call (.Name x p) (e :: es) [] pos) (dApp (vMake C F) ds) := by
  obtain ⟨⟨fd, b, G⟩, kp, ar⟩ := h
  exact (pe_make M G hr hg hm b .nil (passX tk) ha hdb he hpl).impD fun σ H Q h => (app_of h).mono fun vs H1 h => makeX_of ar h
end
end DL
namespace DL
open PySem PySem.Spec PyProof.Rows L2
section
variable {X : Cx} {pins : List (Addr × Obj)} {σ : L2.St} {H : Hp} {s : Shared} {M f C : Addr} {u : Value}
theorem exc_make (D : XiDef X.K X.prog M f) (T : XiCls X.K M f C) (hr : Room 2 X.A) (I : Inv X pins σ H s) {Q : Value → Shared → Prop} {E : Value → Shared → Prop}
    (fin : ∀ h' tk' a dx t1, (∀ b o, s.heap.get? b = some o → h'.get? b = some o) → s.heap.objs.size ≤ a → s.heap.objs.size ≤ dx → a ≠ dx → h'.get? a = some { cls := .ref C, dict := some dx, data := .fields #[.ref t1, .none, .none, .none, .bool false, .none] } →
      h'.Ns1 dx (fun y => if y = "value" then some u else none) → Q (.ref a) { s with heap := h', toks := tk' }) : wpAny (model X.prog X.w) X.A (call (.ref C) [u]) Q E s := by
  obtain ⟨nm, q, N, bs, bm, sn, sub, ab, col, dd, k0, k1, k2, k3, k5, atC, isVE⟩ := T.oex.cls
  have inK := I.kIn
  have lim := I.nolimit
  have glob := I.mod.glob
  obtain ⟨mb, blt, boot⟩ := I.mod.blt
  have bk := I.bk
  obtain ⟨hp, gn, dr, tk, os⟩ := s
  have kk : ∀ b o, hp.get? b = some o → ((hp.push (PySem.W.kdv_tup [u])).push (PySem.HandSPX.excO C hp.objs.size)).get? b = some o := fun b o e => Heap.get?_push_of_some _ (Heap.get?_push_of_some _ e)
  have obj : ((hp.push (PySem.W.kdv_tup [u])).push (PySem.HandSPX.excO C hp.objs.size)).get? (hp.objs.size + 1) = some (PySem.HandSPX.excO C hp.objs.size) := by heap_get
  have room := (hr.make C [u] []).depth
  refine wpAny_call (PySem.HandSPX.call_own F.excBase_ValueError (fun Y => PySem.HandSPX.refsVE_contains Y bm isVE) (inK _ _ atC) (PySem.W.looks_findIn inK T.ini) (fun self => PySem.W.bind_fn inK self D.typ) (by show 1 ≤ sizeLine; rw [sizeLine_eq]; omega) ?_)
  refine xi_run D T (inK.keeps kk) (ns_kept glob fun o e => kk _ _ (bk _ _ e)) (ns_kept blt fun o e => kk _ _ (bk _ _ e)) boot (lim.keeps kk) room obj ?_ fun h' t1 dx tk' k dn e n => ?_
  · cases z : X.K.lookup (hp.objs.size + 1) with
    | none => rfl
    | some o => exact absurd (Heap.lt_size (inK _ _ z)) (Nat.not_lt.mpr (Nat.le_succ _))
  · have da : dx ≠ hp.objs.size + 1 := fun z => by
      obtain ⟨o, es, ep, g1, g2, _⟩ := n
      rw [z, e] at g1
      cases g1
      cases g2
    refine ⟨rfl, fin h' tk' (hp.objs.size + 1) dx t1 (fun b o g => k b o (Nat.ne_of_lt (Nat.lt_succ_of_lt (Heap.lt_size g))) (kk b o g)) (Nat.le_succ _) (Nat.le_trans ?_ dn) (Ne.symm da) e n⟩
    show hp.objs.size ≤ _
    rw [Heap.size_push, Heap.size_push]
    omega
end
theorem exc_quiet {P : Program} {w : World} {K : PySem.W.Frag} {ρ : List Addr} {H : Hp} {μ : Sto} {a d : Addr} {oe od : Obj} {x : V} (t : RSt P w K ρ H μ) (ha : H a = none) (hd : H d = none) (n : a ≠ d) : Step K ρ H ρ (excH H a d oe od x) ∧ RSt P w K ρ (excH H a d oe od x) μ := by
  have h2 : upd H a (.frz oe (.own a)) d = none := by rw [upd_ne (Ne.symm n)]; exact hd
  exact ⟨(Step.quiet ha).trans (Step.quiet h2), (t.quiet ha).quiet h2⟩
/-- raise C(v) -/
def sRaise (C : Addr) (d : DE) : DS := fun η μ => (d η μ).bind fun p μ1 => .err C p μ1
section
variable {X : Cx} {W : EW} {M f C : Addr} {x : Str} {e : Expr} {d : DE} {p pos pos2 : Pos}
theorem ls_raise (tk : XW X W) (hc : X.calm = true) (D : XiDef X.K X.prog M f) (T : XiCls X.K M f C) (hr : Room 2 X.A) (hg : Gl X x) (hm : X.mg x = some (.ref C)) (h : LE X W e d)
    (hdb : (x == ("__debug__" : Str)) = false := by decide) (he : starEach [e] X.env = (false, eval e X.env) :: starEach [] X.env := by rfl) (hpl : (backTo pos (starEach [] X.env)).any (·.1) = false := by rfl) :
    LS X W (.Raise (some (.Call (.Name x p) [e] [] pos)) none pos2) (sRaise C d) := by
  have mk : PMk X (.Call (.Name x p) [e] [] pos) (fun σ H Q => DL.T X.prog X.w X.K W d σ H fun v H1 => ∀ dx, H1 dx = none → Q (.ref C) (some dx) (upd H1 dx (.xd [("value", v)]))) := by
    intro pins s σ H Q I want
    refine wpAny_Call_Name_kw (ld_glob I hg hm ?_ hdb)
    refine PySem.W.callWith_K (h₀ := X.base) I.ok.mod.kin T.oex.kC ?_ he hpl
    rw [he]
    refine Calls.spliced_cons (thn (h.run pins s σ H _ I want) fun u s1 ⟨v, H1, I1, ru, q⟩ => Calls.spliced_nil ⟨I1.kIn, ?_⟩)
    show wpAny (model X.prog X.w) X.A (call (.ref C) [u]) _ _ _
    refine exc_make D T hr I1 fun h' tk' a dx t1 k ha hd ne obj n => ?_
    have na : H1 a = none := I1.hok.fresh ha
    have nd : H1 dx = none := I1.hok.fresh hd
    obtain ⟨G, g1, g2⟩ := restrict h' fun b => decide (b ≠ a)
    have ga : G.get? a = none := g2 a (by simp)
    have gk : ∀ b, b ≠ a → G.get? b = h'.get? b := fun b hb => g1 b (decide_eq_true hb)
    have kG : ∀ b o, s1.heap.get? b = some o → G.get? b = some o := fun b o g => by
      rw [gk b (Nat.ne_of_lt (Nat.lt_of_lt_of_le (Heap.lt_size g) ha))]
      exact k b o g
    obtain ⟨od, es, ep, e1, e2⟩ := n
    have nG : G.Ns1 dx (fun y => if y = "value" then some u else none) := ⟨od, es, ep, by rw [gk dx (Ne.symm ne)]; exact e1, e2⟩
    have J : Inv X pins σ (upd H1 dx (.xd [("value", v)])) { s1 with heap := G, toks := tk' } := I1.laidN kG (by
      cases z : s1.heap.get? dx with
      | none => rfl
      | some o => exact absurd (Heap.lt_size z) (Nat.not_lt.mpr hd)) nd ⟨_, nG, relO_put (fs := []) (mA := fun _ => none) ru fun _ => True.intro⟩
    exact ⟨a, _, _, { s1 with heap := G, toks := tk' }, _, .ref C, some dx, rfl, J, fun b o g => by
      by_cases hb : b = a
      · rw [hb, ga] at g
        cases g
      · rw [← gk b hb]
        exact g, ga, obj, ⟨rfl, rfl⟩, rfl, rfl, by rw [upd_ne ne]; exact na, rfl, I1.bare, raises_own T.oex.exC T.oex.tyC, q dx nd⟩
  refine (ps_raise hc tk mk).impD fun Dd σ H ⟨ρ, η, μ, en, s, q⟩ => ?_
  refine ⟨ρ, η, μ, en, s, (Post.bind q).mono fun v H1 ⟨ρ1, a, μ1, st, r, s1, q1⟩ dx hd => ?_⟩
  have q1 : ∀ ρ' H', Step X.K ρ1 H1 ρ' H' → RSt X.prog X.w X.K ρ' H' μ1 → W C a μ1 ρ' H' := q1
  exact ⟨C, a, μ1, ρ1, H1, dx, v, rfl, rfl, hd, s1, r, rfl, q1 ρ1 H1 Step.refl s1⟩
end
end DL
namespace DL
open PySem PySem.Spec PyProof.Rows L2
/-- isinstance of an own exception class, by a table of the classes that come -/
def isiE (tb : List (Addr × Bool)) : Tg → Option Bool
  | .exc D => tb.lookup D
  | .non => some false
  | _ => none
theorem lookMem {tb : List (Addr × Bool)} {D : Addr} {b : Bool} (h : tb.lookup D = some b) : (D, b) ∈ tb := by
  induction tb with
  | nil => cases h
  | cons q r ih =>
    obtain ⟨C, k⟩ := q
    by_cases c : D = C
    · subst c
      simp [List.lookup] at h
      subst h
      exact List.mem_cons_self
    · have e : (D == C) = false := by simpa using c
      simp only [List.lookup, e] at h
      exact List.mem_cons_of_mem _ (ih h)
theorem isiE_of {K : PySem.W.Frag} {c : Value} {tb : List (Addr × Bool)} (h : ∀ q ∈ tb, ExcI K q.1 ∧ PySem.W.kitOne K (.ref q.1) c = some q.2) (hn : PySem.W.kitOne K (.type "NoneType") c = some false) : IsiC K c (isiE tb) where
  one := fun t b e => by
    cases t with
    | exc D => exact (h _ (lookMem e)).2
    | non => cases e; exact hn
    | _ => cases e
  own := fun D b e => nomatch e
  exc := fun D b e => (h _ (lookMem e)).1
/-- e.value -/
def vXval (L : List Addr) : VF := fun ps μ => match ps with
  | [.exc C p] => if C ∈ L then .ok p μ else .bad
  | _ => .bad
section
variable {X : Cx} {W : EW}
theorem le_xval {e : Expr} {d : DE} {L : List Addr} {pos : Pos} (hL : ∀ C ∈ L, XfC X.K C ∧ PySem.W.findIn X.K (.ref C) "value" = some none) (h : LE X W e d) (hb : attributeBase e "value" X.env (eval e X.env) = eval e X.env := by rfl) :
    LE X W (.Attribute e "value" pos) (dApp (vXval L) (dCons d dNil)) := by
  refine ⟨fun pins s σ H Q I want => ?_⟩
  refine attr_of hb (thn (h.run pins s σ H _ I (app1 want)) fun u s1 ⟨v, H1, I1, ru, ρ, μ, ps, rp, t, q⟩ => ?_)
  cases rp with
  | cons r1 r2 =>
    rename_i p ps
    cases r2
    cases r1 with
    | @exc C a d oe od fs p' x e1 e2 e3 e4 e5 e6 =>
      have q : Post X.prog X.w X.K W ρ H1 (if C ∈ L then .ok p' μ else .bad) (RV X.K) Q := q
      by_cases c : C ∈ L
      · rw [if_pos c] at q
        obtain ⟨F, no⟩ := hL C c
        obtain rfl : u = Value.ref a := ru
        have ha := (I1.hok a _ e1).1
        obtain ⟨hd, mA, ns, rel⟩ := I1.hok d _ e5
        obtain ⟨od2, ho, hl⟩ := lookIn_ns ns
        rw [hd] at ho
        cases ho
        obtain ⟨z, hz, rz⟩ := RelO.some_of (v := x) (o := mA "value") (rel "value")
        have J : PySem.W.InstAt s1.heap a oe C (some od) := ⟨ha, e2, by unfold PySem.W.notCls; rw [e4] <;> rfl, by rw [e3]; exact hd⟩
        exact HandSPX.exc_get I1.kIn J F.ga F.gg F.exC (PySem.W.findObj_own F.hdC no rfl (by rw [hl, hz])) (handed_of rz) ⟨x, H1, I1.tok _, rz, q ρ x H1 Step.refl e6 t⟩
      · rw [if_neg c] at q
        exact q.elim
    | _ => exact q.elim
end
/-- what the teller makes of a reckoning: (None, what came back), (the error, None) -/
def toldR (L : List Addr) (r : Rz PV) : Rz PV := match r with
  | .ok p μ => .ok (.tup [.non, p]) μ
  | .err C v μ => if C ∈ L then .ok (.tup [.exc C v, .non]) μ else .bad
  | .bad => .bad
def dTold (L : List Addr) (d : DE) : DE := fun η μ => toldR L (d η μ)
/-- from before a lambda's making to behind it -/
theorem lam_step {P : Program} {w : World} {K : PySem.W.Frag} {ρ : List Addr} {H H1 : Hp} {μ : Sto} (t : RSt P w K ρ H μ) (e : LamX.ExtN H H1) (T : LamX.Tabs (tabsK K) H1) : Step K ρ H ρ H1 ∧ RSt P w K ρ H1 μ := by
  have kept : ∀ a ∈ ρ, ∃ u, H a = some u ∧ H1 a = some u ∧ NC a u := fun a ha => by
    obtain ⟨u, h, n⟩ := t.nc ha
    exact ⟨u, h, e a u h n.2, n⟩
  have tab : ∀ p ∈ tabsK K, TabR ρ H1 p.1 p.2 := fun p hp => by
    obtain ⟨ps, a1, a2, a3⟩ := T p hp
    refine TabR.renum (ρ := []) ⟨fun z => (nomatch z), ps, a1, a2, fun pos cv hc => ?_⟩ fun a ha => ?_
    · obtain ⟨c, b1, b2⟩ := a3 pos cv hc
      exact ⟨c, ⟨b1, fun z => nomatch z⟩, b2⟩
    · obtain ⟨u, _, h1, n⟩ := kept a ha
      exact ⟨u, h1, n⟩
  have tups : ∀ b xs, SqT K H b xs → SqT K H1 b xs := fun b xs h => by
    rcases h with (h | ⟨o, h⟩) | h
    · exact .inl (.inl (e b _ h fun _ z => nomatch z))
    · exact .inl (.inr ⟨o, e b _ h fun _ z => nomatch z⟩)
    · exact .inr h
  have st : Step K ρ H ρ H1 := ⟨⟨[], (List.append_nil ρ).symm, fun _ h => by cases h⟩, fun b o h _ n => e b o h n, fun b xs h => tups b xs h, fun b o h n => ⟨o, e b o h n, n⟩, fun b o es ep h d => ⟨o, es, ep, e b _ h (fun _ z => nomatch z), d, Nat.le_refl _, fun _ => rfl⟩, fun b o u h => e b _ h (fun _ z => nomatch z), fun p hp _ => tab p hp⟩
  exact ⟨st, t.len, t.nd, fun i a o ha ho => (t.obj i a o ha ho).step st.grow fun u h => by
    obtain ⟨v, h1, h2, n⟩ := kept a (List.mem_of_getElem? ha)
    rw [h] at h1
    cases h1
    exact h2, tab⟩
theorem tabs_of {P : Program} {w : World} {K : PySem.W.Frag} {ρ : List Addr} {H : Hp} {μ : Sto} (t : RSt P w K ρ H μ) : LamX.Tabs (tabsK K) H := fun p hp => by
  obtain ⟨_, ps, a1, a2, a3⟩ := t.tab p hp
  refine ⟨ps, a1, a2, fun pos cv hc => ?_⟩
  obtain ⟨c, ⟨b1, _⟩, b2⟩ := a3 pos cv hc
  exact ⟨c, b1, b2⟩
/-- how the teller ends, from without numbers -/
def TTold (K : PySem.W.Frag) (CS : Addr) : (XK → Hp → VK → Prop) → Hp → VK → Prop := fun tl H Q => ∀ p0, H p0 = none →
  tl (fun cls dd H' => ∃ (C d : Addr) (x : V), cls = .ref C ∧ dd = some d ∧ H' d = some (.xd [("value", x)]) ∧ PySem.W.exmOne K cls (.ref CS) = some true ∧
      ∀ a p oe od fs, H' a = none → oe.cls = .ref C → oe.dict = some d → oe.data = .fields fs → excH H' a d oe od x p = none → Q (.ref p) (upd (excH H' a d oe od x) p (.tup [.ref a, .non])))
    (upd H p0 (.tup [.non, .non])) fun v H1 => ∀ p, H1 p = none → Q (.ref p) (upd H1 p (.tup [.non, v]))
section
variable {X : Cx} {pins : List (Addr × Obj)} {σ : L2.St} {H : Hp} {s : Shared}
/-- a() in the def that got the lambda; what it wishes of exceptions may lean on this def's slots -/
theorem lam_act {N2 : List Str} {q2 : Str} {sc2 : Scope} {g f c' : Addr} {cd2 pm ctv : Value} {params : Arguments} {body : Expr} {scope : Scope} {k i : Nat} {a : Str} {pn : List (Addr × Obj)} {xe : Value → Shared → Prop} {W : WX} {tb : XK → TE} {p1 p2 : Pos}
    (I : Inv X pins σ H s) (L : LamX.LamS X.env.scope scope) (fo : s.heap.get? f = some (PySem.W.kla_obj "<lambda>" (X.env.qual ++ "<lambda>") params body scope (cloFrom X.env.cells scope.names []) pm c' ctv)) (fn : H f = none) (fF : f ∉ frs X.stack)
    (bind : bindArgs (PySem.W.kla_fn "<lambda>" (X.env.qual ++ "<lambda>") params body scope (cloFrom X.env.cells scope.names []) pm (.ref c') ctv) ⟨[], []⟩ = pure [])
    (tk : Takes ((cxOf C8.CX0 X.prog X.w X.K X.mg X.base N2 q2 sc2 g cd2 X.A X.stack s H C8.E0).tr pn xe) W) (room : Room (k + 1) (X.A.deeper (envOfC q2 sc2 s.heap.objs.size g cd2)))
    (hbody : ∀ (E : XK) (A : Around) (outer : List Env) (s : Shared) (H : Hp), Room k (A.deeper (LamX.lamEnv X scope s.heap.objs.size f c')) → PE (LamX.lamCx X A outer s H E scope f c') body (tb E))
    (hN : N2[i]? = some a) (hv : Vis sc2 a) (hd : (a == ("__debug__" : Str)) = false) (hcd : (a == ("__classdict__" : Str)) = false) :
    PE ((cxOf C8.CX0 X.prog X.w X.K X.mg X.base N2 q2 sc2 g cd2 X.A X.stack s H C8.E0).tr pn xe) (.Call (.Name a p1) [] [] p2)
      (fun σ2 H2 Q => σ2[i]? = some (some (.ref f)) ∧ H2 c' = some (LamX.CodeO c' (X.env.qual ++ "<lambda>")) ∧ ∃ E : XK, (∀ cls d H', E cls d H' → W cls d σ2 H') ∧ tb E σ H2 Q) := by
  constructor
  intro pins2 s2 σ2 H2 Q I2 want
  obtain ⟨slot, code, E, hW, told⟩ := want
  refine wpAny_Call_Name_kw (thn ((pe_var (pos := p1) (i := i) hN hv hd hcd).run pins2 s2 σ2 H2 (fun v H3 => v = .ref f ∧ H3 = H2) I2 ⟨.ref f, slot, rfl, rfl⟩) fun u s3 ⟨v, H3, I3, ru, same1, same2⟩ => ?_)
  subst same1 same2
  obtain rfl : u = Value.ref f := ru
  have fo3 := I3.base.keep f _ fo fn fF (fun z => nomatch (show f ∈ ([] : List Addr) from z))
  refine PySem.W.callWith_F0 ⟨_, _, _, _, fo3⟩ ?_
  have moved : Un (frs X.stack) [] H H3 s.heap s3.heap := I3.base
  obtain ⟨⟨oc, fs, tok, oc1, oc2, oc3⟩, _, _⟩ := I3.hok c' _ code
  have runs : codeAny (model X.prog X.w) (X.A.deeper (envOfC q2 sc2 s.heap.objs.size g cd2)) (.call (.ref f) ⟨[], []⟩) (CR (L2.CX X.prog X.w) (envOfC q2 sc2 s.heap.objs.size g cd2 :: X.stack) X.prog X.w H3 s3 Q E) s3 := by
    refine PySem.W.kla_callFunE room.depth fo3 rfl L.co L.gen rfl ⟨c', oc, fs, tok, rfl, oc1, oc2, oc3⟩ ?_
    rw [bind]
    refine wpAny_pure (wpAny_newFunctionEnv (fun y hy => (L.own y hy).2) (fun y hy => absurd hy (by simp)) (fun h4 n4 same4 => ⟨I3.nolimit.fresh _ same4, ?_⟩) L.kind)
    show codeAny _ _ (.expr body (LamX.lamEnv X scope s3.heap.objs.size f c')) _ _
    have k4 : ∀ b o, s3.heap.get? b = some o → h4.get? b = some o := fun b o e => same4.extBut b o (Nat.ne_of_lt (Heap.lt_size e)) (Heap.get?_push_of_some _ e)
    have J : Inv (LamX.lamCx X (X.A.deeper (envOfC q2 sc2 s.heap.objs.size g cd2)) (envOfC q2 sc2 s.heap.objs.size g cd2 :: X.stack) s3 H3 E scope f c') [] σ H3 { s3 with heap := h4, toks := s3.toks + ([] : List (Str × Value)).length } :=
      LamX.lam_start2 I L I3.env0 room.hd moved n4 k4
    refine PySem.W.kla_codeExpr (wpAny_mono ((hbody E _ _ s3 H3 (room.deeper _)).run [] _ _ H3 Q J told) (fun v s5 ends => ?_) fun e s5 ends => ends)
    obtain ⟨w5, H5, J5, rv, q5⟩ := ends
    exact ⟨w5, H5, J5.os, J5.bare, J5.base, J5.hok, rv, q5⟩
  refine wpAny_call (codeAny_mono runs fun r s5 ends => ?_)
  cases r with
  | error er => exact tk er s5 (XE.of_call I3 (fun cls d H' h => hW cls d H' h) ends)
  | ok fl =>
    cases fl with
    | ret u => exact I3.after ends
    | next => exact ends.elim
    | brk => exact ends.elim
    | cont => exact ends.elim
end
/-- the def that calls what it got -/
def Gives (X : Cx) (N2 : List Str) (x : Str) (sc2 : Scope) (g : Addr) (cd2 : Value) (bg : List Stmt) (a : Str) (q : Str) (TT : (XK → Hp → VK → Prop) → Hp → VK → Prop) : Prop :=
  ∀ (f c' : Addr) (s : Shared) (H : Hp) (Q : VK) (tl : XK → Hp → VK → Prop),
    (∀ (W : WX) (pn : List (Addr × Obj)) (xe : Value → Shared → Prop) (p1 p2 : Pos), Takes ((cxOf C8.CX0 X.prog X.w X.K X.mg X.base N2 x sc2 g cd2 X.A X.stack s H C8.E0).tr pn xe) W →
      PE ((cxOf C8.CX0 X.prog X.w X.K X.mg X.base N2 x sc2 g cd2 X.A X.stack s H C8.E0).tr pn xe) (.Call (.Name a p1) [] [] p2) (fun σ2 H2 Q => σ2[0]? = some (some (.ref f)) ∧ H2 c' = some (LamX.CodeO c' q) ∧ ∃ E : XK, (∀ cls d H', E cls d H' → W cls d σ2 H') ∧ tl E H2 Q)) →
    (∀ E H Q Q', (∀ v H, Q v H → Q' v H) → tl E H Q → tl E H Q') → H c' = some (LamX.CodeO c' q) → TT tl H Q →
    ∃ t, PSs (cxOf C8.CX0 X.prog X.w X.K X.mg X.base N2 x sc2 g cd2 X.A X.stack s H C8.E0).nox bg t ∧ t { nx := fun _ H' => Q .non H', rt := Q } (L2.start N2 [.ref f]) H
section
variable {X : Cx}
theorem pe_give {T : List (Addr × Str)} {TT : (XK → Hp → VK → Prop) → Hp → VK → Prop} {x a : Str} {g c P : Addr} {k : Nat} {pg : Arguments} {bg : List Stmt} {sg : Scope} {dV kV doc pm cdv ct oc : Value} {an od : Option Addr} {osl : Array (Option Value)} {N2 : List Str}
    {params : Arguments} {body : Expr} {scope : Scope} {t : XK → TE} {p lpos pos : Pos} (hg : Gl X x) (hm : X.mg x = some (.ref g)) (hk : PySem.W.keepIn X.K (.ref g) = true)
    (look : X.K.lookup g = some ⟨oc, od, .func (PySem.W.fnOf x x pg bg sg dV kV doc pm an cdv ct), osl⟩) (code : PySem.W.codeIn X.K cdv x = true) (hb : L2.Binds X.K (PySem.W.fnOf x x pg bg sg dV kV doc pm an cdv ct) [a] []) (Sg : FnScope N2 [a] sg) (hN : N2[0]? = some a) (hv : Vis sg a)
    (G : Gives X N2 x sg g cdv bg a (X.env.qual ++ "<lambda>") TT) (TB : LamX.TabB X.base X.mg c P) (own : X.env.code = .ref c) (inT : (P, X.env.qual ++ "<lambda>") ∈ T) (one : ∀ p ∈ T, p.1 = P → p.2 = X.env.qual ++ "<lambda>") (hr : Room (k + 2) X.A)
    (L : LamX.LamS X.env.scope scope) (noDef : defaultsOf params X.env = ([], [])) (bind : ∀ (q : Str) (cl : List (Str × Addr)) (pm cv ctv : Value), bindArgs (PySem.W.kla_fn "<lambda>" q params body scope cl pm cv ctv) ⟨[], []⟩ = pure [])
    (hbody : ∀ (E : XK) (A : Around) (outer : List Env) (s : Shared) (H : Hp) (f c' : Addr), Room k (A.deeper (LamX.lamEnv X scope s.heap.objs.size f c')) → PE (LamX.lamCx X A outer s H E scope f c') body (t E))
    (mono : ∀ E σ H Q Q', (∀ v H, Q v H → Q' v H) → t E σ H Q → t E σ H Q') (hdb : (x == ("__debug__" : Str)) = false) (hd : (a == ("__debug__" : Str)) = false) (hcd : (a == ("__classdict__" : Str)) = false) :
    PE X (.Call (.Name x p) [.Lambda params body scope lpos] [] pos) (LamX.tLam T TT t) := by
  constructor
  intro pins s σ H Q I want
  obtain ⟨tabs, told⟩ := want
  refine wpAny_Call_Name_kw (ld_glob I hg hm ?_ hdb)
  refine PySem.W.callWith_K (h₀ := X.base) I.ok.mod.kin hk ?_ (by rfl) (by rfl)
  show wpAny _ _ (spliced ((false, eval (.Lambda params body scope lpos) X.env) :: backTo pos (starEach [] X.env))) _ _ s
  refine Calls.spliced_cons (LamX.lam_make2 I TB own inT one tabs noDef (L.has I.ok) fun f c' pm' ctv H1 s1 I1 ext1 tabs1 fo fn fF co => Calls.spliced_nil ⟨I1.kIn, ?_⟩)
  have runs : codeAny (model X.prog X.w) X.A (.call (.ref g) ⟨[.ref f], []⟩) (CR C8.CX0 X.stack X.prog X.w H1 s1 Q C8.E0) s1 := by
    refine LamX.run_ofS (N := N2) (ps := [a]) (us := [.ref f]) (vs := [.ref f]) look code Sg hr I1.env0 (hb s1 [.ref f] I1.kIn rfl) (.cons rfl .nil) rfl fun room2 => ?_
    obtain ⟨t2, g1, g2⟩ := G f c' s1 H1 Q (fun E H' Q' => t E σ H' Q') (fun W pn xe p1 p2 tk => lam_act (i := 0) I1 L fo fn fF (bind _ _ _ _ _) tk room2 (fun E A outer s H room3 => hbody E A outer s H f c' room3) hN hv hd hcd) (fun E H Q Q' => mono E σ H Q Q') co (told H1 ext1 tabs1)
    exact ⟨t2, g1.nox, g2⟩
  refine wpAny_call (codeAny_mono runs fun r s2 ends => ?_)
  cases r with
  | error er => exact (show False from ends).elim
  | ok fl =>
    cases fl with
    | ret u => exact I1.after ends
    | next => exact ends.elim
    | brk => exact ends.elim
    | cont => exact ends.elim
theorem sw_consts {c b : Str} {p1 p2 p3 p4 p5 p6 : Pos} {j1 j2 k1 k2} {env : Env} : swappedStores [.Tuple [.Name c p1, .Name b p2] k1 p3] (.Tuple [.Constant .none j1 p4, .Constant .none j2 p5] k2 p6) env = pure none := by
  unfold swappedStores
  dsimp only
  split
  · rfl
  · split
    · rfl
    · split
      · rfl
      · rfl
/-- try: b = a() / except CS as e: c = e, with (c, b) from (None, None), told -/
theorem told_gives {x a c b e m q : Str} {sg : Scope} {g CS : Addr} {cdg : Value} {j1 j2 k1 k2 k3 : Nat} {p1 p2 p3 p4 p5 p6 p7 p8 p9 p10 p11 p12 p13 p14 p15 p16 p17 p18 p19 p20 p21 : Pos}
    (nd : [a, c, b, e].Nodup) (va : sg.names.lookup a = some .local) (vc : sg.names.lookup c = some .local) (vb : sg.names.lookup b = some .local) (ve : sg.names.lookup e = some .local) (vm : sg.names.lookup m = some .globalImplicit) (hm : X.mg m = some (.ref CS)) (dm : (m == ("__debug__" : Str)) = false)
    (d1 : (c == ("__debug__" : Str)) = false := by decide) (d2 : (c == ("__classdict__" : Str)) = false := by decide) (d3 : (b == ("__debug__" : Str)) = false := by decide) (d4 : (b == ("__classdict__" : Str)) = false := by decide) (d5 : (e == ("__debug__" : Str)) = false := by decide) (d6 : (e == ("__classdict__" : Str)) = false := by decide) :
    Gives X [a, c, b, e] x sg g cdg [.Assign [.Tuple [.Name c p1, .Name b p2] k1 p3] (.Tuple [.Constant .none j1 p4, .Constant .none j2 p5] k2 p6) p7,
      .Try [.Assign [.Name b p8] (.Call (.Name a p9) [] [] p10) p11] [.ExceptHandler (some (.Name m p12)) (some e) [.Assign [.Name c p13] (.Name e p14) p15] p16] [] [] p17,
      .Return (some (.Tuple [.Name c p18, .Name b p19] k3 p20)) p21] a q (TTold X.K CS) := by
  intro f c' s H Q tl act mono hc want
  have hgl : Gl (cxOf C8.CX0 X.prog X.w X.K X.mg X.base [a, c, b, e] x sg g cdg X.A X.stack s H C8.E0).nox m := vm
  refine ⟨_, pss_cons (ps_asg (pe_tup (pa_cons pe_non (pa_cons pe_non pa_nil))) (pg_tup rfl (pgs_cons (pg_name (i := 1) nd rfl (.inl vc)) (pgs_cons (pg_name (i := 2) nd rfl (.inl vb)) pgs_nil))) rfl sw_consts)
    (pss_cons (ps_try_kept (X := (cxOf C8.CX0 X.prog X.w X.K X.mg X.base [a, c, b, e] x sg g cdg X.A X.stack s H C8.E0).nox) (c := .ref CS) (i := 3)
        (tb := fun W D σ H => σ[0]? = some (some (.ref f)) ∧ H c' = some (LamX.CodeO c' q) ∧ ∃ E : XK, (∀ cls d H', E cls d H' → W cls d σ H') ∧ tl E H fun v H1 => D.nx (σ.set 2 (some v)) H1)
        rfl rfl nd rfl ve ⟨hgl, dm, .inl hm⟩ rfl (fun W pn xe tk _ => ?_) (fun a oe cls d pn _ _ => pss_one (ps_asg (pe_var (i := 3) rfl (.inl ve) d5 d6) (pg_name (i := 1) nd rfl (.inl vc)))))
      (pss_one (ps_ret (pe_tup (pa_cons (pe_var (i := 1) rfl (.inl vc) d1 d2) (pa_cons (pe_var (i := 2) rfl (.inl vb) d3 d4) pa_nil)))))), ?_⟩
  · have hp := act W pn xe p9 p10 tk
    refine ⟨fun pins s2 σ2 H2 D I2 w2 => ?_⟩
    obtain ⟨w1, w3, E, w4, w5⟩ := w2
    exact (pss_one (ps_asg hp (pg_name (i := 2) nd rfl (.inl vb)))).run pins s2 σ2 H2 D I2 ⟨w1, w3, E, w4, w5⟩
  · have two : (2 : Nat) ≤ sizeLine := by rw [sizeLine_eq]; omega
    have st : L2.start [a, c, b, e] [V.ref f] = [some (.ref f), none, none, none] := rfl
    rw [st]
    refine ⟨two, fun p0 h0 => ⟨p0, [.non, .non], rfl, .inl (.inl upd_same), rfl, .non, [.non], rfl, .non, [], rfl, rfl, ?_⟩⟩
    refine ⟨rfl, by rw [upd_ne (ne_of_none hc h0)]; exact hc, _, fun cls dd H' hE => ?_, mono _ _ _ _ (fun v H1 h => ?_) (want p0 h0)⟩
    · obtain ⟨C, d, v, e1, e2, e3, e4, e5⟩ := hE
      refine ⟨C, d, v, e1, e2, e4, fun a0 n0 => ⟨.ref a0, rfl, e3, fun oe od fs o1 o2 o3 => ⟨.ref a0, rfl, .non, rfl, two, fun p hp => e5 a0 p oe od fs n0 o1 o2 o3 hp⟩⟩⟩
    · exact ⟨.non, rfl, v, rfl, two, h⟩
end
section
variable {X : Cx}
/-- x(lambda: body) over the layer -/
theorem le_told {x a c b e m : Str} {g CS cc Pt : Addr} {k : Nat} {pg : Arguments} {sg : Scope} {dV kV doc pm cdv ct oc : Value} {an od : Option Addr} {osl : Array (Option Value)} {params : Arguments} {body : Expr} {scope : Scope} {d : DE} {L : List Addr} {bg : List Stmt} {p lpos pos : Pos}
    (hg : Gl X x) (hm : X.mg x = some (.ref g)) (hk : PySem.W.keepIn X.K (.ref g) = true) (look : X.K.lookup g = some ⟨oc, od, .func (PySem.W.fnOf x x pg bg sg dV kV doc pm an cdv ct), osl⟩) (code : PySem.W.codeIn X.K cdv x = true)
    (hb : L2.Binds X.K (PySem.W.fnOf x x pg bg sg dV kV doc pm an cdv ct) [a] []) (Sg : FnScope [a, c, b, e] [a] sg) (hv : Vis sg a) (G : Gives X [a, c, b, e] x sg g cdv bg a (X.env.qual ++ "<lambda>") (TTold X.K CS))
    (TB : LamX.TabB X.base X.mg cc Pt) (own : X.env.code = .ref cc) (inT : (Pt, X.env.qual ++ "<lambda>") ∈ tabsK X.K) (one : ∀ p ∈ tabsK X.K, p.1 = Pt → p.2 = X.env.qual ++ "<lambda>") (hr : Room (k + 2) X.A) (S : LamX.LamS X.env.scope scope) (noDef : defaultsOf params X.env = ([], []))
    (bind : ∀ (q : Str) (cl : List (Str × Addr)) (pm cv ctv : Value), bindArgs (PySem.W.kla_fn "<lambda>" q params body scope cl pm cv ctv) ⟨[], []⟩ = pure []) (hL : ∀ C ∈ L, PySem.W.exmOne X.K (.ref C) (.ref CS) = some true)
    (hbody : ∀ (E : XK) (A : Around) (outer : List Env) (s : Shared) (H : Hp) (f c' : Addr), Room k (A.deeper (LamX.lamEnv X scope s.heap.objs.size f c')) → LE (LamX.lamCx X A outer s H E scope f c') (WE X.K E) body d)
    (hdb : (x == ("__debug__" : Str)) = false) (hd : (a == ("__debug__" : Str)) = false) (hcd : (a == ("__classdict__" : Str)) = false) :
    LE X EW0 (.Call (.Name x p) [.Lambda params body scope lpos] [] pos) (dTold L d) := by
  refine (pe_give (t := fun E => DL.T X.prog X.w X.K (WE X.K E) d) hg hm hk look code hb Sg rfl hv G TB own inT one hr S noDef bind hbody (fun E σ H Q Q' h w => ?_) hdb hd hcd).impD fun σ H Q ⟨ρ, η, μ, en, t, q⟩ => ⟨tabs_of t, fun H1 ext1 tabs1 p0 h0 => ?_⟩
  · obtain ⟨ρ, η, μ, en, t, q⟩ := w
    exact ⟨ρ, η, μ, en, t, q.mono h⟩
  · obtain ⟨st1, t1⟩ := lam_step t ext1 tabs1
    have st2 : Step X.K ρ H ρ (upd H1 p0 (.tup [.non, .non])) := st1.trans (Step.tupNew h0)
    have t2 := t1.quiet (u := .tup [.non, .non]) h0
    have two : (2 : Nat) ≤ sizeLine := by rw [sizeLine_eq]; omega
    refine ⟨ρ, η, μ, en.step st2, t2, Post.step st2 ?_⟩
    unfold dTold at q
    cases r : d η μ with
    | bad => rw [r] at q; exact q.elim
    | ok v μ1 =>
      rw [r] at q
      intro ρ3 x3 H3 st3 r3 t3 p3 h3
      have q : Post X.prog X.w X.K EW0 ρ H (.ok (.tup [.non, v]) μ1) (RV X.K) Q := q
      have st4 : Step X.K ρ3 H3 ρ3 (upd H3 p3 (.tup [.non, x3])) := Step.tupNew h3
      exact q ρ3 (.ref p3) _ (st3.trans st4) (.tup (.inl (.inl upd_same)) (.cons .non (.cons (r3.step st4) .nil))) (t3.quiet h3)
    | err C v μ1 =>
      rw [r] at q
      have q : Post X.prog X.w X.K EW0 ρ H (if C ∈ L then .ok (.tup [.exc C v, .non]) μ1 else .bad) (RV X.K) Q := q
      by_cases cl : C ∈ L
      · rw [if_pos cl] at q
        intro ρ3 H3 st3 t3 d3 x3 n3 r3
        refine ⟨C, d3, x3, rfl, rfl, upd_same, hL C cl, fun a p oe od fs ha o1 o2 o3 hp => ?_⟩
        have na : H3 a = none := by
          by_cases z : a = d3
          · rw [z, upd_same] at ha
            cases ha
          · rw [upd_ne z] at ha
            exact ha
        have ad : a ≠ d3 := fun z => by rw [z, upd_same] at ha; cases ha
        have same : excH (upd H3 d3 (.xd [("value", x3)])) a d3 oe od x3 = excH H3 a d3 oe od x3 := by
          funext y
          by_cases y1 : y = d3
          · rw [y1, excH_d, excH_d]
          · by_cases y2 : y = a
            · rw [y2, excH_a ad, excH_a ad]
            · rw [excH_ne y2 y1, excH_ne y2 y1, upd_ne y1]
        rw [same] at hp ⊢
        obtain ⟨st4, t4⟩ := exc_quiet (oe := oe) (od := od) (x := x3) t3 na n3 ad
        have st5 : Step X.K ρ3 (excH H3 a d3 oe od x3) ρ3 (upd (excH H3 a d3 oe od x3) p (.tup [.ref a, .non])) := Step.tupNew hp
        have rx : RV X.K ρ3 (excH H3 a d3 oe od x3) (.exc C v) (.ref a) := .exc (excH_a ad) o1 o2 o3 excH_d (r3.step st4)
        exact q ρ3 (.ref p) _ ((st3.trans st4).trans st5) (.tup (.inl (.inl upd_same)) (.cons (rx.step st5) (.cons .non .nil))) (t4.quiet hp)
      · rw [if_neg cl] at q
        exact q.elim
end
end DL
namespace DL
open PySem PySem.Spec PyProof.Rows L2
def strV (v : Value) : Bool := match v with
  | .str _ _ => true
  | _ => false
def intV' (v : Value) : Bool := match v with
  | .int _ _ => true
  | _ => false
def blV' (v : Value) : Bool := match v with
  | .bool _ => true
  | _ => false
/-- at c the code object whose table is at P -/
def codeHdB (c P : Addr) (K : PySem.W.Frag) : Bool := match K.lookup c with
  | some o => match o.cls, o.data with
    | .type t, .fields vs => decide (t = "code") && (match (vs[11]? : Option Value) with
        | some (.ref p) => decide (p = P)
        | _ => false) && strV (vs.getD 18 .none) && intV' (vs.getD 7 .none) && blV' (vs.getD 9 .none) && intV' (vs.getD 10 .none) && decide (c ≠ P)
    | _, _ => false
  | none => false
theorem codeHdB_ok {c P : Addr} {K : PySem.W.Frag} {h : Heap} (X : K.In h) (e : codeHdB c P K = true) : PySem.W.CodeHd h c P := by
  unfold codeHdB at e
  split at e
  · rename_i o ho
    split at e
    · rename_i t vs hc hd
      simp only [Bool.and_eq_true, decide_eq_true_eq] at e
      obtain ⟨⟨⟨⟨⟨⟨e1, e2⟩, e3⟩, e4⟩, e5⟩, e6⟩, e7⟩ := e
      have f1 : vs[11]? = some (.ref P) := by
        split at e2
        · rename_i p hp
          rw [hp, of_decide_eq_true e2]
        · cases e2
      have f2 : vs.getD 11 .none = .ref P := by
        rw [Array.getD_eq_getD_getElem?, f1]
        rfl
      have s1 : ∀ v, strV v = true → ∃ a b, v = .str a b := fun v h => by
        unfold strV at h
        split at h
        · exact ⟨_, _, rfl⟩
        · cases h
      have s2 : ∀ v, intV' v = true → ∃ a b, v = .int a b := fun v h => by
        unfold intV' at h
        split at h
        · exact ⟨_, _, rfl⟩
        · cases h
      have s3 : ∀ v, blV' v = true → ∃ a, v = .bool a := fun v h => by
        unfold blV' at h
        split at h
        · exact ⟨_, rfl⟩
        · cases h
      obtain ⟨file, tf, g1⟩ := s1 _ e3
      obtain ⟨fl, tg, g2⟩ := s2 _ e4
      obtain ⟨inF, g3⟩ := s3 _ e5
      obtain ⟨tx, tt, g4⟩ := s2 _ e6
      exact ⟨o, vs, file, tf, fl, tg, inF, tx, tt, X _ _ ho, by rw [hc, e1], hd, f1, f2, g1, g2, g3, g4, e7⟩
    · cases e
  · cases e
def bltB (K : PySem.W.Frag) : Bool := match PySem.W.nsIn K mainGlobals "__builtins__" with
  | some (some (.ref bm)) => decide (bm ≠ builtinsNs) && (match K.lookup bm with
    | some o => (match o.cls with
      | .type t => decide (t = "module")
      | _ => false) && decide (o.dict = some builtinsNs) && (match o.data with
      | .plain => true
      | _ => false)
    | none => false)
  | _ => false
theorem bltB_ok {K : PySem.W.Frag} {h : Heap} {mg : Str → Option Value} (X : K.In h) (G : h.Ns mainGlobals mg) (e : bltB K = true) : ∃ (bm : Addr) (ob : Obj), mg "__builtins__" = some (.ref bm) ∧ bm ≠ builtinsNs ∧ h.get? bm = some ob ∧ ob.cls = .type "module" ∧ ob.dict = some builtinsNs ∧ ob.data = .plain := by
  unfold bltB at e
  split at e
  · rename_i bm hb
    rw [Bool.and_eq_true, decide_eq_true_eq] at e
    obtain ⟨e1, e2⟩ := e
    split at e2
    · rename_i o ho
      simp only [Bool.and_eq_true, decide_eq_true_eq] at e2
      obtain ⟨⟨e2, e3⟩, e4⟩ := e2
      have f1 : o.cls = .type "module" := by
        split at e2
        · rename_i t ht
          rw [ht, of_decide_eq_true e2]
        · cases e2
      have f2 : o.data = .plain := by
        split at e4
        · rename_i hp
          exact hp
        · cases e4
      exact ⟨bm, o, PySem.W.mg_of X G hb, e1, X _ _ ho, f1, e3, f2⟩
    · cases e2
  · cases e
def tabObj0 : Obj := { cls := .none, data := .fields #[] }
def tabO (o : Option Obj) : Bool := match o with
  | some o => (match o.cls with
    | .none => true
    | _ => false) && o.dict.isNone && (match o.data with
    | .fields vs => vs.size == 0
    | _ => false) && o.slots.size == 0
  | none => false
theorem tabO_ok {o : Option Obj} (h : tabO o = true) : o = some tabObj0 := by
  unfold tabO at h
  split at h
  · rename_i ob
    obtain ⟨c, d, dt, sl⟩ := ob
    simp only [Bool.and_eq_true] at h
    obtain ⟨⟨⟨h1, h2⟩, h3⟩, h4⟩ := h
    have e1 : c = .none := by
      split at h1
      · rfl
      · cases h1
    have e2 : d = none := by simpa using h2
    have e3 : dt = .fields #[] := by
      split at h3
      · rename_i vs
        rw [Array.eq_empty_of_size_eq_zero (beq_iff_eq.mp h3)]
      · cases h3
    have e4 : sl = #[] := Array.eq_empty_of_size_eq_zero (beq_iff_eq.mp h4)
    rw [e1, e2, e3, e4]
    rfl
  · cases h
/-- the hook of a law with lambdas and own exceptions: the tables tb are no part of what is known; xf: defs with a closure -/
abbrev XfL := List ((PySem.W.Frag → Addr) × He5.FnW)
def obsT (tb : List Addr) (xf : XfL) (g : Addr → Option Obj) (as : List Addr) (ex : ExL) (fn : List He5.DefA) : He.AlD :=
  ((tb.all fun P => tabO (g P) && !as.contains P) && (obsM ex fn (frN_ g as)).1, xf.map (fun q => He5.fnA (frN_ g as) (q.1 (frN_ g as))) ++ (obsM ex fn (frN_ g as)).2)
theorem frG_as {g : Addr → Option Obj} {as : List Addr} {a : Addr} {o : Obj} (h : (a, o) ∈ He.frG g as) : a ∈ as := by
  unfold He.frG at h
  obtain ⟨b, hb, e⟩ := List.mem_filterMap.mp h
  obtain ⟨o', _, e2⟩ := Option.map_eq_some_iff.mp e
  cases e2
  exact hb
theorem append_eq {α : Type} {a b c d : List α} (h : a ++ c = b ++ d) (hl : a.length = b.length) : a = b ∧ c = d := List.append_inj h hl
def hookT (tb : List Addr) (xf : XfL) (as : List Addr) (ex : ExL) (fn : List He5.DefA) : PySem.W.Hook where
  α := He.AlD
  obs := fun s => obsT tb xf s.heap.get? as ex fn
  val := fun _ => (true, xf.map (·.2) ++ (valM fn).2)
  says := fun _ h => ∃ K : PySem.W.Frag, K.In h ∧ NoLst K ∧ SaysM ex fn K ∧ (∀ P ∈ tb, h.get? P = some tabObj0 ∧ K.lookup P = none) ∧ ∀ q ∈ xf, He5.fnA K (q.1 K) = q.2
  of := fun _ s e => by
    have e : obsT tb xf s.heap.get? as ex fn = (true, xf.map (·.2) ++ (valM fn).2) := e
    have e1 := He.ba (show ((tb.all fun P => tabO (s.heap.get? P) && !as.contains P) && (obsM ex fn (frN_ s.heap.get? as)).1) = true from congrArg (fun z : He.AlD => z.1) e)
    have e2 : xf.map (fun q => He5.fnA (frN_ s.heap.get? as) (q.1 (frN_ s.heap.get? as))) ++ (obsM ex fn (frN_ s.heap.get? as)).2 = xf.map (·.2) ++ (valM fn).2 := congrArg (fun z : He.AlD => z.2) e
    obtain ⟨e3, e4⟩ := append_eq e2 (by rw [List.length_map, List.length_map])
    refine ⟨frN_ s.heap.get? as, fun _ _ h => (frN_mem h).1, noLst_of, Prod.ext e1.2 e4, fun P hP => ?_, fun q hq => ?_⟩
    · obtain ⟨f1, f2⟩ := He.ba (List.all_eq_true.mp e1.1 P hP)
      refine ⟨tabO_ok f1, ?_⟩
      cases z : (frN_ s.heap.get? as).lookup P with
      | none => rfl
      | some o =>
        obtain ⟨h1, _⟩ := List.mem_filter.mp (He.lookup_mem z)
        have := frG_as h1
        simp [List.contains_iff_mem, this] at f2
    · exact List.map_inj_left.mp e3 q hq
  keeps := fun _ _ _ ⟨K, hK, n, c, t⟩ k => ⟨K, PySem.W.Frag.In.keeps hK k, n, c, fun P hP => ⟨k _ _ (t.1 P hP).1, (t.1 P hP).2⟩, t.2⟩
def obT (tb : List Addr) (xf : XfL) (as : List Addr) (ex : ExL) (fn : List He5.DefA) (s : PySem.W.SharedT) : He.AlD := obsT tb xf (HandSHeadRun.getT s) as ex fn
theorem obT_eq {tb as : List Addr} {xf : XfL} {ex : ExL} {fn : List He5.DefA} (s : PySem.W.SharedT) : obT tb xf as ex fn s = (hookT tb xf as ex fn).obs s.abs := by
  have e : HandSHeadRun.getT s = s.abs.heap.get? := funext (HandSHeadRun.getT_eq s)
  show obsT tb xf (HandSHeadRun.getT s) as ex fn = obsT tb xf s.abs.heap.get? as ex fn
  rw [e]
def noneV (v : Value) : Bool := match v with
  | .none => true
  | _ => false
theorem noneV_ok {v : Value} (h : noneV v = true) : v = .none := by
  unfold noneV at h
  split at h
  · rfl
  · cases h
/-- the code object tells the program's file -/
def cfB (P : Program) (K : PySem.W.Frag) (v : Value) : Bool := match v with
  | .ref cda => PySem.W.codeIn K (.ref cda) "MetreError.__init__" && (match K.lookup cda with
    | some ⟨_, _, .fields fs, _⟩ => (match (fs[2]? : Option Value) with
      | some (.str file _) => ((P.main.file : Str) == file)
      | _ => false)
    | _ => false)
  | _ => false
theorem cfB_ok {P : Program} {K : PySem.W.Frag} {v : Value} (h : cfB P K v = true) : ∃ (cda : Addr) (d1 : Value) (d2 : Option Addr) (fs : Array Value) (d3 : Array (Option Value)) (file : Str) (tf : Tok), v = .ref cda ∧ PySem.W.codeIn K (.ref cda) "MetreError.__init__" = true ∧ K.lookup cda = some ⟨d1, d2, .fields fs, d3⟩ ∧ fs[2]? = some (.str file tf) ∧ ((P.main.file : Str) == file) = true := by
  unfold cfB at h
  split at h
  · rename_i cda
    obtain ⟨c1, c2⟩ := He.ba h
    split at c2
    · rename_i d1 d2 fs d3 look
      split at c2
      · rename_i file tf hf
        exact ⟨cda, d1, d2, fs, d3, file, tf, rfl, c1, look, hf, c2⟩
      · cases c2
    · cases c2
  · cases h
def xiB (P : Program) (M : Addr) (K : PySem.W.Frag) : Bool := match K.lookup (He.ma K M "__init__") with
  | some ⟨_, _, .func fd, _⟩ => cfB P K fd.code && noneV fd.defaults
  | _ => false
def cellB (cc M : Addr) (K : PySem.W.Frag) : Bool := match K.lookup cc with
  | some ⟨_, _, .cell (some (.ref m)), _⟩ => decide (m = M)
  | _ => false
abbrev xiArgs (l : Nat) : Arguments := { posonlyargs := [], args := [{ arg := "self", annotation := none, pos := ⟨l - 1, 17, l - 1, 21⟩ }, { arg := "value", annotation := none, pos := ⟨l - 1, 23, l - 1, 28⟩ }], vararg := none, kwonlyargs := [], kw_defaults := [], kwarg := none, defaults := [] }
abbrev xiFn (l : Nat) (cc : Addr) : He5.FnW := some ("__init__", "MetreError.__init__", xiArgs l, .stmts (xiBody l), xiScope, mainGlobals, [("__class__", cc)], builtinsNs)
def tyB (v : Option Value) (s : String) : Bool := match v with
  | some (.type t) => decide (t = s)
  | _ => false
theorem tyB_ok {v : Option Value} {s : String} (h : tyB v s = true) : v = some (.type s) := by
  unfold tyB at h
  split at h
  · rw [of_decide_eq_true h]
  · cases h
def xiKB (M : Addr) (K : PySem.W.Frag) : Bool := tyB (PySem.W.typeIn K (.ref (He.ma K M "__init__"))) "function" && ((PySem.W.clsIn K M).isSome && (He.eqO (PySem.W.nsIn K mainGlobals "super") (some none) && He.eqO (PySem.W.nsIn K cStatics "thirdparty.any") (some none)))
theorem xi_of {P : Program} {M cc : Addr} {K : PySem.W.Frag} {l : Nat} (hl : l = 5 ∨ l = 8) (h1 : xiB P M K = true) (h2 : cellB cc M K = true) (h3 : xiKB M K = true) (h4 : He5.fnA K (He.ma K M "__init__") = xiFn l cc) (h5 : (P.main.scope.names.lookup ("super" : Str)).isSome = false) :
    XiDef K P M (He.ma K M "__init__") := by
  obtain ⟨g1, h3⟩ := He.ba h3
  obtain ⟨g2, h3⟩ := He.ba h3
  obtain ⟨g3, g4⟩ := He.ba h3
  refine ⟨?_, tyB_ok g1, g2, He.eqO_ok g3, He.eqO_ok g4⟩
  unfold xiB at h1
  unfold He5.fnA at h4
  split at h1
  · rename_i oc od fd osl look
    rw [look] at h4
    obtain ⟨n1, n2, n3, n4, n5, n6, n7, n8, n9, n10, n11, n12, n13, n14, n15⟩ := fd
    have e2 : (some (n1, n2, n3, n4, n5, n6, n7, n15) : He5.FnW) = xiFn l cc := h4
    simp only [xiFn, Option.some.injEq, Prod.mk.injEq] at e2
    obtain ⟨k1, k2, k3, k4, k5, k6, k7, k8⟩ := e2
    subst k1 k2 k3 k4 k5 k6 k7 k8
    obtain ⟨h1, hd⟩ := He.ba h1
    have d0 : n8 = .none := noneV_ok hd
    subst d0
    obtain ⟨cda, d1, d2, fs, d3, file, tf, q1, q2, q3, q4, q5⟩ := cfB_ok h1
    have q1 : n13 = .ref cda := q1
    subst q1
    unfold cellB at h2
    split at h2
    · rename_i e1 e2 m e3 lk3
      have em := of_decide_eq_true h2
      subst em
      exact ⟨oc, .none, n9, n10, n11, n14, od, n12, osl, { arg := "self", annotation := none, pos := ⟨l - 1, 17, l - 1, 21⟩ }, xiArgs l, l, cda, cc, "MetreError.__init__", d1, e1, d2, e2, d3, e3, fs, file, tf, hl, look, q2, rfl, rfl, fun x u => rfl, q3, q4, q5, h5, lk3⟩
    · cases h2
  · cases h1
/-- an own exception class over ValueError, M itself or below it, without __init__ but M's -/
def xcB (M C : Addr) (K : PySem.W.Frag) : Bool := (match K.lookup C with
  | some ⟨cl, dd, .cls cd, sl⟩ => tyB (some cl) "type" && decide (cd.mro.length ≥ 1) && (match cd.mro with
    | .ref c :: bm => decide (c = C) && PySem.HandSPX.refsVE bm
    | _ => false) && cd.hasDict && !cd.hasDel && (match sl.toList with
    | [_, _, _, _, some (.builtin n), _] => decide (n = "ValueError.__new__")
    | _ => false)
  | _ => false) && (He.eqO (PySem.W.findIn K (.ref C) "__setattr__") (some (some (.builtin "object.__setattr__"))) && (decide (PySem.W.subIn K (.ref C) (.type "BaseException") = some true) && (tyB (PySem.W.typeIn K (.ref C)) "type" && (PySem.W.keepIn K (.ref C) &&
    (He.eqO (PySem.W.findIn K (.ref C) "__init__") (some (some (.ref (He.ma K M "__init__")))) && (decide (PySem.W.mroIn K C (.ref M) = some true) && (He.eqO (PySem.W.ks_superIn K C M "__init__") (some (some (.builtin "ValueError.__init__"))) &&
      (decide (PySem.W.subIn K (.ref C) (.type "ValueError") = some true) && He.eqO (PySem.W.findIn K (.ref C) "value") (some none)))))))))
theorem xc_of {M C : Addr} {K : PySem.W.Frag} (h : xcB M C K = true) : XiCls K M (He.ma K M "__init__") C := by
  obtain ⟨a, h⟩ := He.ba h
  obtain ⟨b1, h⟩ := He.ba h
  obtain ⟨b2, h⟩ := He.ba h
  obtain ⟨b3, h⟩ := He.ba h
  obtain ⟨b4, h⟩ := He.ba h
  obtain ⟨b5, h⟩ := He.ba h
  obtain ⟨b6, h⟩ := He.ba h
  obtain ⟨b7, h⟩ := He.ba h
  obtain ⟨b8, b9⟩ := He.ba h
  refine ⟨⟨?_, He.eqO_ok b1, of_decide_eq_true b2, tyB_ok b3, b4⟩, He.eqO_ok b5, of_decide_eq_true b6, He.eqO_ok b7, of_decide_eq_true b8, He.eqO_ok b9⟩
  split at a
  · rename_i cl dd cd sl look
    simp only [Bool.and_eq_true] at a
    obtain ⟨⟨⟨⟨⟨a1, a0⟩, a2⟩, a3⟩, a4⟩, a5⟩ := a
    have e1 := tyB_ok a1
    cases e1
    obtain ⟨nm, bs, mro, ns, qn, hd, sn, sb, ab, col, hdel⟩ := cd
    dsimp only at a2 a3 a4
    have e3 : hdel = false := by simpa using a4
    subst e3 a3
    split at a2
    · rename_i c bm
      obtain ⟨f1, f2⟩ := He.ba a2
      have := of_decide_eq_true f1
      subst this
      split at a5
      · rename_i s0 s1 s2 s3 n s5 hs
        have := of_decide_eq_true a5
        subst this
        have es : sl = #[s0, s1, s2, s3, some (.builtin "ValueError.__new__"), s5] := by rw [← hs]
        subst es
        exact ⟨nm, qn, ns, bs, bm, sn, sb, ab, col, dd, s0, s1, s2, s3, s5, look, f2⟩
      · cases a5
    · cases a2
  · cases a
def eiB (C : Addr) (K : PySem.W.Frag) : Bool := (PySem.W.clsIn K C).isSome && (He.eqO (PySem.W.findIn K (.ref C) "__getattribute__") (some (some (.builtin "BaseException.__getattribute__"))) && (He.eqO (PySem.W.findIn K (.ref C) "__getattr__") (some none) && (decide (PySem.W.subIn K (.ref C) (.type "BaseException") = some true) &&
  (He.eqO (PySem.W.findIn K (.ref C) "__class__") (some (some (.builtin "object.__class__"))) && (He.eqO (PySem.W.specialIn K (.builtin "object.__class__") "__get__") (some (some (.builtin "getset_descriptor.__get__"))) && (decide (PySem.W.takesIn K (.builtin "object.__class__") = some true) && (decide (PySem.W.mroIn K C (.type "object") = some true) &&
    (PySem.W.hasDictIn K C && He.eqO (PySem.W.findIn K (.ref C) "value") (some none)))))))))
theorem ei_of {C : Addr} {K : PySem.W.Frag} (h : eiB C K = true) : ExcI K C ∧ XfC K C ∧ PySem.W.findIn K (.ref C) "value" = some none := by
  obtain ⟨b0, h⟩ := He.ba h
  obtain ⟨b1, h⟩ := He.ba h
  obtain ⟨b2, h⟩ := He.ba h
  obtain ⟨b3, h⟩ := He.ba h
  obtain ⟨b4, h⟩ := He.ba h
  obtain ⟨b5, h⟩ := He.ba h
  obtain ⟨b6, h⟩ := He.ba h
  obtain ⟨b7, h⟩ := He.ba h
  obtain ⟨b8, b9⟩ := He.ba h
  exact ⟨⟨b0, He.eqO_ok b1, He.eqO_ok b2, of_decide_eq_true b3, He.eqO_ok b4, He.eqO_ok b5, of_decide_eq_true b6, of_decide_eq_true b7⟩, ⟨He.eqO_ok b1, He.eqO_ok b2, of_decide_eq_true b3, b8⟩, He.eqO_ok b9⟩
end DL
namespace DL
open PySem PySem.Spec PyProof.Rows L2
section
variable {P : Program} {w : World} {K : PySem.W.Frag} {mg mb : Str → Option Value} {k : Nat} {fa a : Addr} {fd : FuncData} {x : Str} {sp : Sp} {s₁ : Shared} {us : List Value} {l : List Int} {cs : List (Addr × Addr)}
theorem law_callT (inK : K.In s₁.heap) (nl : NoLst K) (top : s₁.heap.Ns mainGlobals mg) (bn : s₁.heap.Ns builtinsNs mb) (bb : ∀ x : Str, x ≠ "__name__" → mb x = bootBuiltins x) (lim : s₁.heap.NoLimit) (gens : s₁.gens = #[])
    (tabs : ∀ p ∈ cs, s₁.heap.get? p.2 = some tabObj0 ∧ K.lookup p.2 = none) (codes : ∀ p ∈ cs, PySem.W.CodeHd s₁.heap p.1 p.2)
    (mod : ∃ (bm : Addr) (ob : Obj), mg "__builtins__" = some (.ref bm) ∧ bm ≠ builtinsNs ∧ s₁.heap.get? bm = some ob ∧ ob.cls = .type "module" ∧ ob.dict = some builtinsNs ∧ ob.data = .plain)
    (ha : s₁.heap.get? a = some { cls := .type "list", data := .seq us.toArray }) (whole : IntsAre us l) (few : l.length ≤ sizeLine) (room : Room k callerA)
    (F : ∀ base : Heap, K.In base → base.Ns mainGlobals mg → (∀ p ∈ cs, LamX.TabB base mg p.1 p.2) → FnG P w K mg base k fa fd [x] sp) (bind : ∀ (s : Shared) (u : Value), BindsTo s fd ⟨[u], []⟩ [(x, u)])
    (want : ∀ (H : Hp) (o : Obj), (∀ p ∈ cs, H p.2 = some (.tbl #[])) → (∀ p ∈ cs, p.2 ≠ a) → H a = some (.frz o (.lst (l.map V.int))) → sp [.ref a] H (fun v _ => v = .bl true) fun _ _ _ => False) :
    codeAny (model P w) callerA (.call (.ref fa) ⟨[.ref a], []⟩) (fun r s' => r = .ok (.ret (.bool true)) ∧ OldK s₁.heap s'.heap ∧ s'.os = s₁.os ∧ AllBare s'.gens) s₁ := by
  have rel := int_vals whole
  have tabAt : ∀ b, b ∈ cs.map (·.2) → s₁.heap.get? b = some tabObj0 ∧ K.lookup b = none := fun b hb => by
    obtain ⟨p, hp, e⟩ := List.mem_map.mp hb
    rw [← e]
    exact tabs p hp
  have aOut : a ∉ cs.map (·.2) := fun z => by
    have e := (tabAt a z).1
    rw [ha] at e
    have e2 : Data.seq us.toArray _ = Data.fields #[] := congrArg Obj.data (Option.some.inj e)
    cases e2
  have aK : K.lookup a = none := by
    cases z : K.lookup a with
    | none => rfl
    | some o =>
      have g := inK a o z
      rw [ha] at g
      cases g
      exact absurd rfl (nl a _ z)
  obtain ⟨H, hH⟩ : ∃ H : Hp, H = fun b => if b = a then some (.frz { cls := .type "list", data := .seq us.toArray } (.lst (l.map V.int))) else if b ∈ cs.map (·.2) then some (.tbl #[]) else none := ⟨_, rfl⟩
  have Ha : H a = some (.frz { cls := .type "list", data := .seq us.toArray } (.lst (l.map V.int))) := by rw [hH]; exact if_pos rfl
  have Ht : ∀ b, b ∈ cs.map (·.2) → H b = some (.tbl #[]) := fun b hb => by rw [hH]; exact (if_neg fun z => aOut (by rw [← z]; exact hb)).trans (if_pos hb)
  have Hn : ∀ b, b ≠ a → b ∉ cs.map (·.2) → H b = none := fun b h1 h2 => by rw [hH]; exact (if_neg h1).trans (if_neg h2)
  have three : ∀ b, b = a ∨ b ∈ cs.map (·.2) ∨ H b = none := fun b => by
    by_cases h1 : b = a
    · exact .inl h1
    · by_cases h2 : b ∈ cs.map (·.2)
      · exact .inr (.inl h2)
      · exact .inr (.inr (Hn b h1 h2))
  have ok : HOk P w H s₁.heap := fun b u g => by
    rcases three b with h | h | h
    · rw [h, Ha] at g
      cases g
      rw [h]
      exact ⟨ha, by rw [List.length_map]; exact few, us, _, rel, ha⟩
    · rw [Ht b h] at g
      cases g
      exact (tabAt b h).1
    · rw [h] at g
      cases g
  have seen : ∀ {b : Addr} {o : Obj}, s₁.heap.get? b = some o → H b = none → (hidT s₁.heap H).get? b = some o := fun g n => hidT_get g n
  -- what is neither a list nor a table is not tracked
  have other : ∀ {b : Addr} {o : Obj}, s₁.heap.get? b = some o → (∀ vs n, o.data ≠ .seq vs n) → o.data ≠ .fields #[] → H b = none := fun {b o} g h1 h2 => by
    rcases three b with h | h | h
    · rw [h, ha] at g
      cases g
      exact absurd rfl (h1 _ _)
    · rw [(tabAt b h).1] at g
      cases g
      exact absurd rfl h2
    · exact h
  have names : ∀ {b : Addr} {m : Str → Option Value}, s₁.heap.Ns b m → (hidT s₁.heap H).Ns b m := fun {b m} ⟨o, es, ep, g, d, r⟩ => ⟨o, es, ep, seen g (other g (fun vs n z => by rw [d] at z; cases z) fun z => by rw [d] at z; cases z), d, r⟩
  have inB : K.In (hidT s₁.heap H) := fun b o g => seen (inK b o g) (by
    rcases three b with h | h | h
    · rw [h, aK] at g
      cases g
    · rw [(tabAt b h).2] at g
      cases g
    · exact h)
  have md : Mod K mg (hidT s₁.heap H) := ⟨inB, names top, ⟨mb, names bn, bb⟩, let ⟨mc, h1, h2⟩ := lim; ⟨mc, names h1, h2⟩⟩
  have TB : ∀ p ∈ cs, LamX.TabB (hidT s₁.heap H) mg p.1 p.2 := fun p hp => by
    have tp := (tabs p hp).1
    obtain ⟨oG, esG, epG, gG, dG, _⟩ := id top
    refine ⟨?_, ?_, fun z => ?_⟩
    · obtain ⟨o, fs, file, tf, fl, tg, inF, tx, tt, e1, r1, r2, r3, rest⟩ := codes p hp
      exact ⟨o, fs, file, tf, fl, tg, inF, tx, tt, seen e1 (other e1 (fun vs n z => by rw [r2] at z; cases z) fun z => by rw [r2] at z; cases z; simp at r3), r1, r2, r3, rest⟩
    · obtain ⟨bm, ob, b1, b2, b3, b4, b5, b6⟩ := mod
      refine ⟨bm, ob, b1, b2, fun q => ?_, fun q => ?_, seen b3 (other b3 (fun vs n z => by rw [b6] at z; cases z) fun z => by rw [b6] at z; cases z), b4, b5, b6⟩
      · rw [q, gG] at b3
        cases b3
        rw [dG] at b6
        cases b6
      · rw [q, tp] at b3
        cases b3
        cases b6
    · rw [z, tp] at gG
      cases gG
      cases dG
  have e0 : Env0 P w K mg (hidT s₁.heap H) callerA [] s₁ H := ⟨rfl, md, fun b o g => of_hidT g, Nat.le_of_eq (hidT_size _ _), trivial, fun b hb => absurd (show b ∈ ([] : List Addr) from hb) (by simp), ok, .of_eq gens⟩
  have inT : ∀ p ∈ cs, p.2 ∈ cs.map (·.2) := fun p hp => List.mem_map.mpr ⟨p, hp, rfl⟩
  refine codeAny_mono ((F _ inB (names top) TB).run callerA [] s₁ H ⟨[.ref a], []⟩ [.ref a] [.ref a] _ _ rfl room e0 (bind s₁ (.ref a)) (.cons rfl .nil) (want H _ (fun p hp => Ht _ (inT p hp)) (fun p hp z => aOut (by rw [← z]; exact inT p hp)) Ha)) fun r s' fin => ?_
  cases r with
  | error e => exact fin.elim
  | ok fl =>
    cases fl with
    | ret u =>
      obtain ⟨v, H', os, bare, un, ok', rv, isTrue⟩ := fin
      have isTrue : v = .bl true := isTrue
      subst isTrue
      obtain rfl : u = Value.bool true := rv
      have stays : ∀ b o, b ∉ cs.map (·.2) → s₁.heap.get? b = some o → s'.heap.get? b = some o := fun b o nb g => by
        rcases three b with h | h | h
        · obtain ⟨g1, _⟩ := ok' b _ (un.frzs b _ _ (by rw [h]; exact Ha))
          rw [h, ha] at g
          cases g
          exact g1
        · exact absurd h nb
        · exact un.keep b o g h (fun z => absurd (show b ∈ ([] : List Addr) from z) (by simp)) (by simp)
      have grew : ∀ p ∈ cs, ∃ more : Array Value, s'.heap.get? p.2 = some { cls := .none, data := .fields more } := fun p hp => by
        obtain ⟨more, z⟩ := un.tbls p.2 #[] (Ht _ (inT p hp))
        exact ⟨_, ok' p.2 _ z⟩
      refine ⟨rfl, ⟨fun b o g => ?_, fun b o g => ?_⟩, os, bare⟩
      · by_cases hb : b ∈ cs.map (·.2)
        · obtain ⟨p, hp, e⟩ := List.mem_map.mp hb
          obtain ⟨more, hm⟩ := grew p hp
          rw [← e] at g ⊢
          rw [(tabs p hp).1] at g
          cases g
          exact .inr (.inl ⟨((codes p hp).tab (tabs p hp).1).isCodeTable, rfl, #[], more, rfl, by rw [Array.empty_append]; exact hm⟩)
        · exact .inl (stays b o hb g)
      · by_cases hb : b ∈ cs.map (·.2)
        · obtain ⟨p, hp, e⟩ := List.mem_map.mp hb
          obtain ⟨more, hm⟩ := grew p hp
          rw [← e]
          exact ⟨_, hm⟩
        · exact ⟨o, stays b o hb g⟩
    | next => exact fin.elim
    | brk => exact fin.elim
    | cont => exact fin.elim
end
theorem walk_ofT {l : PySem.W.OpenLaw} {n k : Nat} {q : Program} {loose : List Str} {XP : (Str → Option Value) → Heap → Prop} {YP : World → Heap → Prop} {d : DefRec} {x : Str} {cs : List (Addr × Addr)}
    (most : l.most = some n) (fits : n ≤ sizeLine) (noDef : d.params.defaults = []) (room : Room k callerA)
    (F : ∀ (w : World) (mg : Str → Option Value) (fa : Addr) (h : Heap), YP w h → h.Ns mainGlobals mg → mg d.name = some (.ref fa) →
      ∃ (K : PySem.W.Frag) (fd : FuncData) (sp : Sp), K.In h ∧ NoLst K ∧ (∀ p ∈ cs, h.get? p.2 = some tabObj0 ∧ K.lookup p.2 = none) ∧ (∀ p ∈ cs, PySem.W.CodeHd h p.1 p.2) ∧
        (∃ (bm : Addr) (ob : Obj), mg "__builtins__" = some (.ref bm) ∧ bm ≠ builtinsNs ∧ h.get? bm = some ob ∧ ob.cls = .type "module" ∧ ob.dict = some builtinsNs ∧ ob.data = .plain) ∧ (∀ (s : Shared) (u : Value), BindsTo s fd ⟨[u], []⟩ [(x, u)]) ∧
        (∀ (H : Hp) (o : Obj) (a : Addr) (ns : List Int), ns.length ≤ n → (∀ p ∈ cs, H p.2 = some (.tbl #[])) → (∀ p ∈ cs, p.2 ≠ a) → H a = some (.frz o (.lst (ns.map V.int))) → sp [.ref a] H (fun v _ => v = .bl true) fun _ _ _ => False) ∧
        ∀ base : Heap, K.In base → base.Ns mainGlobals mg → (∀ p ∈ cs, LamX.TabB base mg p.1 p.2) → FnG l.prog w K mg base k fa fd [x] sp) :
    PySem.W.WalkO q loose XP YP l.row.toRowW d [] (fun f vs => PySem.call f vs) :=
  Att.attach_call most noDef fun w s₀ s₁ mg mb fa o pm cd doc a vs ns G Y ho hd rec named obj whole len gens =>
    let ⟨K, fd, sp, inK, nl, tabs, codes, mod, bind, want, Fn⟩ := F w mg fa _ Y G.T.g named
    law_callT inK nl G.T.g G.T.b G.T.builtins G.T.nolimit gens tabs codes mod obj whole (Nat.le_trans len fits) room Fn bind fun H o h1 h2 h3 => want H o a ns len h1 h2 h3
end DL
namespace DL
open PySem PySem.Spec PyProof.Rows L2
def CodeIs (K : PySem.W.Frag) (f : Addr) (cdv : Value) : Prop := ∃ (oc : Value) (od : Option Addr) (fd : FuncData) (osl : Array (Option Value)), K.lookup f = some ⟨oc, od, .func fd, osl⟩ ∧ fd.code = cdv
def refB (v : Value) (c : Addr) : Bool := match v with
  | .ref a => decide (a = c)
  | _ => false
theorem refB_ok {v : Value} {c : Addr} (h : refB v c = true) : v = .ref c := by
  unfold refB at h
  split at h
  · rw [of_decide_eq_true h]
  · cases h
def codeAtB (f c : Addr) (K : PySem.W.Frag) : Bool := match K.lookup f with
  | some ⟨_, _, .func fd, _⟩ => refB fd.code c
  | _ => false
theorem codeAt_of {K : PySem.W.Frag} {f c : Addr} {cdv : Value} (h : codeAtB f c K = true) (hc : CodeIs K f cdv) : cdv = .ref c := by
  obtain ⟨oc, od, fd, osl, e1, e2⟩ := hc
  unfold codeAtB at h
  rw [e1] at h
  rw [← e2]
  exact refB_ok h
section
variable {P : Program} {w : World} {K : PySem.W.Frag} {mg : Str → Option Value} {base : Heap} {x qual : Str} {st : Stmt} {f : Addr} {fd : FuncData} {N ps : List Str} {k : Nat} {d : DS} {kws : List (Str × V)}
theorem fn_gC (F : Fun K x qual st f fd) (S : FnScope N ps (defScope st))
    (h : ∀ (cdv : Value) (A : Around) (outer : List Env) (s : Shared) (H : Hp) (E : XK), CodeIs K f cdv → A.guards = some [] → Room k (A.deeper (envOfC qual (defScope st) s.heap.objs.size f cdv)) →
      LSs (cxOf CX0 P w K mg base N qual (defScope st) f cdv A outer s H E).nox EW0 (defBody st) d) : FnG P w K mg base (k + 1) f fd ps (spD P w K ps.length (fnBody ps.length N.length d)) := by
  obtain ⟨oc, od, kV, doc, pm, an, cdv, ct, osl, rfl, look, rec⟩ := F.ex
  refine ⟨fun vs H Q E hq => hq.1, fun A outer s H args us vs Q E quiet room e0 bnd rel want => ?_⟩
  have inK : K.In s.heap := e0.mod.kin.keeps fun b o e => (e0.bs b o e).1
  have noLim : s.heap.NoLimit := e0.mod.nolimit.keeps fun b o e => (e0.bs b o e).1
  have slots : ∀ y ∈ ps.zip us, (defScope st).names.lookup y.1 = some .local ∨ ((defScope st).names.lookup y.1 = some .cell ∧ ((cellsFrom (s.heap.objs.size + 1) (defScope st).names []).lookup y.1).isSome = true) := fun ⟨n, v⟩ hy => by
    rcases S.par n (List.of_mem_zip hy).1 with z | z
    · exact .inl z
    · exact .inr ⟨z, PySem.W.cellsFrom_some _ _ _ (.inl z)⟩
  refine codeAny_call_function room.depth (inK _ _ look) rfl S.co S.gen rfl (PySem.W.codeRec_of inK rec) (bnd _ _ _ _ ?_)
  refine wpAny_newFunctionEnv_cells S.kind slots fun env same s1 begun => ?_
  subst same
  refine ⟨noLim.keeps begun.toInCall.keep, codeAny_func ?_⟩
  have body := h cdv A outer s H E ⟨_, _, _, _, look, rfl⟩ quiet (room.deeper _)
  obtain ⟨ln, ρ, μ, qs, rq, tq, post⟩ := want
  have ln2 : qs.length = ps.length := fnBody_ar.len post
  have enter := REnv.start rq N
  rw [ln2] at enter
  unfold fnBody at post
  rw [if_pos ln2] at post
  have I : Inv (cxOf CX0 P w K mg base N qual (defScope st) f cdv A outer s H E) [] (start N vs) H s1 := inv_start S room.hd e0 ln rel begun
  have back : ∀ {σ2 : L2.St} {H2 : Hp} {v : V} {u : Value} {s2 : Shared}, Inv (cxOf CX0 P w K mg base N qual (defScope st) f cdv A outer s H E) [] σ2 H2 s2 → RelV v u → Q v H2 → CE outer P w H s Q u s2 :=
    fun {σ2 H2 v u s2} J ru qv => ⟨v, H2, J.os, J.bare, J.base, J.hok, ru, qv⟩
  have read : TS' P w K EW0 d { nx := fun _ H2 => Q .non H2, rt := Q } (start N vs) H := by
    refine ⟨ρ, _, μ, enter, tq, (Post.bind post).mono fun x H1 ⟨ρ1, o, μ1, st1, ro, s1, q1⟩ => ?_⟩
    cases ro with
    | nx en => exact q1 ρ1 .non H1 Step.refl .non s1
    | rt r1 => exact q1 ρ1 _ H1 Step.refl r1 s1
    | bk en => exact q1.elim
    | ct en => exact q1.elim
  refine wpAny_mono (body.nox.run [] s1 (start N vs) H _ I read) (fun fl s2 ends => ?_) fun e s2 ends => ends
  cases fl with
  | ret u =>
    obtain ⟨v, σ2, H2, J, ru, qv⟩ := ends
    exact back J ru qv
  | next =>
    obtain ⟨σ2, H2, J, qv⟩ := ends
    exact back (v := V.non) (u := Value.none) J rfl qv
  | brk =>
    obtain ⟨_, _, _, no⟩ := ends
    exact no.elim
  | cont =>
    obtain ⟨_, _, _, no⟩ := ends
    exact no.elim
theorem hasG_ofC {np nn : Nat} (hp : ps.length = np) (hn : N.length = nn) (F : ∃ fd, FunD K x qual (defArgs st) (defBody st) (defScope st) [] kws f fd) (S : FnScope N ps (defScope st))
    (hb : ∀ (kV doc pm : Value) (an : Option Addr) (cdv ct : Value) (us : List Value), us.length = ps.length → bindArgs (PySem.W.fnOf x qual (defArgs st) (defBody st) (defScope st) .none kV doc pm an cdv ct) ⟨us, []⟩ = pure (ps.zip us))
    (h : ∀ (cdv : Value) (A : Around) (outer : List Env) (s : Shared) (H : Hp) (E : XK), CodeIs K f cdv → A.guards = some [] → Room k (A.deeper (envOfC qual (defScope st) s.heap.objs.size f cdv)) →
      LSs (cxOf CX0 P w K mg base N qual (defScope st) f cdv A outer s H E).nox EW0 (defBody st) d) : HasG P w K mg base (k + 1) f ps (fnBody np nn d) := by
  subst hp hn
  obtain ⟨fd, F⟩ := F
  exact ⟨⟨fd, (He5.fun_of F).binds hb, fn_gC (He5.fun_of F) S h⟩, F.kp, fnBody_ar⟩
end
section
variable {X : Cx}
theorem xw_lam {A : Around} {outer : List Env} {s : Shared} {H : Hp} {E : XK} {scope : Scope} {f c' : Addr} : XW (LamX.lamCx X A outer s H E scope f c') (WE X.K E) :=
  (takes_of (X := LamX.lamCx X A outer s H E scope f c') (E := E) rfl rfl rfl rfl).imp fun c dd σ H1 ⟨C, v, μ, ρ, H0, dx, y, e1, e2, e3, _, e5, e6, e7⟩ => by
    subst e1 e2 e6
    exact e7 dx y e3 e5
theorem le_told2 {x a c b e : Str} {st : Stmt} {g CS cc Pt : Addr} {k : Nat} {kws : List (Str × V)} {params : Arguments} {body : Expr} {scope : Scope} {d : DE} {L : List Addr} {p lpos pos : Pos} {TT : List (Addr × Str)}
    (F : ∃ fd, FunD X.K x x (defArgs st) (defBody st) (defScope st) [] kws g fd) (Sg : FnScope [a, c, b, e] [a] (defScope st)) (hv : Vis (defScope st) a)
    (hb : ∀ (kV doc pm : Value) (an : Option Addr) (cdv ct : Value) (us : List Value), us.length = 1 → bindArgs (PySem.W.fnOf x x (defArgs st) (defBody st) (defScope st) .none kV doc pm an cdv ct) ⟨us, []⟩ = pure ([a].zip us))
    (G : ∀ cdv : Value, Gives X [a, c, b, e] x (defScope st) g cdv (defBody st) a (X.env.qual ++ "<lambda>") (TTold X.K CS)) (hm : X.mg x = some (.ref g)) (TB : LamX.TabB X.base X.mg cc Pt) (own : X.env.code = .ref cc) (tabs : tabsK X.K = TT)
    (inT : (Pt, X.env.qual ++ "<lambda>") ∈ TT) (one : ∀ p ∈ TT, p.1 = Pt → p.2 = X.env.qual ++ "<lambda>") (hr : Room (k + 2) X.A) (S : LamX.lamSB X.env.scope scope = true) (hL : ∀ C ∈ L, PySem.W.exmOne X.K (.ref C) (.ref CS) = some true)
    (hbody : ∀ (E : XK) (A : Around) (outer : List Env) (s : Shared) (H : Hp) (f c' : Addr), Room k (A.deeper (LamX.lamEnv X scope s.heap.objs.size f c')) → LE (LamX.lamCx X A outer s H E scope f c') (WE X.K E) body d)
    (hg : Gl X x := by rfl) (noDef : defaultsOf params X.env = ([], []) := by rfl) (bind : ∀ (q : Str) (cl : List (Str × Addr)) (pm cv ctv : Value), bindArgs (PySem.W.kla_fn "<lambda>" q params body scope cl pm cv ctv) ⟨[], []⟩ = pure [] := by intro _ _ _ _ _; rfl)
    (hdb : (x == ("__debug__" : Str)) = false := by decide) (hd : (a == ("__debug__" : Str)) = false := by decide) (hcd : (a == ("__classdict__" : Str)) = false := by decide) :
    LE X EW0 (.Call (.Name x p) [.Lambda params body scope lpos] [] pos) (dTold L d) := by
  obtain ⟨fd, F⟩ := F
  obtain ⟨oc, od, kV, doc, pm, an, cdv, ct, osl, rfl, look, rec⟩ := (He5.fun_of F).ex
  subst tabs
  exact le_told (m := a) (osl := osl) hg hm F.kp look rec (.all fun us hl => hb kV doc pm an cdv ct us hl) Sg hv (G cdv) TB own inT one hr (LamX.lamS_by S) noDef bind hL hbody hdb hd hcd
end
end DL
namespace G
open PySem PySem.Spec PyProof.Rows L2 DL
def top (i : Nat) : Stmt := PySem.Challenge.pw_lostmetres_k03_bounds_of_texts.main.body.getD i (.Pass ⟨0, 0, 0, 0⟩)
abbrev aC_MetreError : Addr := 33
abbrev aC_BadTongue : Addr := 46
abbrev aC_Reading : Addr := 153
abbrev aC_Tongue : Addr := 267
abbrev tabL : List (Addr × PySem.Str) := [(315, "_law_is_refused" ++ ".<locals>." ++ "<lambda>"), (322, "_law_is_let" ++ ".<locals>." ++ "<lambda>")]
abbrev cs : List (Addr × Addr) := [(319, 315), (326, 322)]
abbrev tbs : List Addr := [315, 322]
abbrev xfs : XfL := [(fun K => He.ma K aC_MetreError "__init__", xiFn 5 18)]
abbrev s__law_places : Stmt := top 50
abbrev s__law_take : Stmt := top 48
abbrev s__law_some : Stmt := top 49
abbrev s__law_names : Stmt := top 52
abbrev s_ReadingD_initD : Stmt := inClass (top 43) 0
abbrev s_is_made_of : Stmt := top 16
abbrev s_is_name : Stmt := top 17
abbrev s_Reading_take_word : Stmt := inClass (top 43) 1
abbrev s_Reading_take_joint : Stmt := inClass (top 43) 2
abbrev s_forms_in : Stmt := top 40
abbrev s_parts_in : Stmt := top 41
abbrev s_metre_parts : Stmt := top 42
abbrev s_Reading_take_metre : Stmt := inClass (top 43) 3
abbrev s_Reading_take : Stmt := inClass (top 43) 4
abbrev s_read_lines : Stmt := top 44
abbrev s_TongueD_initD : Stmt := inClass (top 45) 0
abbrev s_Tongue_text : Stmt := inClass (top 45) 1
abbrev s__law_is_let : Stmt := top 54
abbrev s__law_is_refused : Stmt := top 53
abbrev s__law_right : Stmt := top 55
abbrev s__law_pot : Stmt := top 47
abbrev s_law : Stmt := top 56
abbrev s__law_told : Stmt := top 51
def exs : ExL := [faB (.free "len"),
  faB (.free "min"),
  faB (.free "max"),
  faB (.free "list"),
  faB (.free "range"),
  faB (.glo "_law_places"),
  faB (.free "int"),
  faB (.glo "_law_take"),
  faB (.glo "_law_some"),
  faB (.glo "_law_names"),
  faB (.free "isinstance"),
  faB (.free "str"),
  xcB aC_MetreError aC_BadTongue,
  gloB "BadTongue" aC_BadTongue,
  faB (.str "FEED" "\n"),
  clsB aC_Reading,
  noatB aC_Reading "named_words",
  noatB aC_Reading "named_joints",
  noatB aC_Reading "named_metres",
  mkB aC_Reading,
  gloB "Reading" aC_Reading,
  faB (.free "enumerate"),
  faB (.str "BLANK" " "),
  faB (.str "WORD" "word"),
  faB (.int "WORD_SIZE" 5),
  faB (.int "MOST_WORDS" 6),
  faB (.int "MOST_SIGNS" 8),
  faB (.free "all"),
  faB (.glo "is_made_of"),
  faB (.str "LETTERS" "abcdefghijklmnopqrstuvwxyz"),
  faB (.glo "is_name"),
  faB (.free "tuple"),
  faB (.str "LONG" "-"),
  faB (.str "SHORT" "u"),
  faB (.str "UNKNOWN" "?"),
  faB (.int "MOST_SYLLABLES" 4),
  faB (.free "sum"),
  faB (.int "MOST_UNKNOWN" 6),
  methB aC_Reading "take_word",
  faB (.str "JOINT" "joint"),
  faB (.int "JOINT_SIZE" 4),
  faB (.int "MOST_JOINTS" 9),
  faB (.str "DROP" "drop"),
  faB (.str "MAY" "may"),
  faB (.str "STRETCH" "long"),
  methB aC_Reading "take_joint",
  faB (.str "METRE" "metre"),
  faB (.int "METRE_SIZE" 3),
  faB (.int "MOST_METRES" 3),
  faB (.int "MOST_PARTS" 8),
  faB (.str "ENDS" "|"),
  faB (.str "AMID" "!"),
  faB (.str "STAR" "*"),
  faB (.str "FIGURES" "0123456789"),
  faB (.str "SLASH" "/"),
  faB (.int "MOST_FORMS" 3),
  faB (.free "set"),
  faB (.str "EITHER" "x"),
  faB (.glo "forms_in"),
  faB (.glo "parts_in"),
  faB (.int "MOST_DRAWN_OUT" 24),
  faB (.glo "metre_parts"),
  methB aC_Reading "take_metre",
  methB aC_Reading "take",
  faB (.glo "read_lines"),
  clsB aC_Tongue,
  noatB aC_Tongue "own_text",
  noatB aC_Tongue "own_words",
  noatB aC_Tongue "own_names",
  noatB aC_Tongue "own_joints",
  noatB aC_Tongue "own_metres",
  noatB aC_Tongue "own_unknown",
  mkB aC_Tongue,
  gloB "Tongue" aC_Tongue,
  gloB "MetreError" aC_MetreError,
  faB (.glo "_law_told"),
  (fun K => codeAtB (He.ga K "_law_is_let") 326 K),
  (fun K => decide (tabsK K = tabL)),
  (fun K => decide (PySem.W.exmOne K (.ref aC_BadTongue) (.ref aC_MetreError) = some true)),
  propB aC_Tongue "text",
  faB (.glo "_law_is_let"),
  (fun K => codeAtB (He.ga K "_law_is_refused") 319 K),
  eiB aC_BadTongue,
  (fun K => decide (PySem.W.kitOne K (.ref aC_BadTongue) (.ref aC_BadTongue) = some true)),
  (fun K => decide (PySem.W.kitOne K (.type "NoneType") (.ref aC_BadTongue) = some false)),
  faB (.free "repr"),
  faB (.glo "_law_is_refused"),
  faB (.glo "_law_right"),
  faB (.free "abs"),
  faB (.glo "_law_pot"),
  xiB PySem.Challenge.pw_lostmetres_k03_bounds_of_texts aC_MetreError,
  cellB 18 aC_MetreError,
  xiKB aC_MetreError,
  bltB,
  codeHdB 319 315,
  codeHdB 326 322,
  faB (.glo "law")]
def fns : List He5.DefA := [⟨fun K => He.ga K "_law_places", "_law_places", "_law_places", defArgs s__law_places, defBody s__law_places, defScope s__law_places, [], []⟩,
  ⟨fun K => He.ga K "_law_take", "_law_take", "_law_take", defArgs s__law_take, defBody s__law_take, defScope s__law_take, [], []⟩,
  ⟨fun K => He.ga K "_law_some", "_law_some", "_law_some", defArgs s__law_some, defBody s__law_some, defScope s__law_some, [], []⟩,
  ⟨fun K => He.ga K "_law_names", "_law_names", "_law_names", defArgs s__law_names, defBody s__law_names, defScope s__law_names, [], []⟩,
  ⟨fun K => He.ma K aC_Reading "__init__", "__init__", "Reading.__init__", defArgs s_ReadingD_initD, defBody s_ReadingD_initD, defScope s_ReadingD_initD, [], []⟩,
  ⟨fun K => He.ga K "is_made_of", "is_made_of", "is_made_of", defArgs s_is_made_of, defBody s_is_made_of, defScope s_is_made_of, [], []⟩,
  ⟨fun K => He.ga K "is_name", "is_name", "is_name", defArgs s_is_name, defBody s_is_name, defScope s_is_name, [], []⟩,
  ⟨fun K => He.ma K aC_Reading "take_word", "take_word", "Reading.take_word", defArgs s_Reading_take_word, defBody s_Reading_take_word, defScope s_Reading_take_word, [], []⟩,
  ⟨fun K => He.ma K aC_Reading "take_joint", "take_joint", "Reading.take_joint", defArgs s_Reading_take_joint, defBody s_Reading_take_joint, defScope s_Reading_take_joint, [], []⟩,
  ⟨fun K => He.ga K "forms_in", "forms_in", "forms_in", defArgs s_forms_in, defBody s_forms_in, defScope s_forms_in, [], []⟩,
  ⟨fun K => He.ga K "parts_in", "parts_in", "parts_in", defArgs s_parts_in, defBody s_parts_in, defScope s_parts_in, [], []⟩,
  ⟨fun K => He.ga K "metre_parts", "metre_parts", "metre_parts", defArgs s_metre_parts, defBody s_metre_parts, defScope s_metre_parts, [], []⟩,
  ⟨fun K => He.ma K aC_Reading "take_metre", "take_metre", "Reading.take_metre", defArgs s_Reading_take_metre, defBody s_Reading_take_metre, defScope s_Reading_take_metre, [], []⟩,
  ⟨fun K => He.ma K aC_Reading "take", "take", "Reading.take", defArgs s_Reading_take, defBody s_Reading_take, defScope s_Reading_take, [], []⟩,
  ⟨fun K => He.ga K "read_lines", "read_lines", "read_lines", defArgs s_read_lines, defBody s_read_lines, defScope s_read_lines, [], []⟩,
  ⟨fun K => He.ma K aC_Tongue "__init__", "__init__", "Tongue.__init__", defArgs s_TongueD_initD, defBody s_TongueD_initD, defScope s_TongueD_initD, [], []⟩,
  ⟨fun K => getterOf K aC_Tongue "text", "text", "Tongue.text", defArgs s_Tongue_text, defBody s_Tongue_text, defScope s_Tongue_text, [], []⟩,
  ⟨fun K => He.ga K "_law_is_let", "_law_is_let", "_law_is_let", defArgs s__law_is_let, defBody s__law_is_let, defScope s__law_is_let, [], []⟩,
  ⟨fun K => He.ga K "_law_is_refused", "_law_is_refused", "_law_is_refused", defArgs s__law_is_refused, defBody s__law_is_refused, defScope s__law_is_refused, [], []⟩,
  ⟨fun K => He.ga K "_law_right", "_law_right", "_law_right", defArgs s__law_right, defBody s__law_right, defScope s__law_right, [], []⟩,
  ⟨fun K => He.ga K "_law_pot", "_law_pot", "_law_pot", defArgs s__law_pot, defBody s__law_pot, defScope s__law_pot, [], []⟩,
  ⟨fun K => He.ga K "law", "law", "law", defArgs s_law, defBody s_law, defScope s_law, [], []⟩,
  ⟨fun K => He.ga K "_law_told", "_law_told", "_law_told", defArgs s__law_told, defBody s__law_told, defScope s__law_told, [], []⟩]
end G
namespace G
open PySem PySem.W PySem.Calls PyProof.Rows DL
abbrev R : OpenRow := OpenLaw.row PySem.Challenge.rw_lostmetres_k03_bounds_of_texts
abbrev qv : Program := view R.prog [56]
def names0 : List PySem.Str := ["MetreError", "BadTongue", "NoWord", "NoMetre", "LETTERS", "FIGURES", "BLANK", "FEED", "MOST_SIGNS", "LONG", "SHORT", "UNKNOWN", "EITHER", "is_word", "is_made_of", "is_name", "WORD", "JOINT", "METRE", "DROP", "MAY", "STRETCH", "ENDS", "AMID", "SLASH", "STAR", "MOST_WORDS", "MOST_SYLLABLES", "MOST_UNKNOWN", "MOST_JOINTS"]
def names1 : List PySem.Str := ["MOST_METRES", "MOST_PARTS", "MOST_DRAWN_OUT", "MOST_FORMS", "WORD_SIZE", "JOINT_SIZE", "METRE_SIZE", "forms_in", "parts_in", "metre_parts", "Reading", "read_lines", "Tongue", "_law_pot", "_law_take", "_law_some", "_law_places", "_law_told", "_law_names", "_law_is_refused", "_law_is_let", "_law_right"]
def names : List PySem.Str := names0 ++ names1
def adrs : List Addr := (List.range 338).filter fun a => !tbs.contains a
theorem run (w : World) : HandSHeadRun.RunEq R qv (hookT tbs xfs adrs exs fns) (obT tbs xfs adrs exs fns) 8000 names w := by
  intro os
  kernel_rfl
end G
namespace DL
open PySem PySem.Spec PyProof.Rows L2
section
variable {ν : Nu} {n : Nat}
/-- what is reckoned with letters, an exception too, is so of the names -/
def SX {α : Type} (ν : Nu) (g : α → α) (x y : Rz α) : Prop := (∀ a μ, x = .ok a μ → y = .ok (g a) (gM ν μ)) ∧ ∀ C v μ, x = .err C v μ → y = .err C (gP ν v) (gM ν μ)
theorem SX.ok {α : Type} {g : α → α} {a : α} {μ : Sto} {y : Rz α} (h : y = .ok (g a) (gM ν μ)) : SX ν g (.ok a μ) y := ⟨fun _ _ e => (by cases e; exact h), fun _ _ _ e => (nomatch e)⟩
theorem SX.bad {α : Type} {g : α → α} {y : Rz α} : SX ν g .bad y := ⟨fun _ _ e => (nomatch e), fun _ _ _ e => (nomatch e)⟩
theorem SX.err {α : Type} {g : α → α} {y : Rz α} {C : Addr} {v : PV} {μ : Sto} (h : y = .err C (gP ν v) (gM ν μ)) : SX ν g (.err C v μ) y := ⟨fun _ _ e => (nomatch e), fun _ _ _ e => (by cases e; exact h)⟩
theorem SX.bind {α β : Type} {ga : α → α} {gb : β → β} {x y : Rz α} {f f' : α → Sto → Rz β} (h : SX ν ga x y) (hf : ∀ a μ, SX ν gb (f a μ) (f' (ga a) (gM ν μ))) : SX ν gb (x.bind f) (y.bind f') := by
  cases x with
  | ok a μ => rw [h.1 a μ rfl]; exact hf a μ
  | err C v μ => rw [h.2 C v μ rfl]; exact SX.err rfl
  | bad => exact SX.bad
theorem SX.calm {α : Type} {g : α → α} {x y : Rz α} (h : SG ν g x y) : SX ν g (calmR x) (calmR y) := by
  cases x with
  | ok a μ => rw [h a μ rfl]; exact SX.ok rfl
  | err C v μ => exact SX.bad
  | bad => exact SX.bad
theorem SX.ite {α : Type} {g : α → α} {c : Prop} [Decidable c] {x y x' y' : Rz α} (h1 : SX ν g x x') (h2 : SX ν g y y') : SX ν g (if c then x else y) (if c then x' else y') := by
  by_cases k : c
  · rw [if_pos k, if_pos k]; exact h1
  · rw [if_neg k, if_neg k]; exact h2
abbrev QXE (ν : Nu) (d' d : DE) : Prop := ∀ η μ, SX ν (gP ν) (d' η μ) (d (gE ν η) (gM ν μ))
abbrev QXA (ν : Nu) (d' d : DA) : Prop := ∀ η μ, SX ν (gPs ν) (d' η μ) (d (gE ν η) (gM ν μ))
abbrev QXT (ν : Nu) (d' d : DT) : Prop := ∀ η μ, SX ν id (d' η μ) (d (gE ν η) (gM ν μ))
abbrev QXF (ν : Nu) (f' f : VF) : Prop := ∀ ps μ, SX ν (gP ν) (f' ps μ) (f (gPs ν ps) (gM ν μ))
abbrev QXS (ν : Nu) (s' s : DS) : Prop := ∀ η μ, SX ν (gOut ν) (s' η μ) (s (gE ν η) (gM ν μ))
def QXI (ν : Nu) (d' d : DI) : Prop := QI ν d' d ∧ ∀ η μ C v μ', d' η μ ≠ .err C v μ'
theorem qxPureE {d d' : DE} (h : QE ν d d') : QXE ν (dPure d) (dPure d') := fun η μ => SX.calm (h η μ)
theorem qxPureT {d d' : DT} (h : QT ν d d') : QXT ν (tPure d) (tPure d') := fun η μ => SX.calm (h η μ)
theorem qxPureS {d d' : DS} (h : QS ν d d') : QXS ν (sPure d) (sPure d') := fun η μ => SX.calm (h η μ)
theorem qPure {d d' : DE} (h : QE ν d d') : QE ν (dPure d) (dPure d') := fun η μ => (SX.calm (h η μ)).1
theorem qxNil : QXA ν dNil dNil := fun η μ => SX.ok (by rw [gPs]; rfl)
theorem qxCons {d d' : DE} {ds ds' : DA} (h1 : QXE ν d d') (h2 : QXA ν ds ds') : QXA ν (dCons d ds) (dCons d' ds') := fun η μ => SX.bind (h1 η μ) fun p μ1 => SX.bind (h2 η μ1) fun ps μ2 => SX.ok (by rw [gPs])
theorem qxApp {f f' : VF} {ds ds' : DA} (h1 : QXF ν f f') (h2 : QXA ν ds ds') : QXE ν (dApp f ds) (dApp f' ds') := fun η μ => SX.bind (h2 η μ) fun ps μ1 => h1 ps μ1
theorem qxsNil : QXS ν sNil sNil := fun η μ => SX.ok rfl
theorem qxsSeq {a a' b b' : DS} (h1 : QXS ν a a') (h2 : QXS ν b b') : QXS ν (sSeq a b) (sSeq a' b') := fun η μ => SX.bind (h1 η μ) fun o μ1 => by
  obtain ⟨o, η1⟩ := o
  cases o with
  | nx => exact h2 η1 μ1
  | rt v => exact SX.ok rfl
  | bk => exact SX.ok rfl
  | ct => exact SX.ok rfl
theorem qxsIf {c c' : DT} {a a' b b' : DS} (hc : QXT ν c c') (ha : QXS ν a a') (hb : QXS ν b b') : QXS ν (sIf c a b) (sIf c' a' b') := fun η μ => SX.bind (hc η μ) fun k μ1 => SX.ite (c := k = true) (ha η μ1) (hb η μ1)
theorem qxsRaise {C : Addr} {d d' : DE} (h : QXE ν d d') : QXS ν (sRaise C d) (sRaise C d') := fun η μ => SX.bind (h η μ) fun p μ1 => SX.err rfl
theorem qxsSet {d d' : DE} {i : Nat} (h : QXE ν d d') : QXS ν (sAsg d (gSet i)) (sAsg d' (gSet i)) := fun η μ => SX.bind (h η μ) fun p μ1 => SX.ok (by
  show _ = Rz.ok (gOut ν (Out.nx, η.set i (some p))) _
  unfold gOut
  simp only [gE_set]
  rfl)
theorem qx_forGo {gd gd' : Sto → Bool} {i : Nat} {g g' : DG} {body body' : DS} (hgd : ∀ μ, gd μ = true → gd' (gM ν μ) = true) (hg : QG ν g g') (hn : ∀ p η μ C v μ', g p η μ ≠ .err C v μ') (hb : QXS ν body body') : ∀ (its : List PV) (η : Env') (μ : Sto), SX ν (gOut ν) (forGo gd g body its η μ) (forGo gd' g' body' (gPs ν its) (gE ν η) (gM ν μ))
  | [], η, μ => by
    rw [gPs]
    unfold forGo
    by_cases h : gd μ = true
    · rw [if_pos h, if_pos (hgd μ h)]; exact SX.ok rfl
    · rw [if_neg h]; exact SX.bad
  | p :: r, η, μ => by
    rw [gPs]
    unfold forGo
    by_cases h : gd μ = true
    · rw [if_pos h, if_pos (hgd μ h)]
      refine SX.bind ⟨hg p η μ, fun C v μ' e => absurd e (hn _ _ _ _ _ _)⟩ fun η1 μ1 => SX.bind (hb η1 μ1) fun o μ2 => ?_
      obtain ⟨o, η2⟩ := o
      cases o with
      | nx => exact qx_forGo (i := i) hgd hg hn hb r η2 μ2
      | ct => exact qx_forGo (i := i) hgd hg hn hb r η2 μ2
      | bk => exact SX.ok rfl
      | rt v => exact SX.ok rfl
    · rw [if_neg h]; exact SX.bad
theorem qxsFor {di di' : DI} {g g' : DG} {body body' : DS} (hi : QXI ν di di') (hg : QG ν g g') (hn : ∀ p η μ C v μ', g p η μ ≠ .err C v μ') (hb : QXS ν body body') : QXS ν (sFor di g body) (sFor di' g' body') := fun η μ => by
  unfold sFor
  cases e : di η μ with
  | bad => exact SX.bad
  | err C v μ' => exact absurd e (hi.2 _ _ _ _ _)
  | ok a μ1 =>
    obtain ⟨its, gd⟩ := a
    obtain ⟨gd', e2, h2⟩ := hi.1 η μ its gd μ1 e
    rw [e2]
    exact qx_forGo (i := 0) h2 hg hn hb its η μ1
theorem qxEnum {d d' : DE} (h : QE ν d d') : QXI ν (dEnumG (dPure d)) (dEnum (dPure d')) := ⟨qEnum (qPure h), fun η μ C v μ' e => by
  unfold dEnumG dPure at e
  cases q : d η μ with
  | ok p μ1 =>
    rw [q] at e
    have e : (match srcG p μ1 with | some x => _ | none => Rz.bad) = _ := e
    split at e <;> cases e
  | err C v μ1 => rw [q] at e; cases e
  | bad => rw [q] at e; cases e⟩
theorem ne_gSet {i : Nat} : ∀ p η μ C v μ', gSet i p η μ ≠ .err C v μ' := fun p η μ C v μ' e => by cases e
theorem ne_gNil : ∀ ps η μ C v μ', gNil' ps η μ ≠ .err C v μ' := fun ps η μ C v μ' e => by
  unfold gNil' at e
  split at e <;> cases e
theorem ne_gCons {g : DG} {gs : List PV → Env' → Sto → Rz Env'} (h1 : ∀ p η μ C v μ', g p η μ ≠ .err C v μ') (h2 : ∀ ps η μ C v μ', gs ps η μ ≠ .err C v μ') : ∀ ps η μ C v μ', gCons' g gs ps η μ ≠ .err C v μ' := fun ps η μ C v μ' e => by
  unfold gCons' at e
  split at e
  · rename_i p r
    cases q : g p η μ with
    | ok a μ1 => rw [q] at e; exact h2 _ _ _ _ _ _ e
    | err C1 v1 μ1 => exact h1 _ _ _ _ _ _ q
    | bad => rw [q] at e; cases e
  · cases e
theorem ne_gTup {n : Nat} {gs : List PV → Env' → Sto → Rz Env'} (h2 : ∀ ps η μ C v μ', gs ps η μ ≠ .err C v μ') : ∀ p η μ C v μ', gTupA n gs p η μ ≠ .err C v μ' := fun p η μ C v μ' e => by
  unfold gTupA at e
  split at e
  · split at e
    · exact h2 _ _ _ _ _ _ e
    · cases e
  · cases e
theorem qxBody {np n : Nat} {s s' : DS} (h : QXS ν s s') : QXF ν (fnBody np n s) (fnBody np n s') := fun ps μ => by
  unfold fnBody
  rw [gPs_len]
  refine SX.ite ?_ SX.bad
  have e : (gPs ν ps).map some ++ List.replicate (n - np) none = gE ν (ps.map some ++ List.replicate (n - np) none) := by
    simp [gE, gPs_map]
  rw [e]
  refine SX.bind (h _ μ) fun o μ1 => ?_
  obtain ⟨o, η1⟩ := o
  cases o with
  | rt v => exact SX.ok rfl
  | nx => exact SX.ok (by rw [gP]; rfl)
  | _ => exact SX.bad
theorem qxMake {C : Addr} {f f' : VF} (hf : QXF ν f f') : QXF ν (vMake C f) (vMake C f') := fun ps μ => by
  unfold vMake
  refine SX.bind (ga := gP ν) ?_ fun r μ1 => ?_
  · have := hf (.ref μ.length :: ps) (μ ++ [.ins C []])
    rw [gPs, gP, gM_app, gO, gF] at this
    rw [gM_len]
    exact this
  · cases r with
    | non => rw [gP, gM_len]; exact SX.ok (by rw [gP])
    | _ => exact SX.bad
/-- what is told of a reckoning that may raise -/
theorem qTold {L : List Addr} {d d' : DE} (h : QXE ν d d') : QE ν (dTold L d) (dTold L d') := fun η μ => by
  unfold dTold
  obtain ⟨h1, h2⟩ := h η μ
  cases e : d η μ with
  | bad => exact SG.bad
  | ok p μ1 =>
    rw [h1 p μ1 e]
    exact SG.ok (by simp only [toldR, gP, gPs])
  | err C v μ1 =>
    rw [h2 C v μ1 e]
    show SG ν (gP ν) (if C ∈ L then _ else _) (if C ∈ L then _ else _)
    exact SG.ite Iff.rfl (fun _ => SG.ok (by simp only [gP, gPs])) fun _ => SG.bad
theorem q_vXval {L : List Addr} : QF ν (vXval L) (vXval L) := fun ps μ a μ' e => by
  unfold vXval at e
  split at e
  · rename_i C p
    rw [gPs, gPs, gP]
    show (if C ∈ L then _ else _) = _
    by_cases c : C ∈ L
    · rw [if_pos c] at e
      cases e
      rw [if_pos c]
    · rw [if_neg c] at e
      cases e
  · cases e
/-- a text with one letter in it -/
theorem qCx {j k : Nat} (h : ν j = [k]) {a b : List Nat} {x : Str} (ha : okN a = true) (hb : okN b = true) (e : x = ⟨⟨a ++ k :: b⟩⟩) : QE ν (dC (.str ⟨⟨a ++ (lim + j) :: b⟩⟩)) (dC (.str x)) := qC (by
  subst e
  have hc : ¬ lim + j < lim := by unfold lim; omega
  have hs : lim + j - lim = j := by omega
  have e1 : gN ν (a ++ (lim + j) :: b) = a ++ k :: b := by
    rw [gN_app, gN_pure a ha]
    show a ++ (gC ν (lim + j) ++ gN ν b) = _
    rw [gN_pure b hb]
    unfold gC
    rw [if_neg hc, hs, h]
    rfl
  rw [gP]
  show PV.str ⟨⟨gN ν (a ++ (lim + j) :: b)⟩⟩ = _
  rw [e1])
theorem gN_join {s : List Nat} (hs : okN s = true) : ∀ l : List (List Nat), gN ν (TL.joinL s l) = TL.joinL s (l.map (gN ν))
  | [] => by simp [TL.joinL, gN]
  | [x] => by simp [TL.joinL]
  | x :: y :: r => by
    have ih := gN_join hs (y :: r)
    simp only [List.map_cons] at ih ⊢
    simp only [TL.joinL, gN_app, gN_pure s hs] at ih ⊢
    rw [ih]
theorem gTx_join {a : Str} (ha : okS a = true) (ys : List Str) : gTx ν (Txt.join a ys) = Txt.join a (ys.map (gTx ν)) := by
  have e1 : ys = (ys.map fun y : Str => y.cps.toList).map TX := by
    rw [List.map_map]
    exact ((List.map_congr_left fun x _ => rfl).trans (List.map_id ys)).symm
  have e2 : ys.map (gTx ν) = ((ys.map fun y : Str => y.cps.toList).map (gN ν)).map TX := by
    rw [List.map_map, List.map_map]
    exact List.map_congr_left fun x _ => rfl
  have e3 : a = TX a.cps.toList := rfl
  rw [e2, e3]
  conv => lhs; rw [e1]
  rw [joinT, joinT, ← gN_join ha]
  rfl
noncomputable def vJoinL : VF := fun xs μ => match xs with
  | [.str a, p] => match (items p μ).bind strsL with
    | some ys => if okS a = true ∧ 8 * (ys.map fun y : Str => y.length).sum + ys.length * a.length ≤ 16777216 then .ok (.str (Txt.join a ys)) μ else .bad
    | none => .bad
  | _ => .bad
theorem sum_g (N : Nam ν n) : ∀ ys : List Str, ((ys.map (gTx ν)).map fun y : Str => y.length).sum ≤ 8 * (ys.map fun y : Str => y.length).sum
  | [] => by simp
  | y :: r => by
    have := sum_g N r
    have := gTx_len N y
    simp only [List.map_cons, List.sum_cons]
    omega
theorem q_vJoinL (N : Nam ν n) : QF ν vJoinL vJoin := fun ps μ a μ' e => by
  unfold vJoinL at e
  split at e
  · rename_i x p
    split at e
    · rename_i ys hy
      split at e
      · rename_i c
        obtain ⟨c1, c2⟩ := c
        obtain ⟨qs, h1, h2⟩ := Option.bind_eq_some_iff.mp hy
        simp only [gPs, gP, gTx_pure c1]
        show (match (items (gP ν p) (gM ν μ)).bind strsL with | some ys => if (ys.map fun y : Str => y.length).sum + ys.length * x.length ≤ 16777216 then Rz.ok (PV.str (Txt.join x ys)) (gM ν μ) else .bad | none => .bad) = _
        rw [gItems, h1]
        have e9 : (Option.map (gPs ν) (some qs)).bind strsL = some (ys.map (gTx ν)) := by
          show strsL (gPs ν qs) = some _
          rw [strs_g h2]
        rw [e9]
        have sg := sum_g N ys
        show (if ((ys.map (gTx ν)).map fun y : Str => y.length).sum + (ys.map (gTx ν)).length * x.length ≤ 16777216 then Rz.ok (PV.str (Txt.join x (ys.map (gTx ν)))) (gM ν μ) else .bad) = _
        rw [if_pos (by rw [List.length_map]; omega)]
        cases e
        rw [gP, gTx_join c1]
      · cases e
    · cases e
  · cases e
noncomputable def vReprX : VF := fun xs μ => match xs with
  | [.int z] => match vRepr [.int z] [] with
    | .ok (.str y) _ => match okS y with
      | true => .ok (.str y) μ
      | false => .bad
    | _ => .bad
  | _ => vReprG xs μ
theorem q_vReprX : QF ν vReprX vRepr := fun ps μ a μ' e => by
  unfold vReprX at e
  split at e
  · rename_i z
    split at e
    · rename_i y μ2 h
      split at e
      · rename_i c
        cases e
        simp only [gPs, gP, gTx_pure c]
        have h : (if z.natAbs.log2 < 1920 then Rz.ok (PV.str (toString z : String)) [] else .bad) = .ok (.str y) μ2 := h
        show (if z.natAbs.log2 < 1920 then Rz.ok (PV.str (toString z : String)) (gM ν μ) else .bad) = _
        by_cases k : z.natAbs.log2 < 1920
        · rw [if_pos k] at h ⊢
          cases h
          rfl
        · rw [if_neg k] at h
          cases h
      · cases e
    · cases e
  · exact q_vRepr ps μ a μ' e
end
end DL
namespace DL
open PySem PySem.Spec PyProof.Rows L2
/-- the list that was given, behind the call -/
noncomputable def awayBack (i : Nat) (μ : Sto) (p : PV) (o : Option MObj) : Rz PV := match o with
  | some (.lst qs) => if bareL qs = true ∧ bareP p = true then .ok p (μ.set i (.lst qs)) else .bad
  | _ => .bad
noncomputable def awayAt (F : VF) (i : Nat) (rest : List PV) (μ : Sto) (o : Option MObj) : Rz PV := match o with
  | some (.lst ps) => if bareL ps = true ∧ bareL rest = true then match F (.ref 0 :: rest) [.lst ps] with
      | .ok p μ' => awayBack i μ p (nth μ' 0)
      | _ => .bad
    else .bad
  | _ => .bad
noncomputable def vAway (F : VF) : VF := fun xs μ => match xs with
  | .ref i :: rest => awayAt F i rest μ (nth μ i)
  | _ => .bad
section
variable {P : Program} {w : World} {K : PySem.W.Frag}
theorem away_of {F : VF} {vs : List V} {H : Hp} {Q : VK} (h : rL P w K EW0 (vAway F) vs H Q) : rL P w K EW0 F vs H Q := by
  obtain ⟨ρ, μ, ps, r, t, h⟩ := h
  unfold vAway at h
  split at h
  · rename_i i rest
    cases r with
    | cons r1 r2 =>
    cases r1 with
    | ref hi =>
    rename_i a
    unfold awayAt at h
    split at h
    · rename_i o ps eo
      split at h
      · rename_i c
        obtain ⟨c1, c2⟩ := c
        rw [nth_eq] at eo
        have am : a ∈ ρ := List.mem_of_getElem? hi
        obtain ⟨ws, ea, rs⟩ := t.obj i a _ hi eo
        refine ⟨[a], [.lst ps], .ref 0 :: rest, .cons (.ref rfl) (bare_rvs c2 r2), ⟨rfl, by simp, fun j b o' hj ho => ?_, fun p hp => (t.tab p hp).sub fun x hx => by rw [List.mem_singleton.mp hx]; exact am⟩, ?_⟩
        · match j, hj, ho with
          | 0, hj, ho =>
            cases hj
            cases ho
            exact ⟨ws, ea, bare_rvs c1 rs⟩
          | j + 1, hj, ho => simp at hj
        · cases e : F (.ref 0 :: rest) [.lst ps] with
          | ok p μ' =>
            rw [e] at h
            have h : Post P w K EW0 ρ H (awayBack i μ p (nth μ' 0)) (RV K) Q := h
            unfold awayBack at h
            split at h
            · rename_i o2 qs eq
              split at h
              · rename_i c3
                obtain ⟨c3, c4⟩ := c3
                rw [nth_eq] at eq
                intro ρ' x H' st rx t'
                obtain ⟨more, em, _⟩ := st.ext
                have h0 : ρ'[0]? = some a := by rw [em]; rfl
                obtain ⟨us, eu, ru⟩ := t'.obj 0 a _ h0 eq
                have kept : ∀ b ∈ ρ, b ≠ a → ∀ u, H b = some u → H' b = some u := fun b hb hne u e => by
                  obtain ⟨u2, e2, n⟩ := t.nc hb
                  rw [e] at e2
                  cases e2
                  exact st.keep b u e (by simpa using hne) n.2
                have nc : ∀ b ∈ ρ, ∃ u, H' b = some u ∧ NC b u := fun b hb => by
                  by_cases hne : b = a
                  · subst hne
                    exact t'.nc (List.mem_of_getElem? h0)
                  · obtain ⟨u, e, n⟩ := t.nc hb
                    exact ⟨u, kept b hb hne u e, n⟩
                have st2 : Step K ρ H ρ H' := ⟨⟨[], (List.append_nil ρ).symm, fun _ h => by cases h⟩, fun b o e hb n => st.keep b o e (fun z => hb (by rw [List.mem_singleton.mp z]; exact am)) n, st.tup, st.live, st.dct, st.fz, fun p hp h => (st.tbl p hp (h.sub fun x hx => by rw [List.mem_singleton.mp hx]; exact am)).renum nc⟩
                refine h ρ x H' st2 (bare_rv c4 rx) ⟨by rw [List.length_set]; exact t.len, t.nd, fun j b o' hj ho => ?_, fun p hp => st2.tbl _ hp (t.tab p hp)⟩
                by_cases hji : j = i
                · subst hji
                  rw [List.getElem?_set_self (by rw [t.len]; exact (List.getElem?_eq_some_iff.mp hi).1)] at ho
                  cases ho
                  rw [hi] at hj
                  cases hj
                  exact ⟨us, eu, bare_rvs c3 ru⟩
                · rw [List.getElem?_set_ne (Ne.symm hji)] at ho
                  refine (t.obj j b o' hj ho).step st2.grow (kept b (List.mem_of_getElem? hj) fun z => hji ?_)
                  subst z
                  have l1 := (List.getElem?_eq_some_iff.mp hj)
                  have l2 := (List.getElem?_eq_some_iff.mp hi)
                  obtain ⟨l1, q1⟩ := l1
                  obtain ⟨l2, q2⟩ := l2
                  exact (List.getElem_inj t.nd).mp (q1.trans q2.symm)
              · exact h.elim
            · exact h.elim
          | err C v μ' => rw [e] at h; exact h.elim
          | bad => rw [e] at h; exact h.elim
      · exact h.elim
    · exact h.elim
  · exact h.elim
theorem away_ar {n : Nat} {F : VF} (a : Ar n F) : Ar n (vAway F) := fun ps μ h => by
  unfold vAway
  split
  · rename_i i rest
    unfold awayAt
    split
    · rw [a (.ref 0 :: rest) _ (by simpa using h)]
      split <;> rfl
    · rfl
  · rfl
variable {mg : Str → Option Value} {base : Heap} {k : Nat} {f : Addr} {ps : List Str}
theorem Has.away {F : VF} (h : Has P w K mg base k f ps F) : Has P w K mg base k f ps (vAway F) :=
  let ⟨⟨fd, b, G⟩, kp, ar⟩ := h
  ⟨⟨fd, b, G.imp fun vs H Q E h => ⟨h.1, away_of h.2⟩⟩, kp, away_ar ar⟩
theorem HasG.away {F : VF} (h : HasG P w K mg base k f ps F) : HasG P w K mg base k f ps (vAway F) :=
  let ⟨⟨fd, b, G⟩, kp, ar⟩ := h
  ⟨⟨fd, b, ⟨fun vs H Q E h => h.1, fun A outer s H args us vs Q E a b c d e z => G.run A outer s H args us vs Q E a b c d e ⟨z.1, away_of z.2⟩⟩⟩, kp, away_ar ar⟩
end
section
variable {ν : Nu}
theorem nth_gM (μ : Sto) (i : Nat) : nth (gM ν μ) i = (nth μ i).map (gO ν) := by rw [nth_eq, nth_eq, gM_get]
theorem qAway {f f' : VF} (hf : QF ν f f') : QF ν (vAway f) (vAway f') := fun ps μ a μ' e => by
  unfold vAway at e
  split at e
  · rename_i i rest
    unfold awayAt at e
    split at e
    · rename_i ps2 eo
      split at e
      · rename_i c
        split at e
        · rename_i p μ1 h
          unfold awayBack at e
          split at e
          · rename_i qs eq
            split at e
            · rename_i c3
              cases e
              have h2 := hf _ _ _ _ h
              simp only [gPs, gP]
              show awayAt f' i (gPs ν rest) (gM ν μ) (nth (gM ν μ) i) = _
              rw [nth_gM, eo]
              show (if bareL (gPs ν ps2) = true ∧ bareL (gPs ν rest) = true then match f' (.ref 0 :: gPs ν rest) [.lst (gPs ν ps2)] with | .ok p μ' => awayBack i (gM ν μ) p (nth μ' 0) | _ => .bad else .bad) = _
              rw [if_pos ⟨bareL_g c.1, bareL_g c.2⟩]
              have h3 : f' (.ref 0 :: gPs ν rest) [.lst (gPs ν ps2)] = .ok (gP ν a) (gM ν μ1) := by
                simp only [gPs, gP] at h2
                exact h2
              rw [h3]
              show awayBack i (gM ν μ) (gP ν a) (nth (gM ν μ1) 0) = _
              rw [nth_gM, eq]
              show (if bareL (gPs ν qs) = true ∧ bareP (gP ν a) = true then Rz.ok (gP ν a) ((gM ν μ).set i (.lst (gPs ν qs))) else .bad) = _
              rw [if_pos ⟨bareL_g c3.1, bare_g _ c3.2⟩, gM_set]
              rfl
            · cases e
          · cases e
        · cases e
      · cases e
    · cases e
  · cases e
end
theorem away_at {F : VF} {i : Nat} {rest : List PV} {μ : Sto} {ps qs : List PV} {p : PV} (h : vAway F (.ref 0 :: rest) [.lst ps] = Rz.ok p [.lst qs]) (hi : μ[i]? = some (.lst ps)) : vAway F (.ref i :: rest) μ = .ok p (μ.set i (.lst qs)) := by
  have h : (if bareL ps = true ∧ bareL rest = true then match F (.ref 0 :: rest) [.lst ps] with | .ok p μ' => awayBack 0 [.lst ps] p (nth μ' 0) | _ => .bad else .bad) = Rz.ok p [.lst qs] := h
  show awayAt F i rest μ (nth μ i) = _
  rw [nth_eq, hi]
  show (if bareL ps = true ∧ bareL rest = true then match F (.ref 0 :: rest) [.lst ps] with | .ok p μ' => awayBack i μ p (nth μ' 0) | _ => .bad else .bad) = _
  by_cases c : bareL ps = true ∧ bareL rest = true
  · rw [if_pos c] at h ⊢
    cases e : F (.ref 0 :: rest) [.lst ps] with
    | ok p1 μ1 =>
      rw [e] at h
      have h : awayBack 0 [.lst ps] p1 (nth μ1 0) = Rz.ok p [.lst qs] := h
      show awayBack i μ p1 (nth μ1 0) = _
      unfold awayBack at h ⊢
      split at h
      · rename_i qs2 eq
        split at h
        · rename_i c3
          have h : Rz.ok p1 [MObj.lst qs2] = Rz.ok p [.lst qs] := h
          cases h
          exact if_pos c3
        · cases h
      · cases h
    | err C v μ1 => rw [e] at h; cases h
    | bad => rw [e] at h; cases h
  · rw [if_neg c] at h
    cases h
noncomputable def vAwayF (F : VF) : VF := fmut (vAway F)
theorem vAwayF_eq : vAwayF = vAway := by
  funext F
  unfold vAwayF
  rw [fmut_eq]
end DL
namespace G
open PySem PySem.Spec PyProof.Rows L2 DL
structure Fx (K : PySem.W.Frag) (mg : Str → Option Value) : Prop where
  n_len : mg "len" = none
  n_min : mg "min" = none
  n_max : mg "max" = none
  n_list : mg "list" = none
  n_range : mg "range" = none
  g__law_places : mg "_law_places" = some (.ref (He.ga K "_law_places"))
  n_int : mg "int" = none
  g__law_take : mg "_law_take" = some (.ref (He.ga K "_law_take"))
  g__law_some : mg "_law_some" = some (.ref (He.ga K "_law_some"))
  g__law_names : mg "_law_names" = some (.ref (He.ga K "_law_names"))
  n_isinstance : mg "isinstance" = none
  n_str : mg "str" = none
  xc_BadTongue : XiCls K aC_MetreError (He.ma K aC_MetreError "__init__") aC_BadTongue
  g_BadTongue : mg "BadTongue" = some (.ref aC_BadTongue)
  s_FEED : ∃ u, mg "FEED" = some u ∧ RelV (.str "\n") u
  c_Reading : Cls K aC_Reading
  na_Reading_named_words : NoAttr K aC_Reading "named_words"
  na_Reading_named_joints : NoAttr K aC_Reading "named_joints"
  na_Reading_named_metres : NoAttr K aC_Reading "named_metres"
  mk_Reading : Mk K aC_Reading (He.ma K aC_Reading "__init__")
  g_Reading : mg "Reading" = some (.ref aC_Reading)
  n_enumerate : mg "enumerate" = none
  s_BLANK : ∃ u, mg "BLANK" = some u ∧ RelV (.str " ") u
  s_WORD : ∃ u, mg "WORD" = some u ∧ RelV (.str "word") u
  i_WORD_SIZE : ∃ u, mg "WORD_SIZE" = some u ∧ RelV (.int 5) u
  i_MOST_WORDS : ∃ u, mg "MOST_WORDS" = some u ∧ RelV (.int 6) u
  i_MOST_SIGNS : ∃ u, mg "MOST_SIGNS" = some u ∧ RelV (.int 8) u
  n_all : mg "all" = none
  g_is_made_of : mg "is_made_of" = some (.ref (He.ga K "is_made_of"))
  s_LETTERS : ∃ u, mg "LETTERS" = some u ∧ RelV (.str "abcdefghijklmnopqrstuvwxyz") u
  g_is_name : mg "is_name" = some (.ref (He.ga K "is_name"))
  n_tuple : mg "tuple" = none
  s_LONG : ∃ u, mg "LONG" = some u ∧ RelV (.str "-") u
  s_SHORT : ∃ u, mg "SHORT" = some u ∧ RelV (.str "u") u
  s_UNKNOWN : ∃ u, mg "UNKNOWN" = some u ∧ RelV (.str "?") u
  i_MOST_SYLLABLES : ∃ u, mg "MOST_SYLLABLES" = some u ∧ RelV (.int 4) u
  n_sum : mg "sum" = none
  i_MOST_UNKNOWN : ∃ u, mg "MOST_UNKNOWN" = some u ∧ RelV (.int 6) u
  m_Reading_take_word : Meth K aC_Reading "take_word" (He.ma K aC_Reading "take_word")
  s_JOINT : ∃ u, mg "JOINT" = some u ∧ RelV (.str "joint") u
  i_JOINT_SIZE : ∃ u, mg "JOINT_SIZE" = some u ∧ RelV (.int 4) u
  i_MOST_JOINTS : ∃ u, mg "MOST_JOINTS" = some u ∧ RelV (.int 9) u
  s_DROP : ∃ u, mg "DROP" = some u ∧ RelV (.str "drop") u
  s_MAY : ∃ u, mg "MAY" = some u ∧ RelV (.str "may") u
  s_STRETCH : ∃ u, mg "STRETCH" = some u ∧ RelV (.str "long") u
  m_Reading_take_joint : Meth K aC_Reading "take_joint" (He.ma K aC_Reading "take_joint")
  s_METRE : ∃ u, mg "METRE" = some u ∧ RelV (.str "metre") u
  i_METRE_SIZE : ∃ u, mg "METRE_SIZE" = some u ∧ RelV (.int 3) u
  i_MOST_METRES : ∃ u, mg "MOST_METRES" = some u ∧ RelV (.int 3) u
  i_MOST_PARTS : ∃ u, mg "MOST_PARTS" = some u ∧ RelV (.int 8) u
  s_ENDS : ∃ u, mg "ENDS" = some u ∧ RelV (.str "|") u
  s_AMID : ∃ u, mg "AMID" = some u ∧ RelV (.str "!") u
  s_STAR : ∃ u, mg "STAR" = some u ∧ RelV (.str "*") u
  s_FIGURES : ∃ u, mg "FIGURES" = some u ∧ RelV (.str "0123456789") u
  s_SLASH : ∃ u, mg "SLASH" = some u ∧ RelV (.str "/") u
  i_MOST_FORMS : ∃ u, mg "MOST_FORMS" = some u ∧ RelV (.int 3) u
  n_set : mg "set" = none
  s_EITHER : ∃ u, mg "EITHER" = some u ∧ RelV (.str "x") u
  g_forms_in : mg "forms_in" = some (.ref (He.ga K "forms_in"))
  g_parts_in : mg "parts_in" = some (.ref (He.ga K "parts_in"))
  i_MOST_DRAWN_OUT : ∃ u, mg "MOST_DRAWN_OUT" = some u ∧ RelV (.int 24) u
  g_metre_parts : mg "metre_parts" = some (.ref (He.ga K "metre_parts"))
  m_Reading_take_metre : Meth K aC_Reading "take_metre" (He.ma K aC_Reading "take_metre")
  m_Reading_take : Meth K aC_Reading "take" (He.ma K aC_Reading "take")
  g_read_lines : mg "read_lines" = some (.ref (He.ga K "read_lines"))
  c_Tongue : Cls K aC_Tongue
  na_Tongue_own_text : NoAttr K aC_Tongue "own_text"
  na_Tongue_own_words : NoAttr K aC_Tongue "own_words"
  na_Tongue_own_names : NoAttr K aC_Tongue "own_names"
  na_Tongue_own_joints : NoAttr K aC_Tongue "own_joints"
  na_Tongue_own_metres : NoAttr K aC_Tongue "own_metres"
  na_Tongue_own_unknown : NoAttr K aC_Tongue "own_unknown"
  mk_Tongue : Mk K aC_Tongue (He.ma K aC_Tongue "__init__")
  g_Tongue : mg "Tongue" = some (.ref aC_Tongue)
  g_MetreError : mg "MetreError" = some (.ref aC_MetreError)
  g__law_told : mg "_law_told" = some (.ref (He.ga K "_law_told"))
  ca__law_is_let : codeAtB (He.ga K "_law_is_let") 326 K = true
  tabs : tabsK K = tabL
  em_BadTongue_MetreError : PySem.W.exmOne K (.ref aC_BadTongue) (.ref aC_MetreError) = some true
  p_Tongue_text : PropOf K aC_Tongue "text" (He.ma K aC_Tongue "text") (getterOf K aC_Tongue "text")
  g__law_is_let : mg "_law_is_let" = some (.ref (He.ga K "_law_is_let"))
  ca__law_is_refused : codeAtB (He.ga K "_law_is_refused") 319 K = true
  ei_BadTongue : ExcI K aC_BadTongue ∧ XfC K aC_BadTongue ∧ PySem.W.findIn K (.ref aC_BadTongue) "value" = some none
  ko_BadTongue_BadTongue : PySem.W.kitOne K (.ref aC_BadTongue) (.ref aC_BadTongue) = some true
  kn_BadTongue : PySem.W.kitOne K (.type "NoneType") (.ref aC_BadTongue) = some false
  n_repr : mg "repr" = none
  g__law_is_refused : mg "_law_is_refused" = some (.ref (He.ga K "_law_is_refused"))
  g__law_right : mg "_law_right" = some (.ref (He.ga K "_law_right"))
  n_abs : mg "abs" = none
  g__law_pot : mg "_law_pot" = some (.ref (He.ga K "_law_pot"))
  xi1 : xiB PySem.Challenge.pw_lostmetres_k03_bounds_of_texts aC_MetreError K = true
  xi2 : cellB 18 aC_MetreError K = true
  xi3 : xiKB aC_MetreError K = true
  blt : bltB K = true
  hd__law_is_refused : codeHdB 319 315 K = true
  hd__law_is_let : codeHdB 326 322 K = true
  d__law_places : ∃ fd, FunD K "_law_places" "_law_places" (defArgs s__law_places) (defBody s__law_places) (defScope s__law_places) [] [] (He.ga K "_law_places") fd
  d__law_take : ∃ fd, FunD K "_law_take" "_law_take" (defArgs s__law_take) (defBody s__law_take) (defScope s__law_take) [] [] (He.ga K "_law_take") fd
  d__law_some : ∃ fd, FunD K "_law_some" "_law_some" (defArgs s__law_some) (defBody s__law_some) (defScope s__law_some) [] [] (He.ga K "_law_some") fd
  d__law_names : ∃ fd, FunD K "_law_names" "_law_names" (defArgs s__law_names) (defBody s__law_names) (defScope s__law_names) [] [] (He.ga K "_law_names") fd
  d_ReadingD_initD : ∃ fd, FunD K "__init__" "Reading.__init__" (defArgs s_ReadingD_initD) (defBody s_ReadingD_initD) (defScope s_ReadingD_initD) [] [] (He.ma K aC_Reading "__init__") fd
  d_is_made_of : ∃ fd, FunD K "is_made_of" "is_made_of" (defArgs s_is_made_of) (defBody s_is_made_of) (defScope s_is_made_of) [] [] (He.ga K "is_made_of") fd
  d_is_name : ∃ fd, FunD K "is_name" "is_name" (defArgs s_is_name) (defBody s_is_name) (defScope s_is_name) [] [] (He.ga K "is_name") fd
  d_Reading_take_word : ∃ fd, FunD K "take_word" "Reading.take_word" (defArgs s_Reading_take_word) (defBody s_Reading_take_word) (defScope s_Reading_take_word) [] [] (He.ma K aC_Reading "take_word") fd
  d_Reading_take_joint : ∃ fd, FunD K "take_joint" "Reading.take_joint" (defArgs s_Reading_take_joint) (defBody s_Reading_take_joint) (defScope s_Reading_take_joint) [] [] (He.ma K aC_Reading "take_joint") fd
  d_forms_in : ∃ fd, FunD K "forms_in" "forms_in" (defArgs s_forms_in) (defBody s_forms_in) (defScope s_forms_in) [] [] (He.ga K "forms_in") fd
  d_parts_in : ∃ fd, FunD K "parts_in" "parts_in" (defArgs s_parts_in) (defBody s_parts_in) (defScope s_parts_in) [] [] (He.ga K "parts_in") fd
  d_metre_parts : ∃ fd, FunD K "metre_parts" "metre_parts" (defArgs s_metre_parts) (defBody s_metre_parts) (defScope s_metre_parts) [] [] (He.ga K "metre_parts") fd
  d_Reading_take_metre : ∃ fd, FunD K "take_metre" "Reading.take_metre" (defArgs s_Reading_take_metre) (defBody s_Reading_take_metre) (defScope s_Reading_take_metre) [] [] (He.ma K aC_Reading "take_metre") fd
  d_Reading_take : ∃ fd, FunD K "take" "Reading.take" (defArgs s_Reading_take) (defBody s_Reading_take) (defScope s_Reading_take) [] [] (He.ma K aC_Reading "take") fd
  d_read_lines : ∃ fd, FunD K "read_lines" "read_lines" (defArgs s_read_lines) (defBody s_read_lines) (defScope s_read_lines) [] [] (He.ga K "read_lines") fd
  d_TongueD_initD : ∃ fd, FunD K "__init__" "Tongue.__init__" (defArgs s_TongueD_initD) (defBody s_TongueD_initD) (defScope s_TongueD_initD) [] [] (He.ma K aC_Tongue "__init__") fd
  d_Tongue_text : ∃ fd, FunD K "text" "Tongue.text" (defArgs s_Tongue_text) (defBody s_Tongue_text) (defScope s_Tongue_text) [] [] (getterOf K aC_Tongue "text") fd
  d__law_is_let : ∃ fd, FunD K "_law_is_let" "_law_is_let" (defArgs s__law_is_let) (defBody s__law_is_let) (defScope s__law_is_let) [] [] (He.ga K "_law_is_let") fd
  d__law_is_refused : ∃ fd, FunD K "_law_is_refused" "_law_is_refused" (defArgs s__law_is_refused) (defBody s__law_is_refused) (defScope s__law_is_refused) [] [] (He.ga K "_law_is_refused") fd
  d__law_right : ∃ fd, FunD K "_law_right" "_law_right" (defArgs s__law_right) (defBody s__law_right) (defScope s__law_right) [] [] (He.ga K "_law_right") fd
  d__law_pot : ∃ fd, FunD K "_law_pot" "_law_pot" (defArgs s__law_pot) (defBody s__law_pot) (defScope s__law_pot) [] [] (He.ga K "_law_pot") fd
  d_law : ∃ fd, FunD K "law" "law" (defArgs s_law) (defBody s_law) (defScope s_law) [] [] (He.ga K "law") fd
  d__law_told : ∃ fd, FunD K "_law_told" "_law_told" (defArgs s__law_told) (defBody s__law_told) (defScope s__law_told) [] [] (He.ga K "_law_told") fd
structure Gx (P : Program) (K : PySem.W.Frag) (mg : Str → Option Value) (base : Heap) : Prop extends Fx K mg where
  xi : XiDef K P aC_MetreError (He.ma K aC_MetreError "__init__")
  tb : ∀ p ∈ cs, LamX.TabB base mg p.1 p.2
noncomputable def b__law_places : DS := (sRet (dLstRg1 (dApp vMax2 (dCons (dC (.int 1)) (dCons (dApp vMin2 (dCons (dVar 1) (dCons (dApp vLen (dCons (dVar 0) dNil)) dNil))) dNil)))))
noncomputable def m__law_places : VF := fnBody 2 2 b__law_places
noncomputable def b__law_take : DS := (sSeq (sIf (dTest (dApp vGt (dCons (dApp vIx (dCons (dVar 0) (dCons (dC (.int 0)) dNil))) (dCons (dC (.int 0)) dNil)))) (sSeq (sAsg (dApp vMod (dCons (dApp vInt (dCons (dApp vIx (dCons (dVar 0) (dCons (dC (.int 0)) dNil))) dNil)) (dCons (dVar 1) dNil))) (gSet 2)) (sSeq (sAsg (dApp vDiv (dCons (dApp vIx (dCons (dVar 0) (dCons (dC (.int 0)) dNil))) (dCons (dVar 1) dNil))) (gItem (dVar 0) (dC (.int 0)))) (sRet (dVar 2)))) sNil) (sSeq (sAsg (dApp vAdd (dCons (dApp vIx (dCons (dVar 0) (dCons (dC (.int 2)) dNil))) (dCons (dC (.int 1)) dNil))) (gItem (dVar 0) (dC (.int 2)))) (sSeq (sAsg (dApp vIx (dCons (dApp vLst (dCons (dC (.int 2147483647)) (dCons (dC (.int 2147483629)) (dCons (dC (.int 2147483587)) (dCons (dC (.int 2147483579)) (dCons (dC (.int 2147483563)) dNil)))))) (dCons (dApp vMod (dCons (dApp vInt (dCons (dApp vIx (dCons (dVar 0) (dCons (dC (.int 2)) dNil))) dNil)) (dCons (dC (.int 5)) dNil))) dNil))) (gSet 3)) (sSeq (sAsg (dApp vMod (dCons (dApp vInt (dCons (dApp vPow (dCons (dApp vInt (dCons (dApp vAdd (dCons (dApp vAdd (dCons (dApp vIx (dCons (dVar 0) (dCons (dC (.int 1)) dNil))) (dCons (dApp vMulA (dCons (dApp vMulA (dCons (dC (.int 95129)) (dCons (dApp vIx (dCons (dVar 0) (dCons (dC (.int 2)) dNil))) dNil))) (dCons (dApp vIx (dCons (dVar 0) (dCons (dC (.int 2)) dNil))) dNil))) dNil))) (dCons (dC (.int 89)) dNil))) dNil)) (dCons (dC (.int 3)) dNil))) dNil)) (dCons (dVar 3) dNil))) (gSet 4)) (sRet (dApp vMod (dCons (dApp vInt (dCons (dApp vDiv (dCons (dApp vMulA (dCons (dVar 4) (dCons (dApp vAdd (dCons (dApp vMod (dCons (dApp vInt (dCons (dVar 4) dNil)) (dCons (dC (.int 10039)) dNil))) (dCons (dApp vMulA (dCons (dC (.int 91)) (dCons (dApp vIx (dCons (dVar 0) (dCons (dC (.int 2)) dNil))) dNil))) dNil))) dNil))) (dCons (dC (.int 131)) dNil))) dNil)) (dCons (dVar 1) dNil))))))))
noncomputable def m__law_take : VF := fnBody 2 5 b__law_take
noncomputable def b__law_some : DS := (sSeq (sPar 3 4 (dCons (dApp vListB (dCons (dVar 1) dNil)) (dCons (dApp vLst dNil) dNil))) (sSeq (sFor (dRg1 (dVar 2)) (gSet 5) (sExpr (dM isLstP vAppend (dVar 4) (dCons (dM isLstP vPop (dVar 3) (dCons (dApp m__law_take (dCons (dVar 0) (dCons (dApp vLen (dCons (dVar 3) dNil)) dNil))) dNil)) dNil)))) (sRet (dVar 4))))
noncomputable def m__law_some : VF := fnBody 3 6 b__law_some
noncomputable def b__law_names : DS := (sSeq (sAsg (dApp vLst (dCons (dC (.str "am")) (dCons (dC (.str "ko")) (dCons (dC (.str "ta")) (dCons (dC (.str "word")) (dCons (dC (.str "joint")) (dCons (dC (.str "metre")) (dCons (dC (.str "notes")) (dCons (dC (.str "goes")) (dCons (dC (.str "find")) (dCons (dC (.str "drop")) (dCons (dC (.str "long")) (dCons (dC (.str "zzzzzzzz")) (dCons (dC (.str "x")) (dCons (dC (.str "u")) dNil))))))))))))))) (gSet 2)) (sRet (dApp m__law_some (dCons (dVar 0) (dCons (dVar 2) (dCons (dVar 1) dNil))))))
noncomputable def m__law_names : VF := fnBody 2 3 b__law_names
noncomputable def b_ReadingD_initD : DS := (sSeq (sFldSet aC_Reading "named_words" (dVar 0) dNewD) (sSeq (sFldSet aC_Reading "named_joints" (dVar 0) dNewD) (sFldSet aC_Reading "named_metres" (dVar 0) dNewD)))
noncomputable def m_ReadingD_initD : VF := fnBody 1 1 b_ReadingD_initD
noncomputable def b_is_made_of : DS := (sRet (dAndV (dApp vNeA (dCons (dVar 0) (dCons (dC (.str "")) dNil))) (dApp vAll (dCons (dLc (dItA (dVar 0)) (gSet 2) tYes' (dApp vIn (dCons (dVar 2) (dCons (dVar 1) dNil))) [2]) dNil))))
noncomputable def m_is_made_of : VF := fnBody 2 3 b_is_made_of
noncomputable def b_is_name : DS := (sRet (dAndV (dApp vLe (dCons (dApp vLen (dCons (dVar 0) dNil)) (dCons (dC (.int 8)) dNil))) (dApp (vApart m_is_made_of) (dCons (dVar 0) (dCons (dC (.str "abcdefghijklmnopqrstuvwxyz")) dNil)))))
noncomputable def m_is_name : VF := fnBody 1 1 b_is_name
noncomputable def b_Reading_take_word : DS := (sSeq (sAsg (dOrV (dApp vNeA (dCons (dApp (vFld aC_Reading "named_joints") (dCons (dVar 0) dNil)) (dCons dNewD dNil))) (dApp vNeA (dCons (dApp (vFld aC_Reading "named_metres") (dCons (dVar 0) dNil)) (dCons dNewD dNil)))) (gSet 2)) (sSeq (sIf (dOr (dTest (dApp vNeA (dCons (dApp vLen (dCons (dVar 1) dNil)) (dCons (dC (.int 5)) dNil)))) (dOr (dTest (dApp vEqA (dCons (dApp vLen (dCons (dApp (vFld aC_Reading "named_words") (dCons (dVar 0) dNil)) dNil)) (dCons (dC (.int 6)) dNil)))) (dTru (dVar 2)))) (sRet (dC (.bl false))) sNil) (sSeq (sAsg (dCut (dVar 1) (dPart (dC (.int 1))) dNoPart) (gTupA 4 (gCons' (gSet 3) (gCons' (gSet 4) (gCons' (gSet 5) (gCons' (gSet 6) gNil')))))) (sSeq (sIf (dOr (dNot (dTru (dApp (vApart m_is_name) (dCons (dVar 3) dNil)))) (dOr (dTest (dApp vIn (dCons (dVar 3) (dCons (dApp (vFld aC_Reading "named_words") (dCons (dVar 0) dNil)) dNil)))) (dOr (dTest (dApp vNotIn (dCons (dVar 4) (dCons (dApp vTupleA (dCons (dC (.str "abcdefghijklmnopqrstuvwxyz")) dNil)) dNil)))) (dTest (dApp vNotIn (dCons (dVar 6) (dCons (dApp vTupleA (dCons (dC (.str "abcdefghijklmnopqrstuvwxyz")) dNil)) dNil))))))) (sRet (dC (.bl false))) sNil) (sSeq (sIf (dOr (dNot (dTru (dApp (vApart m_is_made_of) (dCons (dVar 5) (dCons (dApp vTup (dCons (dC (.str "-")) (dCons (dC (.str "u")) (dCons (dC (.str "?")) dNil)))) dNil))))) (dTest (dApp vGt (dCons (dApp vLen (dCons (dVar 5) dNil)) (dCons (dC (.int 4)) dNil))))) (sRet (dC (.bl false))) sNil) (sSeq (sAsg (dApp vSum (dCons (dLc (dVals (dApp (vFld aC_Reading "named_words") (dCons (dVar 0) dNil))) (gSet 8) tYes' (dM isStrP vCount (dApp vIx (dCons (dVar 8) (dCons (dC (.int 1)) dNil))) (dCons (dC (.str "?")) dNil)) [8]) dNil)) (gSet 7)) (sSeq (sIf (dTest (dApp vGt (dCons (dApp vAdd (dCons (dVar 7) (dCons (dM isStrP vCount (dVar 5) (dCons (dC (.str "?")) dNil)) dNil))) (dCons (dC (.int 6)) dNil)))) (sRet (dC (.bl false))) sNil) (sSeq (sAsg (dApp vTup (dCons (dVar 4) (dCons (dVar 5) (dCons (dVar 6) dNil)))) (gItem (dApp (vFld aC_Reading "named_words") (dCons (dVar 0) dNil)) (dVar 3))) (sRet (dC (.bl true)))))))))))
noncomputable def m_Reading_take_word : VF := fnBody 2 9 b_Reading_take_word
noncomputable def b_Reading_take_joint : DS := (sSeq (sAsg (dOrV (dApp vEqA (dCons (dApp (vFld aC_Reading "named_words") (dCons (dVar 0) dNil)) (dCons dNewD dNil))) (dApp vNeA (dCons (dApp (vFld aC_Reading "named_metres") (dCons (dVar 0) dNil)) (dCons dNewD dNil)))) (gSet 2)) (sSeq (sIf (dOr (dTest (dApp vNeA (dCons (dApp vLen (dCons (dVar 1) dNil)) (dCons (dC (.int 4)) dNil)))) (dOr (dTest (dApp vEqA (dCons (dApp vLen (dCons (dApp (vFld aC_Reading "named_joints") (dCons (dVar 0) dNil)) dNil)) (dCons (dC (.int 9)) dNil)))) (dTru (dVar 2)))) (sRet (dC (.bl false))) sNil) (sSeq (sAsg (dCut (dVar 1) (dPart (dC (.int 1))) dNoPart) (gTupA 3 (gCons' (gSet 3) (gCons' (gSet 4) (gCons' (gSet 5) gNil'))))) (sSeq (sIf (dOr (dTest (dApp vNotIn (dCons (dVar 3) (dCons (dApp vTupleA (dCons (dC (.str "abcdefghijklmnopqrstuvwxyz")) dNil)) dNil)))) (dOr (dTest (dApp vNotIn (dCons (dVar 4) (dCons (dApp vTupleA (dCons (dC (.str "abcdefghijklmnopqrstuvwxyz")) dNil)) dNil)))) (dTest (dApp vNotIn (dCons (dVar 5) (dCons (dApp vTup (dCons (dC (.str "drop")) (dCons (dC (.str "may")) (dCons (dC (.str "long")) dNil)))) dNil)))))) (sRet (dC (.bl false))) sNil) (sSeq (sIf (dTest (dApp vIn (dCons (dApp vTup (dCons (dVar 3) (dCons (dVar 4) dNil))) (dCons (dApp (vFld aC_Reading "named_joints") (dCons (dVar 0) dNil)) dNil)))) (sRet (dC (.bl false))) sNil) (sSeq (sAsg (dVar 5) (gItem (dApp (vFld aC_Reading "named_joints") (dCons (dVar 0) dNil)) (dApp vTup (dCons (dVar 3) (dCons (dVar 4) dNil))))) (sRet (dC (.bl true)))))))))
noncomputable def m_Reading_take_joint : VF := fnBody 2 6 b_Reading_take_joint
noncomputable def b_forms_in : DS := (sSeq (sAsg (dM isStrP vSplit (dVar 0) (dCons (dC (.str "/")) dNil)) (gSet 1)) (sSeq (sIf (dOr (dTest (dApp vGt (dCons (dApp vLen (dCons (dVar 1) dNil)) (dCons (dC (.int 3)) dNil)))) (dTest (dApp vLt (dCons (dApp vLenSet (dCons (dVar 1) dNil)) (dCons (dApp vLen (dCons (dVar 1) dNil)) dNil))))) (sRet (dC .non)) sNil) (sSeq (sFor (dItA (dVar 1)) (gSet 2) (sIf (dOr (dTest (dApp vGt (dCons (dApp vLen (dCons (dVar 2) dNil)) (dCons (dC (.int 4)) dNil)))) (dNot (dTru (dApp (vApart m_is_made_of) (dCons (dVar 2) (dCons (dApp vTup (dCons (dC (.str "-")) (dCons (dC (.str "u")) (dCons (dC (.str "x")) dNil)))) dNil)))))) (sRet (dC .non)) sNil)) (sRet (dApp vTupleA (dCons (dVar 1) dNil))))))
noncomputable def m_forms_in : VF := fnBody 1 3 b_forms_in
noncomputable def b_parts_in : DS := (sSeq (sIf (dTest (dApp vIn (dCons (dVar 0) (dCons (dApp vTup (dCons (dC (.str "|")) (dCons (dC (.str "!")) dNil))) dNil)))) (sRet (dApp vTup (dCons (dVar 0) dNil))) sNil) (sSeq (sPar 1 2 (dCons (dC (.int 1)) (dCons (dApp vEqA (dCons (dApp vIx (dCons (dVar 0) (dCons (dC (.int 0)) dNil))) (dCons (dC (.str "*")) dNil))) dNil))) (sSeq (sIf (dTru (dVar 2)) (sAsg (dCut (dVar 0) (dPart (dC (.int 1))) dNoPart) (gSet 0)) (sIf (dAnd (dTest (dApp vGt (dCons (dApp vLen (dCons (dVar 0) dNil)) (dCons (dC (.int 1)) dNil)))) (dAnd (dTest (dApp vEqA (dCons (dApp vIx (dCons (dVar 0) (dCons (dC (.int 1)) dNil))) (dCons (dC (.str "*")) dNil)))) (dTest (dApp vIn (dCons (dApp vIx (dCons (dVar 0) (dCons (dC (.int 0)) dNil))) (dCons (dCut (dC (.str "0123456789")) (dPart (dC (.int 2))) dNoPart) dNil)))))) (sPar 1 0 (dCons (dApp vInt (dCons (dApp vIx (dCons (dVar 0) (dCons (dC (.int 0)) dNil))) dNil)) (dCons (dCut (dVar 0) (dPart (dC (.int 2))) dNoPart) dNil))) sNil)) (sSeq (sAsg (dApp (vApart m_forms_in) (dCons (dVar 0) dNil)) (gSet 3)) (sRet (dIf (dTest (dApp vIs (dCons (dVar 3) (dCons (dC .non) dNil)))) (dC .non) (dApp vMulA (dCons (dApp vTup (dCons (dApp vTup (dCons (dVar 2) (dCons (dVar 3) dNil))) dNil)) (dCons (dVar 1) dNil)))))))))
noncomputable def m_parts_in : VF := fnBody 1 4 b_parts_in
noncomputable def b_metre_parts : DS := (sSeq (sIf (dNot (dTest (dChain vLe vLe (dC (.int 1)) (dApp vLen (dCons (dVar 0) dNil)) (dC (.int 8))))) (sRet (dC .non)) sNil) (sSeq (sAsg (dLc (dItA (dVar 0)) (gSet 3) tYes' (dApp (vApart m_parts_in) (dCons (dVar 3) dNil)) [3]) (gSet 1)) (sSeq (sIf (dTest (dApp vIn (dCons (dC .non) (dCons (dVar 1) dNil)))) (sRet (dC .non)) sNil) (sSeq (sAsg (dApp vTupleA (dCons (dLc2 (dItA (dVar 1)) (gSet 4) tYes' (dItA (dVar 4)) (gSet 5) tYes' (dVar 5) [4, 5] [5]) dNil)) (gSet 2)) (sRet (dIf (dTest (dApp vLe (dCons (dApp vLen (dCons (dVar 2) dNil)) (dCons (dC (.int 24)) dNil)))) (dVar 2) (dC .non)))))))
noncomputable def m_metre_parts : VF := fnBody 1 6 b_metre_parts
noncomputable def b_Reading_take_metre : DS := (sSeq (sIf (dOr (dTest (dApp vLt (dCons (dApp vLen (dCons (dVar 1) dNil)) (dCons (dC (.int 3)) dNil)))) (dOr (dTest (dApp vEqA (dCons (dApp vLen (dCons (dApp (vFld aC_Reading "named_metres") (dCons (dVar 0) dNil)) dNil)) (dCons (dC (.int 3)) dNil)))) (dTest (dApp vEqA (dCons (dApp (vFld aC_Reading "named_words") (dCons (dVar 0) dNil)) (dCons dNewD dNil)))))) (sRet (dC (.bl false))) sNil) (sSeq (sAsg (dApp m_metre_parts (dCons (dCut (dVar 1) (dPart (dC (.int 2))) dNoPart) dNil)) (gSet 2)) (sSeq (sIf (dOr (dNot (dTru (dApp (vApart m_is_name) (dCons (dApp vIx (dCons (dVar 1) (dCons (dC (.int 1)) dNil))) dNil)))) (dOr (dTest (dApp vIn (dCons (dApp vIx (dCons (dVar 1) (dCons (dC (.int 1)) dNil))) (dCons (dApp (vFld aC_Reading "named_metres") (dCons (dVar 0) dNil)) dNil)))) (dTest (dApp vIs (dCons (dVar 2) (dCons (dC .non) dNil)))))) (sRet (dC (.bl false))) sNil) (sSeq (sAsg (dVar 2) (gItem (dApp (vFld aC_Reading "named_metres") (dCons (dVar 0) dNil)) (dApp vIx (dCons (dVar 1) (dCons (dC (.int 1)) dNil))))) (sRet (dC (.bl true)))))))
noncomputable def m_Reading_take_metre : VF := fnBody 2 3 b_Reading_take_metre
noncomputable def b_Reading_take : DS := (sSeq (sAsg (dM isStrP vSplit (dVar 1) (dCons (dC (.str " ")) dNil)) (gSet 2)) (sSeq (sIf (dTest (dApp vIn (dCons (dC (.str "")) (dCons (dVar 2) dNil)))) (sRet (dC (.bl false))) sNil) (sSeq (sIf (dTest (dApp vEqA (dCons (dApp vIx (dCons (dVar 2) (dCons (dC (.int 0)) dNil))) (dCons (dC (.str "word")) dNil)))) (sRet (dMeth aC_Reading "take_word" m_Reading_take_word (dVar 0) (dCons (dVar 2) dNil))) sNil) (sSeq (sIf (dTest (dApp vEqA (dCons (dApp vIx (dCons (dVar 2) (dCons (dC (.int 0)) dNil))) (dCons (dC (.str "joint")) dNil)))) (sRet (dMeth aC_Reading "take_joint" m_Reading_take_joint (dVar 0) (dCons (dVar 2) dNil))) sNil) (sRet (dAndV (dApp vEqA (dCons (dApp vIx (dCons (dVar 2) (dCons (dC (.int 0)) dNil))) (dCons (dC (.str "metre")) dNil))) (dMeth aC_Reading "take_metre" m_Reading_take_metre (dVar 0) (dCons (dVar 2) dNil))))))))
noncomputable def m_Reading_take : VF := fnBody 2 3 b_Reading_take
noncomputable def b_read_lines : DS := (sSeq (sIf (tPure (dNot (dTru (dApp (vIsi (isiB .str [])) (dCons (dVar 0) dNil))))) (sRaise aC_BadTongue (dPure (dC (.int 0)))) sNil) (sSeq (sPure (sPar 1 2 (dCons (dM isStrP vSplit (dVar 0) (dCons (dC (.str "\n")) dNil)) (dCons (dApp (vMake aC_Reading m_ReadingD_initD) dNil) dNil)))) (sSeq (sFor (dEnum (dPure (dVar 1))) (gTupA 2 (gCons' (gSet 3) (gCons' (gSet 4) gNil'))) (sIf (tPure (dNot (dTru (dMeth aC_Reading "take" m_Reading_take (dVar 2) (dCons (dVar 4) dNil))))) (sRaise aC_BadTongue (dPure (dApp vAdd (dCons (dVar 3) (dCons (dC (.int 1)) dNil))))) sNil)) (sSeq (sIf (tPure (dTest (dApp vEqA (dCons (dApp (vFld aC_Reading "named_metres") (dCons (dVar 2) dNil)) (dCons dNewD dNil))))) (sRaise aC_BadTongue (dPure (dApp vAdd (dCons (dApp vLen (dCons (dVar 1) dNil)) (dCons (dC (.int 1)) dNil))))) sNil) (sPure (sRet (dVar 2)))))))
noncomputable def m_read_lines : VF := fnBody 1 5 b_read_lines
noncomputable def b_TongueD_initD : DS := (sSeq (sAsg (dApp m_read_lines (dCons (dPure (dVar 1)) dNil)) (gSet 2)) (sSeq (sPure (sFldSet aC_Tongue "own_text" (dVar 0) (dVar 1))) (sSeq (sPure (sFldSet aC_Tongue "own_words" (dVar 0) (dApp (vFld aC_Reading "named_words") (dCons (dVar 2) dNil)))) (sSeq (sPure (sFldSet aC_Tongue "own_names" (dVar 0) (dApp vTupleA (dCons (dApp vListB (dCons (dApp (vFld aC_Reading "named_words") (dCons (dVar 2) dNil)) dNil)) dNil)))) (sSeq (sPure (sFldSet aC_Tongue "own_joints" (dVar 0) (dApp (vFld aC_Reading "named_joints") (dCons (dVar 2) dNil)))) (sSeq (sPure (sFldSet aC_Tongue "own_metres" (dVar 0) (dApp (vFld aC_Reading "named_metres") (dCons (dVar 2) dNil)))) (sSeq (sPure (sAsg (dApp vLst dNil) (gSet 3))) (sSeq (sPure (sFor (dItems (dApp (vFld aC_Reading "named_words") (dCons (dVar 2) dNil))) (gTupA 2 (gCons' (gSet 4) (gCons' (gSet 5) gNil'))) (sExpr (dM isLstP vExtend (dVar 3) (dCons (dLc (dEnum (dApp vIx (dCons (dVar 5) (dCons (dC (.int 1)) dNil)))) (gTupA 2 (gCons' (gSet 6) (gCons' (gSet 7) gNil'))) (dTest (dApp vEqA (dCons (dVar 7) (dCons (dC (.str "?")) dNil)))) (dApp vTup (dCons (dVar 4) (dCons (dVar 6) dNil))) [6, 7]) dNil))))) (sPure (sFldSet aC_Tongue "own_unknown" (dVar 0) (dApp vTupleA (dCons (dVar 3) dNil))))))))))))
noncomputable def m_TongueD_initD : VF := fnBody 2 8 b_TongueD_initD
noncomputable def b_Tongue_text : DS := (sRet (dApp (vFld aC_Tongue "own_text") (dCons (dVar 0) dNil)))
noncomputable def m_Tongue_text : VF := fnBody 1 1 b_Tongue_text
noncomputable def b__law_is_let : DS := (sSeq (sAsg (dTold [aC_BadTongue] (dApp (vMake aC_Tongue m_TongueD_initD) (dCons (dPure (dM isStrP vJoin (dC (.str "\n")) (dCons (dVar 0) dNil))) dNil))) (gTupA 2 (gCons' (gSet 1) (gCons' (gSet 2) gNil')))) (sRet (dAndV (dApp vIs (dCons (dVar 1) (dCons (dC .non) dNil))) (dApp vEqA (dCons (dApp (vProp aC_Tongue m_Tongue_text) (dCons (dVar 2) dNil)) (dCons (dM isStrP vJoin (dC (.str "\n")) (dCons (dVar 0) dNil)) dNil))))))
noncomputable def m__law_is_let : VF := fnBody 1 3 b__law_is_let
noncomputable def b__law_is_refused : DS := (sSeq (sAsg (dApp vIx (dCons (dTold [aC_BadTongue] (dApp (vMake aC_Tongue m_TongueD_initD) (dCons (dPure (dM isStrP vJoin (dC (.str "\n")) (dCons (dVar 0) dNil))) dNil))) (dCons (dC (.int 0)) dNil))) (gSet 2)) (sRet (dAndV (dApp (vIsi (isiE [(aC_BadTongue, true)])) (dCons (dVar 2) dNil)) (dApp vEqA (dCons (dApp vRepr (dCons (dApp (vXval [aC_BadTongue]) (dCons (dVar 2) dNil)) dNil)) (dCons (dApp vRepr (dCons (dVar 1) dNil)) dNil))))))
noncomputable def m__law_is_refused : VF := fnBody 2 3 b__law_is_refused
noncomputable def b__law_right : DS := (sSeq (sAsg (dApp (vGc m__law_names) (dCons (dVar 0) (dCons (dC (.int 7)) dNil))) (gSet 1)) (sSeq (sAsg (dApp vAdd (dCons (dLc (dItA (dCut (dVar 1) dNoPart (dPart (dC (.int 5))))) (gSet 11) tYes' (dApp vAdd (dCons (dApp vAdd (dCons (dC (.str "word ")) (dCons (dVar 11) dNil))) (dCons (dC (.str " a -u-u b")) dNil))) [11]) (dCons (dApp vLst (dCons (dApp vAdd (dCons (dApp vAdd (dCons (dC (.str "word ")) (dCons (dApp vIx (dCons (dVar 1) (dCons (dC (.int 5)) dNil))) dNil))) (dCons (dC (.str " k ???? z")) dNil))) dNil)) dNil))) (gSet 2)) (sSeq (sAsg (dApp vLst dNil) (gSet 3)) (sSeq (sFor (dItA (dApp vTup (dCons (dC (.str "a")) (dCons (dC (.str "b")) (dCons (dC (.str "c")) dNil))))) (gSet 4) (sExpr (dM isLstP vExtend (dVar 3) (dCons (dLc (dItA (dApp vTup (dCons (dC (.str "a")) (dCons (dC (.str "b")) (dCons (dC (.str "k")) dNil))))) (gSet 12) tYes' (dApp vAdd (dCons (dApp vAdd (dCons (dApp vAdd (dCons (dApp vAdd (dCons (dC (.str "joint ")) (dCons (dVar 4) dNil))) (dCons (dC (.str " ")) dNil))) (dCons (dVar 12) dNil))) (dCons (dC (.str " may")) dNil))) [12]) dNil)))) (sSeq (sAsg (dApp vLst (dCons (dC (.str "metre a 9*-u 9*x 6*uu/--/xxxx")) (dCons (dC (.str "metre abcdefgh | ! *- - u x -u u-")) (dCons (dC (.str "metre b *-")) dNil)))) (gSet 5)) (sSeq (sIf (dOr (dNot (dTru (dApp (vAway m__law_is_let) (dCons (dApp vAdd (dCons (dApp vAdd (dCons (dVar 2) (dCons (dVar 3) dNil))) (dCons (dVar 5) dNil))) dNil)))) (dNot (dTru (dApp (vAway m__law_is_let) (dCons (dApp vAdd (dCons (dCut (dVar 2) dNoPart (dPart (dC (.int 1)))) (dCons (dCut (dVar 5) dNoPart (dPart (dC (.int 1)))) dNil))) dNil))))) (sRet (dC (.bl false))) sNil) (sSeq (sAsg (dApp vAdd (dCons (dVar 2) (dCons (dVar 3) dNil))) (gSet 6)) (sSeq (sAsg (dApp vLst (dCons (dApp vTup (dCons (dApp vAdd (dCons (dApp vAdd (dCons (dVar 2) (dCons (dApp vLst (dCons (dApp vAdd (dCons (dApp vAdd (dCons (dC (.str "word ")) (dCons (dApp vIx (dCons (dVar 1) (dCons (dC (.int 6)) dNil))) dNil))) (dCons (dC (.str " a - b")) dNil))) dNil)) dNil))) (dCons (dVar 5) dNil))) (dCons (dC (.int 7)) dNil))) (dCons (dApp vTup (dCons (dApp vAdd (dCons (dApp vAdd (dCons (dVar 6) (dCons (dApp vLst (dCons (dC (.str "joint z z may")) dNil)) dNil))) (dCons (dVar 5) dNil))) (dCons (dC (.int 16)) dNil))) dNil))) (gSet 7)) (sSeq (sExpr (dM isLstP vExtend (dVar 7) (dCons (dApp vLst (dCons (dApp vTup (dCons (dApp vAdd (dCons (dApp vAdd (dCons (dVar 6) (dCons (dVar 5) dNil))) (dCons (dApp vLst (dCons (dC (.str "metre c -")) dNil)) dNil))) (dCons (dC (.int 19)) dNil))) (dCons (dApp vTup (dCons (dVar 6) (dCons (dC (.int 16)) dNil))) (dCons (dApp vTup (dCons (dCut (dVar 2) dNoPart (dPart (dC (.int 5)))) (dCons (dC (.int 6)) dNil))) (dCons (dApp vTup (dCons (dVar 3) (dCons (dC (.int 1)) dNil))) (dCons (dApp vTup (dCons (dVar 5) (dCons (dC (.int 1)) dNil))) dNil)))))) dNil))) (sSeq (sExpr (dM isLstP vExtend (dVar 7) (dCons (dApp vLst (dCons (dApp vTup (dCons (dApp vAdd (dCons (dCut (dVar 2) (dPart (dC (.int 5))) dNoPart) (dCons (dApp vLst (dCons (dC (.str "word x a ??? b")) dNil)) dNil))) (dCons (dC (.int 2)) dNil))) (dCons (dApp vTup (dCons (dApp vLst (dCons (dC (.str "word x a ????? b")) dNil)) (dCons (dC (.int 1)) dNil))) dNil))) dNil))) (sSeq (sExpr (dM isLstP vAppend (dVar 7) (dCons (dApp vTup (dCons (dApp vAdd (dCons (dCut (dVar 2) dNoPart (dPart (dC (.int 1)))) (dCons (dApp vLst (dCons (dC (.str "metre a 9*-u 9*x 7*u")) dNil)) dNil))) (dCons (dC (.int 2)) dNil))) dNil))) (sSeq (sExpr (dM isLstP vExtend (dVar 7) (dCons (dApp vLst (dCons (dApp vTup (dCons (dApp vAdd (dCons (dCut (dVar 2) dNoPart (dPart (dC (.int 1)))) (dCons (dApp vLst (dCons (dC (.str "metre a - u - u - u - u x")) dNil)) dNil))) (dCons (dC (.int 2)) dNil))) (dCons (dApp vTup (dCons (dApp vAdd (dCons (dCut (dVar 2) dNoPart (dPart (dC (.int 1)))) (dCons (dApp vLst (dCons (dC (.str "metre a")) dNil)) dNil))) (dCons (dC (.int 2)) dNil))) (dCons (dApp vTup (dCons (dApp vMulA (dCons (dCut (dVar 2) dNoPart (dPart (dC (.int 1)))) (dCons (dC (.int 2)) dNil))) (dCons (dC (.int 2)) dNil))) dNil)))) dNil))) (sSeq (sExpr (dM isLstP vExtend (dVar 7) (dCons (dApp vLst (dCons (dApp vTup (dCons (dApp vAdd (dCons (dCut (dVar 2) dNoPart (dPart (dC (.int 1)))) (dCons (dApp vMulA (dCons (dApp vLst (dCons (dApp vIx (dCons (dVar 3) (dCons (dC (.int 0)) dNil))) dNil)) (dCons (dC (.int 2)) dNil))) dNil))) (dCons (dC (.int 3)) dNil))) (dCons (dApp vTup (dCons (dApp vAdd (dCons (dCut (dVar 2) dNoPart (dPart (dC (.int 1)))) (dCons (dApp vMulA (dCons (dCut (dVar 5) dNoPart (dPart (dC (.int 1)))) (dCons (dC (.int 2)) dNil))) dNil))) (dCons (dC (.int 3)) dNil))) dNil))) dNil))) (sSeq (sExpr (dM isLstP vAppend (dVar 7) (dCons (dApp vTup (dCons (dApp vAdd (dCons (dCut (dVar 2) dNoPart (dPart (dC (.int 1)))) (dCons (dApp vLst (dCons (dC (.str "metre abcdefghi -")) dNil)) dNil))) (dCons (dC (.int 2)) dNil))) dNil))) (sSeq (sFor (dItA (dApp vTup (dCons (dC (.str "-u-u-")) (dCons (dC (.str "-/-")) (dCons (dC (.str "-/u/x/uu")) (dCons (dC (.str "1*-")) (dCons (dC (.str "0*-")) (dCons (dC (.str "10*-")) (dCons (dC (.str "2-")) (dCons (dC (.str "**-")) (dCons (dC (.str "*")) (dCons (dC (.str "")) (dCons (dC (.str "-/")) (dCons (dC (.str "/u")) (dCons (dC (.str "-|")) (dCons (dC (.str "A")) (dCons (dC (.str "-?")) dNil))))))))))))))))) (gSet 8) (sExpr (dM isLstP vAppend (dVar 7) (dCons (dApp vTup (dCons (dApp vAdd (dCons (dCut (dVar 2) dNoPart (dPart (dC (.int 1)))) (dCons (dApp vLst (dCons (dApp vAdd (dCons (dC (.str "metre a ")) (dCons (dVar 8) dNil))) dNil)) dNil))) (dCons (dC (.int 2)) dNil))) dNil)))) (sSeq (sFor (dItA (dApp vTup (dCons (dC (.str "word")) (dCons (dC (.str "word x a - ")) (dCons (dC (.str "word x a - b c")) (dCons (dC (.str "word x ab - b")) (dCons (dC (.str "word x a  b")) (dCons (dC (.str "word X a - b")) dNil)))))))) (gSet 9) (sExpr (dM isLstP vAppend (dVar 7) (dCons (dApp vTup (dCons (dApp vAdd (dCons (dCut (dVar 2) dNoPart (dPart (dC (.int 1)))) (dCons (dApp vLst (dCons (dVar 9) dNil)) dNil))) (dCons (dC (.int 2)) dNil))) dNil)))) (sSeq (sFor (dItA (dApp vTup (dCons (dC (.str "joint a b")) (dCons (dC (.str "joint a b May")) (dCons (dC (.str "joint ab b may")) (dCons (dC (.str "joint a b may x")) (dCons (dC (.str "joint a 1 may")) (dCons (dC (.str " joint a b may")) dNil)))))))) (gSet 10) (sExpr (dM isLstP vAppend (dVar 7) (dCons (dApp vTup (dCons (dApp vAdd (dCons (dCut (dVar 2) dNoPart (dPart (dC (.int 1)))) (dCons (dApp vLst (dCons (dVar 10) dNil)) dNil))) (dCons (dC (.int 2)) dNil))) dNil)))) (sSeq (sExpr (dM isLstP vExtend (dVar 7) (dCons (dApp vLst (dCons (dApp vTup (dCons (dApp vAdd (dCons (dApp vAdd (dCons (dCut (dVar 2) dNoPart (dPart (dC (.int 1)))) (dCons (dCut (dVar 5) dNoPart (dPart (dC (.int 1)))) dNil))) (dCons (dCut (dVar 3) dNoPart (dPart (dC (.int 1)))) dNil))) (dCons (dC (.int 3)) dNil))) (dCons (dApp vTup (dCons (dApp vAdd (dCons (dApp vAdd (dCons (dCut (dVar 2) dNoPart (dPart (dC (.int 1)))) (dCons (dCut (dVar 3) dNoPart (dPart (dC (.int 1)))) dNil))) (dCons (dCut (dVar 2) (dPart (dC (.int 1))) (dPart (dC (.int 2)))) dNil))) (dCons (dC (.int 3)) dNil))) dNil))) dNil))) (sRet (dApp vAll (dCons (dLc (dItA (dVar 7)) (gTupA 2 (gCons' (gSet 13) (gCons' (gSet 14) gNil'))) tYes' (dApp (vAway m__law_is_refused) (dCons (dVar 13) (dCons (dVar 14) dNil))) [13, 14]) dNil)))))))))))))))))))))
noncomputable def m__law_right : VF := fnBody 1 15 b__law_right
noncomputable def b__law_pot : DS := (sSeq (sAsg (dIf (dTest (dApp vLt (dCons (dVar 1) (dCons (dApp vLen (dCons (dVar 0) dNil)) dNil)))) (dApp vIx (dCons (dVar 0) (dCons (dVar 1) dNil))) (dApp vAdd (dCons (dApp vMulA (dCons (dC (.int 103)) (dCons (dVar 1) dNil))) (dCons (dC (.int 74)) dNil)))) (gSet 2)) (sSeq (sAsg (dApp vMulA (dCons (dApp vMod (dCons (dApp vInt (dCons (dApp vAbs (dCons (dVar 2) dNil)) dNil)) (dCons (dApp vPow (dCons (dApp vPow (dCons (dC (.int 10)) (dCons (dC (.int 60)) dNil))) (dCons (dC (.int 5)) dNil))) dNil))) (dCons (dApp vInt (dCons (dApp vGe (dCons (dApp vAbs (dCons (dVar 2) dNil)) (dCons (dApp vPow (dCons (dC (.int 10)) (dCons (dC (.int 18)) dNil))) dNil))) dNil)) dNil))) (gSet 3)) (sSeq (sAsg (dApp vMod (dCons (dApp vInt (dCons (dVar 2) dNil)) (dCons (dC (.int 2305843009213693951)) dNil))) (gSet 4)) (sRet (dApp vLst (dCons (dVar 3) (dCons (dApp vMod (dCons (dApp vInt (dCons (dApp vAdd (dCons (dApp vAdd (dCons (dApp vMulA (dCons (dVar 4) (dCons (dC (.int 80225)) dNil))) (dCons (dApp vMulA (dCons (dApp vMulA (dCons (dC (.int 8329)) (dCons (dVar 1) dNil))) (dCons (dVar 1) dNil))) dNil))) (dCons (dC (.int 113)) dNil))) dNil)) (dCons (dC (.int 2305843009213693921)) dNil))) (dCons (dC (.int 0)) dNil))))))))
noncomputable def m__law_pot : VF := fnBody 2 5 b__law_pot
noncomputable def b_law : DS := (sRet (dApp vAll (dCons (dLc (dItA (dApp m__law_places (dCons (dVar 0) (dCons (dC (.int 3)) dNil)))) (gSet 1) tYes' (dApp (vAway m__law_right) (dCons (dApp m__law_pot (dCons (dVar 0) (dCons (dVar 1) dNil))) dNil)) [1]) dNil)))
noncomputable def m_law : VF := fnBody 1 2 b_law
noncomputable def bF_is_made_of : DS := (sRetF (dAndV (dApp vNeF (dCons (dVarF 0) (dCons (dC (.str ⟨⟨[]⟩⟩)) dNil))) (dApp vAll (dConsF (dLcF (dItAF (dVarF 0)) (gSet 2) tYes' (dApp vInF (dCons (dVarF 2) (dCons (dVarF 1) dNil))) [2]) dNil))))
noncomputable def mF_is_made_of : VF := fnBodyF 2 3 bF_is_made_of
theorem e_is_made_of : mF_is_made_of = m_is_made_of := by
  unfold mF_is_made_of m_is_made_of bF_is_made_of b_is_made_of
  simp only [sSeqF_eq, sForF_eq, sAsgF_eq, sRetF_eq, dLc2F_eq, dLcF_eq, dVarF_eq, fnBodyF_eq, vApartF_eq, gItemF_eq, sFldSetF_eq, vEqF_eq, vNeF_eq, vInF_eq, vNotInF_eq, vIxF_eq, vDGetF_eq, vReprF_eq, fres_eq, fmut_eq, dres_eq, dConsF_eq, vFldF_eq, dMethF_eq, dItAF_eq, dEnumF_eq, dZipF_eq, dValsF_eq, dItemsF_eq, vMakeF_eq, vSplitF_eq]
  try kernel_rfl
noncomputable def bF_is_name : DS := (sRetF (dAndV (dApp vLe (dConsF (dApp vLen (dCons (dVarF 0) dNil)) (dCons (dC (.int 8)) dNil))) (dApp (vApartF mF_is_made_of) (dCons (dVarF 0) (dCons (dC (.str ⟨⟨[97, 98, 99, 100, 101, 102, 103, 104, 105, 106, 107, 108, 109, 110, 111, 112, 113, 114, 115, 116, 117, 118, 119, 120, 121, 122]⟩⟩)) dNil)))))
noncomputable def mF_is_name : VF := fnBodyF 1 1 bF_is_name
theorem e_is_name : mF_is_name = m_is_name := by
  unfold mF_is_name m_is_name bF_is_name b_is_name
  simp only [sSeqF_eq, sForF_eq, sAsgF_eq, sRetF_eq, dLc2F_eq, dLcF_eq, dVarF_eq, fnBodyF_eq, vApartF_eq, gItemF_eq, sFldSetF_eq, vEqF_eq, vNeF_eq, vInF_eq, vNotInF_eq, vIxF_eq, vDGetF_eq, vReprF_eq, fres_eq, fmut_eq, dres_eq, dConsF_eq, vFldF_eq, dMethF_eq, dItAF_eq, dEnumF_eq, dZipF_eq, dValsF_eq, dItemsF_eq, vMakeF_eq, vSplitF_eq, e_is_made_of]
  try kernel_rfl
section
variable {P : Program} {w : World} {K : PySem.W.Frag} {mg : Str → Option Value} {base : Heap}
theorem sc__law_told : FnScope ["_law_look", "_law_caught", "_law_back", "error"] ["_law_look"] (defScope s__law_told) := ⟨rfl, rfl, rfl, by decide +kernel, rfl, by decide +kernel, by decide +kernel⟩
theorem sc__law_places : FnScope ["_law_script", "_law_most"] ["_law_script", "_law_most"] (defScope s__law_places) := ⟨rfl, rfl, rfl, by decide +kernel, rfl, by decide +kernel, by decide +kernel⟩
theorem ok__law_places (T : Gx P K mg base) : Has P w K mg base 1 (He.ga K "_law_places") ["_law_script", "_law_most"] m__law_places := show Has P w K mg base 1 (He.ga K "_law_places") ["_law_script", "_law_most"] (fnBody 2 2 b__law_places) from has_of (N := ["_law_script", "_law_most"]) (by kernel_rfl) (by kernel_rfl) T.d__law_places sc__law_places (fun _ _ _ _ _ _ us hl => match us, hl with | [_, _], _ => rfl) (fun cdv A outer s H E hr =>
  (lss_one (ls_ret (le_lstRg1 rfl rfl T.n_list rfl T.n_range (le_cb (oc_max2 rfl) rfl T.n_max boot_max (la_cons le_int (la_cons (le_cb (oc_min2 rfl) rfl T.n_min boot_min (la_cons (le_var (pv 1)) (la_cons (le_cb oc_len rfl T.n_len boot_len (la_cons (le_var (pv 0)) la_nil)) la_nil))) la_nil)))))))
theorem sc__law_take : FnScope ["_law_pot_here", "_law_upto", "_law_digit", "_law_prime", "_law_blend"] ["_law_pot_here", "_law_upto"] (defScope s__law_take) := ⟨rfl, rfl, rfl, by decide +kernel, rfl, by decide +kernel, by decide +kernel⟩
theorem ok__law_take (T : Gx P K mg base) : Has P w K mg base 1 (He.ga K "_law_take") ["_law_pot_here", "_law_upto"] m__law_take := show Has P w K mg base 1 (He.ga K "_law_take") ["_law_pot_here", "_law_upto"] (fnBody 2 5 b__law_take) from has_of (N := ["_law_pot_here", "_law_upto", "_law_digit", "_law_prime", "_law_blend"]) (by kernel_rfl) (by kernel_rfl) T.d__law_take sc__law_take (fun _ _ _ _ _ _ us hl => match us, hl with | [_, _], _ => rfl) (fun cdv A outer s H E hr =>
  (lss_cons (ls_if (lt_cmp o2_gt (le_item (oi_ix (room_un hr 9)) (le_var (pv 0)) le_int) le_int (nomark _)) (lss_cons (ls_asg (js := [2]) (le_bin o2_mod (le_ct oc_int rfl T.n_int boot_int (la_cons (le_item (oi_ix (room_un hr 9)) (le_var (pv 0)) le_int) la_nil)) (le_var (pv 1))) (lg_name (pg_name (i := 2) sc__law_take.nd rfl (by first | exact Or.inl rfl | exact Or.inr rfl))))
  (lss_cons (ls_asg (js := []) (le_bin o2_div (le_item (oi_ix (room_un hr 9)) (le_var (pv 0)) le_int) (le_var (pv 1))) (lg_item (room_un hr 9) (le_var (pv 0)) le_int))
  (lss_one (ls_ret (le_var (pv 2)))))) lss_nil)
  (lss_cons (ls_asg (js := []) (le_bin o2_add (le_item (oi_ix (room_un hr 9)) (le_var (pv 0)) le_int) le_int) (lg_item (room_un hr 9) (le_var (pv 0)) le_int))
  (lss_cons (ls_asg (js := [3]) (le_item (oi_ix (room_un hr 9)) (le_lst (la_cons le_int (la_cons le_int (la_cons le_int (la_cons le_int (la_cons le_int la_nil)))))) (le_bin o2_mod (le_ct oc_int rfl T.n_int boot_int (la_cons (le_item (oi_ix (room_un hr 9)) (le_var (pv 0)) le_int) la_nil)) le_int)) (lg_name (pg_name (i := 3) sc__law_take.nd rfl (by first | exact Or.inl rfl | exact Or.inr rfl))))
  (lss_cons (ls_asg (js := [4]) (le_bin o2_mod (le_ct oc_int rfl T.n_int boot_int (la_cons (le_bin o2_pow (le_ct oc_int rfl T.n_int boot_int (la_cons (le_bin o2_add (le_bin o2_add (le_item (oi_ix (room_un hr 9)) (le_var (pv 0)) le_int) (le_bin o2_mulA (le_bin o2_mulA le_int (le_item (oi_ix (room_un hr 9)) (le_var (pv 0)) le_int)) (le_item (oi_ix (room_un hr 9)) (le_var (pv 0)) le_int))) le_int) la_nil)) le_int) la_nil)) (le_var (pv 3))) (lg_name (pg_name (i := 4) sc__law_take.nd rfl (by first | exact Or.inl rfl | exact Or.inr rfl))))
  (lss_one (ls_ret (le_bin o2_mod (le_ct oc_int rfl T.n_int boot_int (la_cons (le_bin o2_div (le_bin o2_mulA (le_var (pv 4)) (le_bin o2_add (le_bin o2_mod (le_ct oc_int rfl T.n_int boot_int (la_cons (le_var (pv 4)) la_nil)) le_int) (le_bin o2_mulA le_int (le_item (oi_ix (room_un hr 9)) (le_var (pv 0)) le_int)))) le_int) la_nil)) (le_var (pv 1))))))))))
theorem sc__law_some : FnScope ["_law_pot_here", "_law_pool", "_law_many", "_law_left", "_law_found", "_law_lap"] ["_law_pot_here", "_law_pool", "_law_many"] (defScope s__law_some) := ⟨rfl, rfl, rfl, by decide +kernel, rfl, by decide +kernel, by decide +kernel⟩
theorem ok__law_some (T : Gx P K mg base) : Has P w K mg base 2 (He.ga K "_law_some") ["_law_pot_here", "_law_pool", "_law_many"] m__law_some := show Has P w K mg base 2 (He.ga K "_law_some") ["_law_pot_here", "_law_pool", "_law_many"] (fnBody 3 6 b__law_some) from has_of (N := ["_law_pot_here", "_law_pool", "_law_many", "_law_left", "_law_found", "_law_lap"]) (by kernel_rfl) (by kernel_rfl) T.d__law_some sc__law_some (fun _ _ _ _ _ _ us hl => match us, hl with | [_, _, _], _ => rfl) (fun cdv A outer s H E hr =>
  (lss_cons (ls_par (i := 3) (j := 4) rfl sc__law_some.nd rfl rfl (by decide) rfl rfl (la_cons (le_ct (oc_listB rfl) rfl T.n_list boot_list (la_cons (le_var (pv 1)) la_nil)) (la_cons (le_lst la_nil) la_nil)) rfl)
  (lss_cons (ls_for (js := [5]) PassesOwn.never rfl (li_range1 rfl T.n_range (le_var (pv 2))) (lg_name (pg_name (i := 5) sc__law_some.nd rfl (by first | exact Or.inl rfl | exact Or.inr rfl))) (lss_one (ls_expr (le_m ty_lst PySem.F.plainAttrs_list PySem.F.slot_list_append PySem.F.type_list_append om_append (le_var (pv 4)) (la_cons (le_m ty_lst PySem.F.plainAttrs_list PySem.F.slot_list_pop PySem.F.type_list_pop om_pop (le_var (pv 3)) (la_cons (leh_call (ok__law_take T) (hr.mono (by decide)) rfl T.g__law_take (la_cons (le_var (pv 0)) (la_cons (le_cb oc_len rfl T.n_len boot_len (la_cons (le_var (pv 3)) la_nil)) la_nil))) la_nil)) la_nil)))))
  (lss_one (ls_ret (le_var (pv 4)))))))
theorem sc__law_names : FnScope ["_law_pot_here", "_law_many", "_law_pool"] ["_law_pot_here", "_law_many"] (defScope s__law_names) := ⟨rfl, rfl, rfl, by decide +kernel, rfl, by decide +kernel, by decide +kernel⟩
theorem ok__law_names (T : Gx P K mg base) : Has P w K mg base 3 (He.ga K "_law_names") ["_law_pot_here", "_law_many"] m__law_names := show Has P w K mg base 3 (He.ga K "_law_names") ["_law_pot_here", "_law_many"] (fnBody 2 3 b__law_names) from has_of (N := ["_law_pot_here", "_law_many", "_law_pool"]) (by kernel_rfl) (by kernel_rfl) T.d__law_names sc__law_names (fun _ _ _ _ _ _ us hl => match us, hl with | [_, _], _ => rfl) (fun cdv A outer s H E hr =>
  (lss_cons (ls_asg (js := [2]) (le_lst (la_cons le_str (la_cons le_str (la_cons le_str (la_cons le_str (la_cons le_str (la_cons le_str (la_cons le_str (la_cons le_str (la_cons le_str (la_cons le_str (la_cons le_str (la_cons le_str (la_cons le_str (la_cons le_str la_nil))))))))))))))) (lg_name (pg_name (i := 2) sc__law_names.nd rfl (by first | exact Or.inl rfl | exact Or.inr rfl))))
  (lss_one (ls_ret (leh_call (ok__law_some T) (hr.mono (by decide)) rfl T.g__law_some (la_cons (le_var (pv 0)) (la_cons (le_var (pv 2)) (la_cons (le_var (pv 1)) la_nil))))))))
theorem sc_ReadingD_initD : FnScope ["self"] ["self"] (defScope s_ReadingD_initD) := ⟨rfl, rfl, rfl, by decide +kernel, rfl, by decide +kernel, by decide +kernel⟩
theorem ok_ReadingD_initD (T : Gx P K mg base) : Has P w K mg base 1 (He.ma K aC_Reading "__init__") ["self"] m_ReadingD_initD := show Has P w K mg base 1 (He.ma K aC_Reading "__init__") ["self"] (fnBody 1 1 b_ReadingD_initD) from has_of (N := ["self"]) (by kernel_rfl) (by kernel_rfl) T.d_ReadingD_initD sc_ReadingD_initD (fun _ _ _ _ _ _ us hl => match us, hl with | [_], _ => rfl) (fun cdv A outer s H E hr =>
  (lss_cons (ls_fld (le_var (pv 0)) le_newD T.c_Reading T.na_Reading_named_words)
  (lss_cons (ls_fld (le_var (pv 0)) le_newD T.c_Reading T.na_Reading_named_joints)
  (lss_one (ls_fld (le_var (pv 0)) le_newD T.c_Reading T.na_Reading_named_metres)))))
theorem sc_is_made_of : FnScope ["word", "signs", "sign"] ["word", "signs"] (defScope s_is_made_of) := ⟨rfl, rfl, rfl, by decide +kernel, rfl, by decide +kernel, by decide +kernel⟩
theorem ok_is_made_of (T : Gx P K mg base) : Has P w K mg base 1 (He.ga K "is_made_of") ["word", "signs"] m_is_made_of := show Has P w K mg base 1 (He.ga K "is_made_of") ["word", "signs"] (fnBody 2 3 b_is_made_of) from has_of (N := ["word", "signs", "sign"]) (by kernel_rfl) (by kernel_rfl) T.d_is_made_of sc_is_made_of (fun _ _ _ _ _ _ us hl => match us, hl with | [_, _], _ => rfl) (fun cdv A outer s H E hr =>
  (lss_one (ls_ret (DL.le_and (le_cmp (o2_neA (room_un hr 64)) (le_var (pv 0)) le_str (nomark _)) (le_one (le_cb (oc_all rfl) rfl T.n_all boot_all (la_cons (le_lc (js := [2]) (own := [("sign", 2)]) rfl sc_is_made_of.nd (li_itA (le_var (pv 0))) (blkOk_by (N := ["word", "signs", "sign"]) (sc := defScope s_is_made_of) (by decide +kernel)) (fun _ _ _ _ _ => (lg_name (pg_name (i := 2) sc_is_made_of.nd rfl (by first | exact Or.inl rfl | exact Or.inr rfl)))) (fun _ _ _ _ _ => lts_nil) (fun _ _ _ _ _ => (le_cmp (o2_in (room_un hr 65)) (le_var (pv 2)) (le_var (pv 1)) rfl)) (by decide)) la_nil)))))))
theorem sc_is_name : FnScope ["word"] ["word"] (defScope s_is_name) := ⟨rfl, rfl, rfl, by decide +kernel, rfl, by decide +kernel, by decide +kernel⟩
theorem ok_is_name (T : Gx P K mg base) : Has P w K mg base 2 (He.ga K "is_name") ["word"] m_is_name := show Has P w K mg base 2 (He.ga K "is_name") ["word"] (fnBody 1 1 b_is_name) from has_of (N := ["word"]) (by kernel_rfl) (by kernel_rfl) T.d_is_name sc_is_name (fun _ _ _ _ _ _ us hl => match us, hl with | [_], _ => rfl) (fun cdv A outer s H E hr =>
  (lss_one (ls_ret (DL.le_and (le_cmp o2_le (le_cb oc_len rfl T.n_len boot_len (la_cons (le_var (pv 0)) la_nil)) (le_const (v := .int _) rfl T.i_MOST_SIGNS fun _ _ => .int _) (nomark _)) (le_one (leh_call (ok_is_made_of T).apart (hr.mono (by decide)) rfl T.g_is_made_of (la_cons (le_var (pv 0)) (la_cons (le_const (v := .str _) rfl T.s_LETTERS fun _ _ => .str _) la_nil))))))))
theorem sc_Reading_take_word : FnScope ["self", "words", "is_late", "name", "head", "signs", "end", "unknown", "row"] ["self", "words"] (defScope s_Reading_take_word) := ⟨rfl, rfl, rfl, by decide +kernel, rfl, by decide +kernel, by decide +kernel⟩
theorem ok_Reading_take_word (T : Gx P K mg base) : Has P w K mg base 3 (He.ma K aC_Reading "take_word") ["self", "words"] m_Reading_take_word := show Has P w K mg base 3 (He.ma K aC_Reading "take_word") ["self", "words"] (fnBody 2 9 b_Reading_take_word) from has_of (N := ["self", "words", "is_late", "name", "head", "signs", "end", "unknown", "row"]) (by kernel_rfl) (by kernel_rfl) T.d_Reading_take_word sc_Reading_take_word (fun _ _ _ _ _ _ us hl => match us, hl with | [_, _], _ => rfl) (fun cdv A outer s H E hr =>
  (lss_cons (ls_asg (js := [2]) (DL.le_or (le_cmp (o2_neA (room_un hr 64)) (le_fld (le_var (pv 0)) T.c_Reading T.na_Reading_named_joints) le_newD (nomark _)) (le_one (le_cmp (o2_neA (room_un hr 64)) (le_fld (le_var (pv 0)) T.c_Reading T.na_Reading_named_metres) le_newD (nomark _)))) (lg_name (pg_name (i := 2) sc_Reading_take_word.nd rfl (by first | exact Or.inl rfl | exact Or.inr rfl))))
  (lss_cons (ls_if (lt_w (lw_or (lt_cmp (o2_neA (room_un hr 64)) (le_cb oc_len rfl T.n_len boot_len (la_cons (le_var (pv 1)) la_nil)) (le_const (v := .int _) rfl T.i_WORD_SIZE fun _ _ => .int _) (nomark _)) (lw_or (lt_cmp (o2_eqA (room_un hr 64)) (le_cb oc_len rfl T.n_len boot_len (la_cons (le_fld (le_var (pv 0)) T.c_Reading T.na_Reading_named_words) la_nil)) (le_const (v := .int _) rfl T.i_MOST_WORDS fun _ _ => .int _) (nomark _)) (lw_or1 (lt_tru (le_var (pv 2)) fun _ => rfl))))) (lss_one (ls_ret le_bl)) lss_nil)
  (lss_cons (ls_asg (js := [3, 4, 5, 6]) (le_cut (le_var (pv 1)) (lo_some le_int) lo_none) (lg_tup (js := [3, 4, 5, 6]) (n := 4) rfl (lgs_cons (LG.wide (js := [3]) (lg_name (pg_name (i := 3) sc_Reading_take_word.nd rfl (by first | exact Or.inl rfl | exact Or.inr rfl))) (by decide)) (lgs_cons (LG.wide (js := [4]) (lg_name (pg_name (i := 4) sc_Reading_take_word.nd rfl (by first | exact Or.inl rfl | exact Or.inr rfl))) (by decide)) (lgs_cons (LG.wide (js := [5]) (lg_name (pg_name (i := 5) sc_Reading_take_word.nd rfl (by first | exact Or.inl rfl | exact Or.inr rfl))) (by decide)) (lgs_cons (LG.wide (js := [6]) (lg_name (pg_name (i := 6) sc_Reading_take_word.nd rfl (by first | exact Or.inl rfl | exact Or.inr rfl))) (by decide)) lgs_nil))))))
  (lss_cons (ls_if (lt_w (lw_or (lt_not (lt_tru (leh_call (ok_is_name T).apart (hr.mono (by decide)) rfl T.g_is_name (la_cons (le_var (pv 3)) la_nil)) fun _ => rfl)) (lw_or (lt_cmp (o2_in (room_un hr 65)) (le_var (pv 3)) (le_fld (le_var (pv 0)) T.c_Reading T.na_Reading_named_words) rfl) (lw_or (lt_cmp (o2_notin (room_un hr 65)) (le_var (pv 4)) (le_ct (oc_tupleA rfl) rfl T.n_tuple boot_tuple (la_cons (le_const (v := .str _) rfl T.s_LETTERS fun _ _ => .str _) la_nil)) rfl) (lw_or1 (lt_cmp (o2_notin (room_un hr 65)) (le_var (pv 6)) (le_ct (oc_tupleA rfl) rfl T.n_tuple boot_tuple (la_cons (le_const (v := .str _) rfl T.s_LETTERS fun _ _ => .str _) la_nil)) rfl)))))) (lss_one (ls_ret le_bl)) lss_nil)
  (lss_cons (ls_if (lt_w (lw_or (lt_not (lt_tru (leh_call (ok_is_made_of T).apart (hr.mono (by decide)) rfl T.g_is_made_of (la_cons (le_var (pv 5)) (la_cons (le_tup (la_cons (le_const (v := .str _) rfl T.s_LONG fun _ _ => .str _) (la_cons (le_const (v := .str _) rfl T.s_SHORT fun _ _ => .str _) (la_cons (le_const (v := .str _) rfl T.s_UNKNOWN fun _ _ => .str _) la_nil)))) la_nil))) fun _ => rfl)) (lw_or1 (lt_cmp o2_gt (le_cb oc_len rfl T.n_len boot_len (la_cons (le_var (pv 5)) la_nil)) (le_const (v := .int _) rfl T.i_MOST_SYLLABLES fun _ _ => .int _) (nomark _))))) (lss_one (ls_ret le_bl)) lss_nil)
  (lss_cons (ls_asg (js := [7]) (le_cb (oc_sum rfl) rfl T.n_sum boot_sum (la_cons (le_lc (js := [8]) (own := [("row", 8)]) rfl sc_Reading_take_word.nd (li_vals (le_fld (le_var (pv 0)) T.c_Reading T.na_Reading_named_words)) (blkOk_by (N := ["self", "words", "is_late", "name", "head", "signs", "end", "unknown", "row"]) (sc := defScope s_Reading_take_word) (by decide +kernel)) (fun _ _ _ _ _ => (lg_name (pg_name (i := 8) sc_Reading_take_word.nd rfl (by first | exact Or.inl rfl | exact Or.inr rfl)))) (fun _ _ _ _ _ => lts_nil) (fun _ _ _ _ _ => (le_m ty_str PySem.F.plainAttrs_str PySem.F.slot_str_count PySem.F.type_str_count om_count (le_item (oi_ix (room_un hr 9)) (le_var (pv 8)) le_int) (la_cons (le_const (v := .str _) rfl T.s_UNKNOWN fun _ _ => .str _) la_nil))) (by decide)) la_nil)) (lg_name (pg_name (i := 7) sc_Reading_take_word.nd rfl (by first | exact Or.inl rfl | exact Or.inr rfl))))
  (lss_cons (ls_if (lt_cmp o2_gt (le_bin o2_add (le_var (pv 7)) (le_m ty_str PySem.F.plainAttrs_str PySem.F.slot_str_count PySem.F.type_str_count om_count (le_var (pv 5)) (la_cons (le_const (v := .str _) rfl T.s_UNKNOWN fun _ _ => .str _) la_nil))) (le_const (v := .int _) rfl T.i_MOST_UNKNOWN fun _ _ => .int _) (nomark _)) (lss_one (ls_ret le_bl)) lss_nil)
  (lss_cons (ls_asg (js := []) (le_tup (la_cons (le_var (pv 4)) (la_cons (le_var (pv 5)) (la_cons (le_var (pv 6)) la_nil)))) (lg_item (room_un hr 9) (le_fld (le_var (pv 0)) T.c_Reading T.na_Reading_named_words) (le_var (pv 3))))
  (lss_one (ls_ret le_bl)))))))))))
theorem sc_Reading_take_joint : FnScope ["self", "words", "is_out", "end", "head", "what"] ["self", "words"] (defScope s_Reading_take_joint) := ⟨rfl, rfl, rfl, by decide +kernel, rfl, by decide +kernel, by decide +kernel⟩
theorem ok_Reading_take_joint (T : Gx P K mg base) : Has P w K mg base 1 (He.ma K aC_Reading "take_joint") ["self", "words"] m_Reading_take_joint := show Has P w K mg base 1 (He.ma K aC_Reading "take_joint") ["self", "words"] (fnBody 2 6 b_Reading_take_joint) from has_of (N := ["self", "words", "is_out", "end", "head", "what"]) (by kernel_rfl) (by kernel_rfl) T.d_Reading_take_joint sc_Reading_take_joint (fun _ _ _ _ _ _ us hl => match us, hl with | [_, _], _ => rfl) (fun cdv A outer s H E hr =>
  (lss_cons (ls_asg (js := [2]) (DL.le_or (le_cmp (o2_eqA (room_un hr 64)) (le_fld (le_var (pv 0)) T.c_Reading T.na_Reading_named_words) le_newD (nomark _)) (le_one (le_cmp (o2_neA (room_un hr 64)) (le_fld (le_var (pv 0)) T.c_Reading T.na_Reading_named_metres) le_newD (nomark _)))) (lg_name (pg_name (i := 2) sc_Reading_take_joint.nd rfl (by first | exact Or.inl rfl | exact Or.inr rfl))))
  (lss_cons (ls_if (lt_w (lw_or (lt_cmp (o2_neA (room_un hr 64)) (le_cb oc_len rfl T.n_len boot_len (la_cons (le_var (pv 1)) la_nil)) (le_const (v := .int _) rfl T.i_JOINT_SIZE fun _ _ => .int _) (nomark _)) (lw_or (lt_cmp (o2_eqA (room_un hr 64)) (le_cb oc_len rfl T.n_len boot_len (la_cons (le_fld (le_var (pv 0)) T.c_Reading T.na_Reading_named_joints) la_nil)) (le_const (v := .int _) rfl T.i_MOST_JOINTS fun _ _ => .int _) (nomark _)) (lw_or1 (lt_tru (le_var (pv 2)) fun _ => rfl))))) (lss_one (ls_ret le_bl)) lss_nil)
  (lss_cons (ls_asg (js := [3, 4, 5]) (le_cut (le_var (pv 1)) (lo_some le_int) lo_none) (lg_tup (js := [3, 4, 5]) (n := 3) rfl (lgs_cons (LG.wide (js := [3]) (lg_name (pg_name (i := 3) sc_Reading_take_joint.nd rfl (by first | exact Or.inl rfl | exact Or.inr rfl))) (by decide)) (lgs_cons (LG.wide (js := [4]) (lg_name (pg_name (i := 4) sc_Reading_take_joint.nd rfl (by first | exact Or.inl rfl | exact Or.inr rfl))) (by decide)) (lgs_cons (LG.wide (js := [5]) (lg_name (pg_name (i := 5) sc_Reading_take_joint.nd rfl (by first | exact Or.inl rfl | exact Or.inr rfl))) (by decide)) lgs_nil)))))
  (lss_cons (ls_if (lt_w (lw_or (lt_cmp (o2_notin (room_un hr 65)) (le_var (pv 3)) (le_ct (oc_tupleA rfl) rfl T.n_tuple boot_tuple (la_cons (le_const (v := .str _) rfl T.s_LETTERS fun _ _ => .str _) la_nil)) rfl) (lw_or (lt_cmp (o2_notin (room_un hr 65)) (le_var (pv 4)) (le_ct (oc_tupleA rfl) rfl T.n_tuple boot_tuple (la_cons (le_const (v := .str _) rfl T.s_LETTERS fun _ _ => .str _) la_nil)) rfl) (lw_or1 (lt_cmp (o2_notin (room_un hr 65)) (le_var (pv 5)) (le_tup (la_cons (le_const (v := .str _) rfl T.s_DROP fun _ _ => .str _) (la_cons (le_const (v := .str _) rfl T.s_MAY fun _ _ => .str _) (la_cons (le_const (v := .str _) rfl T.s_STRETCH fun _ _ => .str _) la_nil)))) rfl))))) (lss_one (ls_ret le_bl)) lss_nil)
  (lss_cons (ls_if (lt_cmp (o2_in (room_un hr 65)) (le_tup (la_cons (le_var (pv 3)) (la_cons (le_var (pv 4)) la_nil))) (le_fld (le_var (pv 0)) T.c_Reading T.na_Reading_named_joints) rfl) (lss_one (ls_ret le_bl)) lss_nil)
  (lss_cons (ls_asg (js := []) (le_var (pv 5)) (lg_item (room_un hr 9) (le_fld (le_var (pv 0)) T.c_Reading T.na_Reading_named_joints) (le_tup (la_cons (le_var (pv 3)) (la_cons (le_var (pv 4)) la_nil)))))
  (lss_one (ls_ret le_bl)))))))))
theorem sc_forms_in : FnScope ["text", "forms", "form"] ["text"] (defScope s_forms_in) := ⟨rfl, rfl, rfl, by decide +kernel, rfl, by decide +kernel, by decide +kernel⟩
theorem ok_forms_in (T : Gx P K mg base) : Has P w K mg base 2 (He.ga K "forms_in") ["text"] m_forms_in := show Has P w K mg base 2 (He.ga K "forms_in") ["text"] (fnBody 1 3 b_forms_in) from has_of (N := ["text", "forms", "form"]) (by kernel_rfl) (by kernel_rfl) T.d_forms_in sc_forms_in (fun _ _ _ _ _ _ us hl => match us, hl with | [_], _ => rfl) (fun cdv A outer s H E hr =>
  (lss_cons (ls_asg (js := [1]) (le_m ty_str PySem.F.plainAttrs_str PySem.F.slot_str_split PySem.F.type_str_split om_split (le_var (pv 0)) (la_cons (le_const (v := .str _) rfl T.s_SLASH fun _ _ => .str _) la_nil)) (lg_name (pg_name (i := 1) sc_forms_in.nd rfl (by first | exact Or.inl rfl | exact Or.inr rfl))))
  (lss_cons (ls_if (lt_w (lw_or (lt_cmp o2_gt (le_cb oc_len rfl T.n_len boot_len (la_cons (le_var (pv 1)) la_nil)) (le_const (v := .int _) rfl T.i_MOST_FORMS fun _ _ => .int _) (nomark _)) (lw_or1 (lt_cmp o2_lt (le_lenSet rfl rfl T.n_len rfl T.n_set (le_var (pv 1))) (le_cb oc_len rfl T.n_len boot_len (la_cons (le_var (pv 1)) la_nil)) (nomark _))))) (lss_one (ls_ret le_non)) lss_nil)
  (lss_cons (ls_for (js := [2]) PassesOwn.never rfl (li_itA (le_var (pv 1))) (lg_name (pg_name (i := 2) sc_forms_in.nd rfl (by first | exact Or.inl rfl | exact Or.inr rfl))) (lss_one (ls_if (lt_w (lw_or (lt_cmp o2_gt (le_cb oc_len rfl T.n_len boot_len (la_cons (le_var (pv 2)) la_nil)) (le_const (v := .int _) rfl T.i_MOST_SYLLABLES fun _ _ => .int _) (nomark _)) (lw_or1 (lt_not (lt_tru (leh_call (ok_is_made_of T).apart (hr.mono (by decide)) rfl T.g_is_made_of (la_cons (le_var (pv 2)) (la_cons (le_tup (la_cons (le_const (v := .str _) rfl T.s_LONG fun _ _ => .str _) (la_cons (le_const (v := .str _) rfl T.s_SHORT fun _ _ => .str _) (la_cons (le_const (v := .str _) rfl T.s_EITHER fun _ _ => .str _) la_nil)))) la_nil))) fun _ => rfl))))) (lss_one (ls_ret le_non)) lss_nil)))
  (lss_one (ls_ret (le_ct (oc_tupleA rfl) rfl T.n_tuple boot_tuple (la_cons (le_var (pv 1)) la_nil))))))))
theorem sc_parts_in : FnScope ["text", "many", "starred", "forms"] ["text"] (defScope s_parts_in) := ⟨rfl, rfl, rfl, by decide +kernel, rfl, by decide +kernel, by decide +kernel⟩
theorem ok_parts_in (T : Gx P K mg base) : Has P w K mg base 3 (He.ga K "parts_in") ["text"] m_parts_in := show Has P w K mg base 3 (He.ga K "parts_in") ["text"] (fnBody 1 4 b_parts_in) from has_of (N := ["text", "many", "starred", "forms"]) (by kernel_rfl) (by kernel_rfl) T.d_parts_in sc_parts_in (fun _ _ _ _ _ _ us hl => match us, hl with | [_], _ => rfl) (fun cdv A outer s H E hr =>
  (lss_cons (ls_if (lt_cmp (o2_in (room_un hr 65)) (le_var (pv 0)) (le_tup (la_cons (le_const (v := .str _) rfl T.s_ENDS fun _ _ => .str _) (la_cons (le_const (v := .str _) rfl T.s_AMID fun _ _ => .str _) la_nil))) rfl) (lss_one (ls_ret (le_tup (la_cons (le_var (pv 0)) la_nil)))) lss_nil)
  (lss_cons (ls_par (i := 1) (j := 2) rfl sc_parts_in.nd rfl rfl (by decide) rfl rfl (la_cons le_int (la_cons (le_cmp (o2_eqA (room_un hr 64)) (le_item (oi_ix (room_un hr 9)) (le_var (pv 0)) le_int) (le_const (v := .str _) rfl T.s_STAR fun _ _ => .str _) (nomark _)) la_nil)) rfl)
  (lss_cons (ls_if (lt_tru (le_var (pv 2)) fun _ => rfl) (lss_one (ls_asg (js := [0]) (le_cut (le_var (pv 0)) (lo_some le_int) lo_none) (lg_name (pg_name (i := 0) sc_parts_in.nd rfl (by first | exact Or.inl rfl | exact Or.inr rfl))))) (lss_one (ls_if (lt_w (lw_and (lt_cmp o2_gt (le_cb oc_len rfl T.n_len boot_len (la_cons (le_var (pv 0)) la_nil)) le_int (nomark _)) (lw_and (lt_cmp (o2_eqA (room_un hr 64)) (le_item (oi_ix (room_un hr 9)) (le_var (pv 0)) le_int) (le_const (v := .str _) rfl T.s_STAR fun _ _ => .str _) (nomark _)) (lw_and1 (lt_cmp (o2_in (room_un hr 65)) (le_item (oi_ix (room_un hr 9)) (le_var (pv 0)) le_int) (le_cut (le_const (v := .str _) rfl T.s_FIGURES fun _ _ => .str _) (lo_some le_int) lo_none) rfl))))) (lss_one (ls_par (i := 1) (j := 0) rfl sc_parts_in.nd rfl rfl (by decide) rfl rfl (la_cons (le_ct oc_int rfl T.n_int boot_int (la_cons (le_item (oi_ix (room_un hr 9)) (le_var (pv 0)) le_int) la_nil)) (la_cons (le_cut (le_var (pv 0)) (lo_some le_int) lo_none) la_nil)) rfl)) lss_nil)))
  (lss_cons (ls_asg (js := [3]) (leh_call (ok_forms_in T).apart (hr.mono (by decide)) rfl T.g_forms_in (la_cons (le_var (pv 0)) la_nil)) (lg_name (pg_name (i := 3) sc_parts_in.nd rfl (by first | exact Or.inl rfl | exact Or.inr rfl))))
  (lss_one (ls_ret (DL.le_if (lt_cmp o2_is (le_var (pv 3)) le_non (nomark _)) le_non (le_bin o2_mulA (le_tup (la_cons (le_tup (la_cons (le_var (pv 2)) (la_cons (le_var (pv 3)) la_nil))) la_nil)) (le_var (pv 1)))))))))))
theorem sc_metre_parts : FnScope ["words", "some", "found", "word", "row", "part"] ["words"] (defScope s_metre_parts) := ⟨rfl, rfl, rfl, by decide +kernel, rfl, by decide +kernel, by decide +kernel⟩
theorem ok_metre_parts (T : Gx P K mg base) : Has P w K mg base 4 (He.ga K "metre_parts") ["words"] m_metre_parts := show Has P w K mg base 4 (He.ga K "metre_parts") ["words"] (fnBody 1 6 b_metre_parts) from has_of (N := ["words", "some", "found", "word", "row", "part"]) (by kernel_rfl) (by kernel_rfl) T.d_metre_parts sc_metre_parts (fun _ _ _ _ _ _ us hl => match us, hl with | [_], _ => rfl) (fun cdv A outer s H E hr =>
  (lss_cons (ls_if (lt_not (lt_chain o2_le o2_le le_int (le_cb oc_len rfl T.n_len boot_len (la_cons (le_var (pv 0)) la_nil)) (le_const (v := .int _) rfl T.i_MOST_PARTS fun _ _ => .int _))) (lss_one (ls_ret le_non)) lss_nil)
  (lss_cons (ls_setLc (i := 1) (js := [3]) (own := [("word", 3)]) rfl sc_metre_parts.nd rfl rfl (sw_true rfl rfl rfl (by decide +kernel)) (li_itA (le_var (pv 0))) (blkOk_by (N := ["words", "some", "found", "word", "row", "part"]) (sc := defScope s_metre_parts) (by decide +kernel)) (fun _ _ _ _ _ => (lg_name (pg_name (i := 3) sc_metre_parts.nd rfl (by first | exact Or.inl rfl | exact Or.inr rfl)))) (fun _ _ _ _ _ => lts_nil) (fun _ _ _ _ _ => (leh_call (ok_parts_in T).apart (hr.mono (by decide)) rfl T.g_parts_in (la_cons (le_var (pv 3)) la_nil))) (by decide))
  (lss_cons (ls_if (lt_cmp (o2_in (room_un hr 65)) le_non (le_var (pv 1)) rfl) (lss_one (ls_ret le_non)) lss_nil)
  (lss_cons (ls_asg (js := [2]) (le_ct (oc_tupleA rfl) rfl T.n_tuple boot_tuple (la_cons (le_lc2 (js := [4]) (js1 := [5]) (own := [("row", 4), ("part", 5)]) (vs1 := [5]) rfl sc_metre_parts.nd (li_itA (le_var (pv 1))) (blkOk_by (N := ["words", "some", "found", "word", "row", "part"]) (sc := defScope s_metre_parts) (by decide +kernel)) (by decide) (fun _ _ _ _ _ => (lg_name (pg_name (i := 4) sc_metre_parts.nd rfl (by first | exact Or.inl rfl | exact Or.inr rfl)))) (fun _ _ _ _ _ => lts_nil) (fun _ _ _ _ _ => (li_itA (le_var (pv 4)))) (fun _ _ _ _ _ => (lg_name (pg_name (i := 5) sc_metre_parts.nd rfl (by first | exact Or.inl rfl | exact Or.inr rfl)))) (fun _ _ _ _ _ => lts_nil) (fun _ _ _ _ _ => (le_var (pv 5))) (by decide) (by decide)) la_nil)) (lg_name (pg_name (i := 2) sc_metre_parts.nd rfl (by first | exact Or.inl rfl | exact Or.inr rfl))))
  (lss_one (ls_ret (DL.le_if (lt_cmp o2_le (le_cb oc_len rfl T.n_len boot_len (la_cons (le_var (pv 2)) la_nil)) (le_const (v := .int _) rfl T.i_MOST_DRAWN_OUT fun _ _ => .int _) (nomark _)) (le_var (pv 2)) le_non))))))))
theorem sc_Reading_take_metre : FnScope ["self", "words", "parts"] ["self", "words"] (defScope s_Reading_take_metre) := ⟨rfl, rfl, rfl, by decide +kernel, rfl, by decide +kernel, by decide +kernel⟩
theorem ok_Reading_take_metre (T : Gx P K mg base) : Has P w K mg base 5 (He.ma K aC_Reading "take_metre") ["self", "words"] m_Reading_take_metre := show Has P w K mg base 5 (He.ma K aC_Reading "take_metre") ["self", "words"] (fnBody 2 3 b_Reading_take_metre) from has_of (N := ["self", "words", "parts"]) (by kernel_rfl) (by kernel_rfl) T.d_Reading_take_metre sc_Reading_take_metre (fun _ _ _ _ _ _ us hl => match us, hl with | [_, _], _ => rfl) (fun cdv A outer s H E hr =>
  (lss_cons (ls_if (lt_w (lw_or (lt_cmp o2_lt (le_cb oc_len rfl T.n_len boot_len (la_cons (le_var (pv 1)) la_nil)) (le_const (v := .int _) rfl T.i_METRE_SIZE fun _ _ => .int _) (nomark _)) (lw_or (lt_cmp (o2_eqA (room_un hr 64)) (le_cb oc_len rfl T.n_len boot_len (la_cons (le_fld (le_var (pv 0)) T.c_Reading T.na_Reading_named_metres) la_nil)) (le_const (v := .int _) rfl T.i_MOST_METRES fun _ _ => .int _) (nomark _)) (lw_or1 (lt_cmp (o2_eqA (room_un hr 64)) (le_fld (le_var (pv 0)) T.c_Reading T.na_Reading_named_words) le_newD (nomark _)))))) (lss_one (ls_ret le_bl)) lss_nil)
  (lss_cons (ls_asg (js := [2]) (leh_call (ok_metre_parts T) (hr.mono (by decide)) rfl T.g_metre_parts (la_cons (le_cut (le_var (pv 1)) (lo_some le_int) lo_none) la_nil)) (lg_name (pg_name (i := 2) sc_Reading_take_metre.nd rfl (by first | exact Or.inl rfl | exact Or.inr rfl))))
  (lss_cons (ls_if (lt_w (lw_or (lt_not (lt_tru (leh_call (ok_is_name T).apart (hr.mono (by decide)) rfl T.g_is_name (la_cons (le_item (oi_ix (room_un hr 9)) (le_var (pv 1)) le_int) la_nil)) fun _ => rfl)) (lw_or (lt_cmp (o2_in (room_un hr 65)) (le_item (oi_ix (room_un hr 9)) (le_var (pv 1)) le_int) (le_fld (le_var (pv 0)) T.c_Reading T.na_Reading_named_metres) rfl) (lw_or1 (lt_cmp o2_is (le_var (pv 2)) le_non (nomark _)))))) (lss_one (ls_ret le_bl)) lss_nil)
  (lss_cons (ls_asg (js := []) (le_var (pv 2)) (lg_item (room_un hr 9) (le_fld (le_var (pv 0)) T.c_Reading T.na_Reading_named_metres) (le_item (oi_ix (room_un hr 9)) (le_var (pv 1)) le_int)))
  (lss_one (ls_ret le_bl)))))))
theorem sc_Reading_take : FnScope ["self", "line", "words"] ["self", "line"] (defScope s_Reading_take) := ⟨rfl, rfl, rfl, by decide +kernel, rfl, by decide +kernel, by decide +kernel⟩
theorem ok_Reading_take (T : Gx P K mg base) : Has P w K mg base 6 (He.ma K aC_Reading "take") ["self", "line"] m_Reading_take := show Has P w K mg base 6 (He.ma K aC_Reading "take") ["self", "line"] (fnBody 2 3 b_Reading_take) from has_of (N := ["self", "line", "words"]) (by kernel_rfl) (by kernel_rfl) T.d_Reading_take sc_Reading_take (fun _ _ _ _ _ _ us hl => match us, hl with | [_, _], _ => rfl) (fun cdv A outer s H E hr =>
  (lss_cons (ls_asg (js := [2]) (le_m ty_str PySem.F.plainAttrs_str PySem.F.slot_str_split PySem.F.type_str_split om_split (le_var (pv 1)) (la_cons (le_const (v := .str _) rfl T.s_BLANK fun _ _ => .str _) la_nil)) (lg_name (pg_name (i := 2) sc_Reading_take.nd rfl (by first | exact Or.inl rfl | exact Or.inr rfl))))
  (lss_cons (ls_if (lt_cmp (o2_in (room_un hr 65)) le_str (le_var (pv 2)) rfl) (lss_one (ls_ret le_bl)) lss_nil)
  (lss_cons (ls_if (lt_cmp (o2_eqA (room_un hr 64)) (le_item (oi_ix (room_un hr 9)) (le_var (pv 2)) le_int) (le_const (v := .str _) rfl T.s_WORD fun _ _ => .str _) (nomark _)) (lss_one (ls_ret (leh_meth (pl := _) (le_var (pv 0)) T.c_Reading T.m_Reading_take_word (ok_Reading_take_word T) (hr.mono (by decide)) (la_cons (le_var (pv 2)) la_nil)))) lss_nil)
  (lss_cons (ls_if (lt_cmp (o2_eqA (room_un hr 64)) (le_item (oi_ix (room_un hr 9)) (le_var (pv 2)) le_int) (le_const (v := .str _) rfl T.s_JOINT fun _ _ => .str _) (nomark _)) (lss_one (ls_ret (leh_meth (pl := _) (le_var (pv 0)) T.c_Reading T.m_Reading_take_joint (ok_Reading_take_joint T) (hr.mono (by decide)) (la_cons (le_var (pv 2)) la_nil)))) lss_nil)
  (lss_one (ls_ret (DL.le_and (le_cmp (o2_eqA (room_un hr 64)) (le_item (oi_ix (room_un hr 9)) (le_var (pv 2)) le_int) (le_const (v := .str _) rfl T.s_METRE fun _ _ => .str _) (nomark _)) (le_one (leh_meth (pl := _) (le_var (pv 0)) T.c_Reading T.m_Reading_take_metre (ok_Reading_take_metre T) (hr.mono (by decide)) (la_cons (le_var (pv 2)) la_nil)))))))))))
theorem sc_read_lines : FnScope ["text", "lines", "found", "number", "line"] ["text"] (defScope s_read_lines) := ⟨rfl, rfl, rfl, by decide +kernel, rfl, by decide +kernel, by decide +kernel⟩
theorem ok_read_lines (T : Gx P K mg base) : HasX P w K mg base 7 (He.ga K "read_lines") ["text"] m_read_lines := show HasX P w K mg base 7 (He.ga K "read_lines") ["text"] (fnBody 1 5 b_read_lines) from hasX_of (N := ["text", "lines", "found", "number", "line"]) (by kernel_rfl) (by kernel_rfl) T.d_read_lines sc_read_lines (fun _ _ _ _ _ _ us hl => match us, hl with | [_], _ => rfl) (fun cdv A outer s H E hr =>
  (lss_cons (ls_if (lt_pure (lt_not (lt_tru (le_isi (v0 := .ty "str") (isiB_of (n := .str) (cs := []) (.inr (.inl rfl)) (by simp)) (fun u h => h) rfl T.n_isinstance (le_var (pv 0)) (pe_bltn rfl T.n_str boot_str rfl)) fun _ => rfl))) (lss_one (ls_raise xw_of rfl T.xi T.xc_BadTongue (hr.mono (by decide)) rfl T.g_BadTongue (le_pure le_int))) lss_nil)
  (lss_cons (ls_pure (ls_par (i := 1) (j := 2) rfl sc_read_lines.nd rfl rfl (by decide) rfl rfl (la_cons (le_m ty_str PySem.F.plainAttrs_str PySem.F.slot_str_split PySem.F.type_str_split om_split (le_var (pv 0)) (la_cons (le_const (v := .str _) rfl T.s_FEED fun _ _ => .str _) la_nil)) (la_cons (leh_make0 T.mk_Reading (ok_ReadingD_initD T) (hr.mono (by decide)) rfl T.g_Reading) la_nil)) rfl))
  (lss_cons (ls_for (js := [3, 4]) po_of rfl (li_enum rfl T.n_enumerate (le_pure (le_var (pv 1)))) (lg_tup (js := [3, 4]) (n := 2) rfl (lgs_cons (LG.wide (js := [3]) (lg_name (pg_name (i := 3) sc_read_lines.nd rfl (by first | exact Or.inl rfl | exact Or.inr rfl))) (by decide)) (lgs_cons (LG.wide (js := [4]) (lg_name (pg_name (i := 4) sc_read_lines.nd rfl (by first | exact Or.inl rfl | exact Or.inr rfl))) (by decide)) lgs_nil))) (lss_one (ls_if (lt_pure (lt_not (lt_tru (leh_meth (pl := _) (le_var (pv 2)) T.c_Reading T.m_Reading_take (ok_Reading_take T) (hr.mono (by decide)) (la_cons (le_var (pv 4)) la_nil)) fun _ => rfl))) (lss_one (ls_raise xw_of rfl T.xi T.xc_BadTongue (hr.mono (by decide)) rfl T.g_BadTongue (le_pure (le_bin o2_add (le_var (pv 3)) le_int)))) lss_nil)))
  (lss_cons (ls_if (lt_pure (lt_cmp (o2_eqA (room_un hr 64)) (le_fld (le_var (pv 2)) T.c_Reading T.na_Reading_named_metres) le_newD (nomark _))) (lss_one (ls_raise xw_of rfl T.xi T.xc_BadTongue (hr.mono (by decide)) rfl T.g_BadTongue (le_pure (le_bin o2_add (le_cb oc_len rfl T.n_len boot_len (la_cons (le_var (pv 1)) la_nil)) le_int)))) lss_nil)
  (lss_one (ls_pure (ls_ret (le_var (pv 2))))))))))
theorem sc_TongueD_initD : FnScope ["self", "text", "reading", "found", "name", "row", "at", "sign"] ["self", "text"] (defScope s_TongueD_initD) := ⟨rfl, rfl, rfl, by decide +kernel, rfl, by decide +kernel, by decide +kernel⟩
theorem ok_TongueD_initD (T : Gx P K mg base) : HasX P w K mg base 8 (He.ma K aC_Tongue "__init__") ["self", "text"] m_TongueD_initD := show HasX P w K mg base 8 (He.ma K aC_Tongue "__init__") ["self", "text"] (fnBody 2 8 b_TongueD_initD) from hasX_of (N := ["self", "text", "reading", "found", "name", "row", "at", "sign"]) (by kernel_rfl) (by kernel_rfl) T.d_TongueD_initD sc_TongueD_initD (fun _ _ _ _ _ _ us hl => match us, hl with | [_, _], _ => rfl) (fun cdv A outer s H E hr =>
  (lss_cons (ls_asg (js := [2]) (leh_callX xw_of (ok_read_lines T) (hr.mono (by decide)) rfl T.g_read_lines (la_cons (le_pure (le_var (pv 1))) la_nil)) (lg_name (pg_name (i := 2) sc_TongueD_initD.nd rfl (by first | exact Or.inl rfl | exact Or.inr rfl))))
  (lss_cons (ls_pure (ls_fld (le_var (pv 0)) (le_var (pv 1)) T.c_Tongue T.na_Tongue_own_text))
  (lss_cons (ls_pure (ls_fld (le_var (pv 0)) (le_fld (le_var (pv 2)) T.c_Reading T.na_Reading_named_words) T.c_Tongue T.na_Tongue_own_words))
  (lss_cons (ls_pure (ls_fld (le_var (pv 0)) (le_ct (oc_tupleA rfl) rfl T.n_tuple boot_tuple (la_cons (le_ct (oc_listB rfl) rfl T.n_list boot_list (la_cons (le_fld (le_var (pv 2)) T.c_Reading T.na_Reading_named_words) la_nil)) la_nil)) T.c_Tongue T.na_Tongue_own_names))
  (lss_cons (ls_pure (ls_fld (le_var (pv 0)) (le_fld (le_var (pv 2)) T.c_Reading T.na_Reading_named_joints) T.c_Tongue T.na_Tongue_own_joints))
  (lss_cons (ls_pure (ls_fld (le_var (pv 0)) (le_fld (le_var (pv 2)) T.c_Reading T.na_Reading_named_metres) T.c_Tongue T.na_Tongue_own_metres))
  (lss_cons (ls_pure (ls_asg (js := [3]) (le_lst la_nil) (lg_name (pg_name (i := 3) sc_TongueD_initD.nd rfl (by first | exact Or.inl rfl | exact Or.inr rfl)))))
  (lss_cons (ls_pure (ls_for (js := [4, 5]) po_of rfl (li_items (le_fld (le_var (pv 2)) T.c_Reading T.na_Reading_named_words)) (lg_tup (js := [4, 5]) (n := 2) rfl (lgs_cons (LG.wide (js := [4]) (lg_name (pg_name (i := 4) sc_TongueD_initD.nd rfl (by first | exact Or.inl rfl | exact Or.inr rfl))) (by decide)) (lgs_cons (LG.wide (js := [5]) (lg_name (pg_name (i := 5) sc_TongueD_initD.nd rfl (by first | exact Or.inl rfl | exact Or.inr rfl))) (by decide)) lgs_nil))) (lss_one (ls_expr (le_m ty_lst PySem.F.plainAttrs_list PySem.F.slot_list_extend PySem.F.type_list_extend om_extend (le_var (pv 3)) (la_cons (le_lc (js := [6, 7]) (own := [("at", 6), ("sign", 7)]) rfl sc_TongueD_initD.nd (li_enum rfl T.n_enumerate (le_item (oi_ix (room_un hr 9)) (le_var (pv 5)) le_int)) (blkOk_by (N := ["self", "text", "reading", "found", "name", "row", "at", "sign"]) (sc := defScope s_TongueD_initD) (by decide +kernel)) (fun _ _ _ _ _ => (lg_tup (js := [6, 7]) (n := 2) rfl (lgs_cons (LG.wide (js := [6]) (lg_name (pg_name (i := 6) sc_TongueD_initD.nd rfl (by first | exact Or.inl rfl | exact Or.inr rfl))) (by decide)) (lgs_cons (LG.wide (js := [7]) (lg_name (pg_name (i := 7) sc_TongueD_initD.nd rfl (by first | exact Or.inl rfl | exact Or.inr rfl))) (by decide)) lgs_nil)))) (fun _ _ _ _ _ => (lts_one (lt_cmp (o2_eqA (room_un hr 64)) (le_var (pv 7)) (le_const (v := .str _) rfl T.s_UNKNOWN fun _ _ => .str _) (nomark _)))) (fun _ _ _ _ _ => (le_tup (la_cons (le_var (pv 4)) (la_cons (le_var (pv 6)) la_nil)))) (by decide)) la_nil))))))
  (lss_one (ls_pure (ls_fld (le_var (pv 0)) (le_ct (oc_tupleA rfl) rfl T.n_tuple boot_tuple (la_cons (le_var (pv 3)) la_nil)) T.c_Tongue T.na_Tongue_own_unknown))))))))))))
theorem sc_Tongue_text : FnScope ["self"] ["self"] (defScope s_Tongue_text) := ⟨rfl, rfl, rfl, by decide +kernel, rfl, by decide +kernel, by decide +kernel⟩
theorem ok_Tongue_text (T : Gx P K mg base) : Has P w K mg base 1 (getterOf K aC_Tongue "text") ["self"] m_Tongue_text := show Has P w K mg base 1 (getterOf K aC_Tongue "text") ["self"] (fnBody 1 1 b_Tongue_text) from has_of (N := ["self"]) (by kernel_rfl) (by kernel_rfl) T.d_Tongue_text sc_Tongue_text (fun _ _ _ _ _ _ us hl => match us, hl with | [_], _ => rfl) (fun cdv A outer s H E hr =>
  (lss_one (ls_ret (le_fld (le_var (pv 0)) T.c_Tongue T.na_Tongue_own_text))))
theorem sc__law_is_let : FnScope ["_law_rows", "_law_caught", "_law_tongue"] ["_law_rows"] (defScope s__law_is_let) := ⟨rfl, rfl, rfl, by decide +kernel, rfl, by decide +kernel, by decide +kernel⟩
theorem ok__law_is_let (T : Gx P K mg base) : HasG P w K mg base 12 (He.ga K "_law_is_let") ["_law_rows"] m__law_is_let := show HasG P w K mg base 12 (He.ga K "_law_is_let") ["_law_rows"] (fnBody 1 3 b__law_is_let) from hasG_ofC (N := ["_law_rows", "_law_caught", "_law_tongue"]) (by kernel_rfl) (by kernel_rfl) T.d__law_is_let sc__law_is_let (fun _ _ _ _ _ _ us hl => match us, hl with | [_], _ => rfl) (fun cdv A outer s H E code quiet hr =>
  (lss_cons (ls_asg (js := [1, 2]) (le_told2 (k := 9) (L := [aC_BadTongue]) (TT := tabL) T.d__law_told sc__law_told (.inl rfl) (fun _ _ _ _ _ _ us hl => match us, hl with | [_], _ => rfl) (fun cdv => told_gives (m := "MetreError") sc__law_told.nd rfl rfl rfl rfl rfl T.g_MetreError (by decide)) T.g__law_told (T.tb (326, 322) (.tail _ (.head _))) (codeAt_of T.ca__law_is_let code) T.tabs (.tail _ (.head _)) (List.forall_mem_cons.mpr ⟨fun h => absurd h (by decide), (List.forall_mem_cons.mpr ⟨fun _ => rfl, (fun _ h => nomatch h)⟩)⟩) (hr.mono (by decide)) rfl (List.forall_mem_cons.mpr ⟨T.em_BadTongue_MetreError, (fun _ h => nomatch h)⟩) (fun E A outer s H f c hr => (leh_makeX xw_lam T.mk_Tongue (ok_TongueD_initD T) (hr.mono (by decide)) rfl T.g_Tongue (la_cons (le_pure (le_m ty_str PySem.F.plainAttrs_str PySem.F.slot_str_join PySem.F.type_str_join om_join le_str (la_cons (le_var (pv 0)) la_nil))) la_nil)))) (lg_tup (js := [1, 2]) (n := 2) rfl (lgs_cons (LG.wide (js := [1]) (lg_name (pg_name (i := 1) sc__law_is_let.nd rfl (by first | exact Or.inl rfl | exact Or.inr rfl))) (by decide)) (lgs_cons (LG.wide (js := [2]) (lg_name (pg_name (i := 2) sc__law_is_let.nd rfl (by first | exact Or.inl rfl | exact Or.inr rfl))) (by decide)) lgs_nil))))
  (lss_one (ls_ret (DL.le_and (le_cmp o2_is (le_var (pv 1)) le_non (nomark _)) (le_one (le_cmp (o2_eqA (room_un hr 64)) (leh_prop (le_var (pv 2)) T.c_Tongue T.p_Tongue_text (ok_Tongue_text T) (hr.mono (by decide))) (le_m ty_str PySem.F.plainAttrs_str PySem.F.slot_str_join PySem.F.type_str_join om_join le_str (la_cons (le_var (pv 0)) la_nil)) (nomark _))))))))
theorem sc__law_is_refused : FnScope ["_law_rows", "_law_number", "_law_caught"] ["_law_rows", "_law_number"] (defScope s__law_is_refused) := ⟨rfl, rfl, rfl, by decide +kernel, rfl, by decide +kernel, by decide +kernel⟩
theorem ok__law_is_refused (T : Gx P K mg base) : HasG P w K mg base 12 (He.ga K "_law_is_refused") ["_law_rows", "_law_number"] m__law_is_refused := show HasG P w K mg base 12 (He.ga K "_law_is_refused") ["_law_rows", "_law_number"] (fnBody 2 3 b__law_is_refused) from hasG_ofC (N := ["_law_rows", "_law_number", "_law_caught"]) (by kernel_rfl) (by kernel_rfl) T.d__law_is_refused sc__law_is_refused (fun _ _ _ _ _ _ us hl => match us, hl with | [_, _], _ => rfl) (fun cdv A outer s H E code quiet hr =>
  (lss_cons (ls_asg (js := [2]) (le_item (oi_ix (room_un hr 9)) (le_told2 (k := 9) (L := [aC_BadTongue]) (TT := tabL) T.d__law_told sc__law_told (.inl rfl) (fun _ _ _ _ _ _ us hl => match us, hl with | [_], _ => rfl) (fun cdv => told_gives (m := "MetreError") sc__law_told.nd rfl rfl rfl rfl rfl T.g_MetreError (by decide)) T.g__law_told (T.tb (319, 315) (.head _)) (codeAt_of T.ca__law_is_refused code) T.tabs (.head _) (List.forall_mem_cons.mpr ⟨fun _ => rfl, (List.forall_mem_cons.mpr ⟨fun h => absurd h (by decide), (fun _ h => nomatch h)⟩)⟩) (hr.mono (by decide)) rfl (List.forall_mem_cons.mpr ⟨T.em_BadTongue_MetreError, (fun _ h => nomatch h)⟩) (fun E A outer s H f c hr => (leh_makeX xw_lam T.mk_Tongue (ok_TongueD_initD T) (hr.mono (by decide)) rfl T.g_Tongue (la_cons (le_pure (le_m ty_str PySem.F.plainAttrs_str PySem.F.slot_str_join PySem.F.type_str_join om_join le_str (la_cons (le_var (pv 0)) la_nil))) la_nil)))) le_int) (lg_name (pg_name (i := 2) sc__law_is_refused.nd rfl (by first | exact Or.inl rfl | exact Or.inr rfl))))
  (lss_one (ls_ret (DL.le_and (le_isi (v0 := .ref aC_BadTongue) (isiE_of (tb := [(aC_BadTongue, true)]) (List.forall_mem_cons.mpr ⟨⟨T.ei_BadTongue.1, T.ko_BadTongue_BadTongue⟩, (fun _ h => nomatch h)⟩) T.kn_BadTongue) (fun u h => h) rfl T.n_isinstance (le_var (pv 2)) (pe_glob rfl T.g_BadTongue rfl)) (le_one (le_cmp (o2_eqA (room_un hr 64)) (le_cb (oc_repr quiet (room_un hr 40)) rfl T.n_repr boot_repr (la_cons (le_xval (L := [aC_BadTongue]) (List.forall_mem_cons.mpr ⟨T.ei_BadTongue.2, (fun _ h => nomatch h)⟩) (le_var (pv 2))) la_nil)) (le_cb (oc_repr quiet (room_un hr 40)) rfl T.n_repr boot_repr (la_cons (le_var (pv 1)) la_nil)) (nomark _))))))))
theorem sc__law_right : FnScope ["_law_pot_here", "_law_names_here", "_law_words", "_law_joints", "_law_end", "_law_metres", "_law_full", "_law_bad", "_law_part", "_law_word", "_law_joint", "_law_name", "_law_head", "_law_rows", "_law_number"] ["_law_pot_here"] (defScope s__law_right) := ⟨rfl, rfl, rfl, by decide +kernel, rfl, by decide +kernel, by decide +kernel⟩
theorem ok__law_right (T : Gx P K mg base) : HasG P w K mg base 13 (He.ga K "_law_right") ["_law_pot_here"] m__law_right := show HasG P w K mg base 13 (He.ga K "_law_right") ["_law_pot_here"] (fnBody 1 15 b__law_right) from hasG_of (N := ["_law_pot_here", "_law_names_here", "_law_words", "_law_joints", "_law_end", "_law_metres", "_law_full", "_law_bad", "_law_part", "_law_word", "_law_joint", "_law_name", "_law_head", "_law_rows", "_law_number"]) (by kernel_rfl) (by kernel_rfl) T.d__law_right sc__law_right (fun _ _ _ _ _ _ us hl => match us, hl with | [_], _ => rfl) (fun cdv A outer s H E quiet hr =>
  (lss_cons (ls_asg (js := [1]) (leh_call (ok__law_names T).gc (hr.mono (by decide)) rfl T.g__law_names (la_cons (le_var (pv 0)) (la_cons le_int la_nil))) (lg_name (pg_name (i := 1) sc__law_right.nd rfl (by first | exact Or.inl rfl | exact Or.inr rfl))))
  (lss_cons (ls_asg (js := [2]) (le_bin o2_add (le_lc (js := [11]) (own := [("_law_name", 11)]) rfl sc__law_right.nd (li_itA (le_cut (le_var (pv 1)) lo_none (lo_some le_int))) (blkOk_by (N := ["_law_pot_here", "_law_names_here", "_law_words", "_law_joints", "_law_end", "_law_metres", "_law_full", "_law_bad", "_law_part", "_law_word", "_law_joint", "_law_name", "_law_head", "_law_rows", "_law_number"]) (sc := defScope s__law_right) (by decide +kernel)) (fun _ _ _ _ _ => (lg_name (pg_name (i := 11) sc__law_right.nd rfl (by first | exact Or.inl rfl | exact Or.inr rfl)))) (fun _ _ _ _ _ => lts_nil) (fun _ _ _ _ _ => (le_bin o2_add (le_bin o2_add le_str (le_var (pv 11))) le_str)) (by decide)) (le_lst (la_cons (le_bin o2_add (le_bin o2_add le_str (le_item (oi_ix (room_un hr 9)) (le_var (pv 1)) le_int)) le_str) la_nil))) (lg_name (pg_name (i := 2) sc__law_right.nd rfl (by first | exact Or.inl rfl | exact Or.inr rfl))))
  (lss_cons (ls_asg (js := [3]) (le_lst la_nil) (lg_name (pg_name (i := 3) sc__law_right.nd rfl (by first | exact Or.inl rfl | exact Or.inr rfl))))
  (lss_cons (ls_for (js := [4]) PassesOwn.never rfl (li_itA (le_tup (la_cons le_str (la_cons le_str (la_cons le_str la_nil))))) (lg_name (pg_name (i := 4) sc__law_right.nd rfl (by first | exact Or.inl rfl | exact Or.inr rfl))) (lss_one (ls_expr (le_m ty_lst PySem.F.plainAttrs_list PySem.F.slot_list_extend PySem.F.type_list_extend om_extend (le_var (pv 3)) (la_cons (le_lc (js := [12]) (own := [("_law_head", 12)]) rfl sc__law_right.nd (li_itA (le_tup (la_cons le_str (la_cons le_str (la_cons le_str la_nil))))) (blkOk_by (N := ["_law_pot_here", "_law_names_here", "_law_words", "_law_joints", "_law_end", "_law_metres", "_law_full", "_law_bad", "_law_part", "_law_word", "_law_joint", "_law_name", "_law_head", "_law_rows", "_law_number"]) (sc := defScope s__law_right) (by decide +kernel)) (fun _ _ _ _ _ => (lg_name (pg_name (i := 12) sc__law_right.nd rfl (by first | exact Or.inl rfl | exact Or.inr rfl)))) (fun _ _ _ _ _ => lts_nil) (fun _ _ _ _ _ => (le_bin o2_add (le_bin o2_add (le_bin o2_add (le_bin o2_add le_str (le_var (pv 4))) le_str) (le_var (pv 12))) le_str)) (by decide)) la_nil)))))
  (lss_cons (ls_asg (js := [5]) (le_lst (la_cons le_str (la_cons le_str (la_cons le_str la_nil)))) (lg_name (pg_name (i := 5) sc__law_right.nd rfl (by first | exact Or.inl rfl | exact Or.inr rfl))))
  (lss_cons (ls_if (lt_w (lw_or (lt_not (lt_tru (leh_callG (ok__law_is_let T).away quiet (hr.mono (by decide)) rfl T.g__law_is_let (la_cons (le_bin o2_add (le_bin o2_add (le_var (pv 2)) (le_var (pv 3))) (le_var (pv 5))) la_nil)) fun _ => rfl)) (lw_or1 (lt_not (lt_tru (leh_callG (ok__law_is_let T).away quiet (hr.mono (by decide)) rfl T.g__law_is_let (la_cons (le_bin o2_add (le_cut (le_var (pv 2)) lo_none (lo_some le_int)) (le_cut (le_var (pv 5)) lo_none (lo_some le_int))) la_nil)) fun _ => rfl))))) (lss_one (ls_ret le_bl)) lss_nil)
  (lss_cons (ls_asg (js := [6]) (le_bin o2_add (le_var (pv 2)) (le_var (pv 3))) (lg_name (pg_name (i := 6) sc__law_right.nd rfl (by first | exact Or.inl rfl | exact Or.inr rfl))))
  (lss_cons (ls_asg (js := [7]) (le_lst (la_cons (le_tup (la_cons (le_bin o2_add (le_bin o2_add (le_var (pv 2)) (le_lst (la_cons (le_bin o2_add (le_bin o2_add le_str (le_item (oi_ix (room_un hr 9)) (le_var (pv 1)) le_int)) le_str) la_nil))) (le_var (pv 5))) (la_cons le_int la_nil))) (la_cons (le_tup (la_cons (le_bin o2_add (le_bin o2_add (le_var (pv 6)) (le_lst (la_cons le_str la_nil))) (le_var (pv 5))) (la_cons le_int la_nil))) la_nil))) (lg_name (pg_name (i := 7) sc__law_right.nd rfl (by first | exact Or.inl rfl | exact Or.inr rfl))))
  (lss_cons (ls_expr (le_m ty_lst PySem.F.plainAttrs_list PySem.F.slot_list_extend PySem.F.type_list_extend om_extend (le_var (pv 7)) (la_cons (le_lst (la_cons (le_tup (la_cons (le_bin o2_add (le_bin o2_add (le_var (pv 6)) (le_var (pv 5))) (le_lst (la_cons le_str la_nil))) (la_cons le_int la_nil))) (la_cons (le_tup (la_cons (le_var (pv 6)) (la_cons le_int la_nil))) (la_cons (le_tup (la_cons (le_cut (le_var (pv 2)) lo_none (lo_some le_int)) (la_cons le_int la_nil))) (la_cons (le_tup (la_cons (le_var (pv 3)) (la_cons le_int la_nil))) (la_cons (le_tup (la_cons (le_var (pv 5)) (la_cons le_int la_nil))) la_nil)))))) la_nil)))
  (lss_cons (ls_expr (le_m ty_lst PySem.F.plainAttrs_list PySem.F.slot_list_extend PySem.F.type_list_extend om_extend (le_var (pv 7)) (la_cons (le_lst (la_cons (le_tup (la_cons (le_bin o2_add (le_cut (le_var (pv 2)) (lo_some le_int) lo_none) (le_lst (la_cons le_str la_nil))) (la_cons le_int la_nil))) (la_cons (le_tup (la_cons (le_lst (la_cons le_str la_nil)) (la_cons le_int la_nil))) la_nil))) la_nil)))
  (lss_cons (ls_expr (le_m ty_lst PySem.F.plainAttrs_list PySem.F.slot_list_append PySem.F.type_list_append om_append (le_var (pv 7)) (la_cons (le_tup (la_cons (le_bin o2_add (le_cut (le_var (pv 2)) lo_none (lo_some le_int)) (le_lst (la_cons le_str la_nil))) (la_cons le_int la_nil))) la_nil)))
  (lss_cons (ls_expr (le_m ty_lst PySem.F.plainAttrs_list PySem.F.slot_list_extend PySem.F.type_list_extend om_extend (le_var (pv 7)) (la_cons (le_lst (la_cons (le_tup (la_cons (le_bin o2_add (le_cut (le_var (pv 2)) lo_none (lo_some le_int)) (le_lst (la_cons le_str la_nil))) (la_cons le_int la_nil))) (la_cons (le_tup (la_cons (le_bin o2_add (le_cut (le_var (pv 2)) lo_none (lo_some le_int)) (le_lst (la_cons le_str la_nil))) (la_cons le_int la_nil))) (la_cons (le_tup (la_cons (le_bin o2_mulA (le_cut (le_var (pv 2)) lo_none (lo_some le_int)) le_int) (la_cons le_int la_nil))) la_nil)))) la_nil)))
  (lss_cons (ls_expr (le_m ty_lst PySem.F.plainAttrs_list PySem.F.slot_list_extend PySem.F.type_list_extend om_extend (le_var (pv 7)) (la_cons (le_lst (la_cons (le_tup (la_cons (le_bin o2_add (le_cut (le_var (pv 2)) lo_none (lo_some le_int)) (le_bin o2_mulA (le_lst (la_cons (le_item (oi_ix (room_un hr 9)) (le_var (pv 3)) le_int) la_nil)) le_int)) (la_cons le_int la_nil))) (la_cons (le_tup (la_cons (le_bin o2_add (le_cut (le_var (pv 2)) lo_none (lo_some le_int)) (le_bin o2_mulA (le_cut (le_var (pv 5)) lo_none (lo_some le_int)) le_int)) (la_cons le_int la_nil))) la_nil))) la_nil)))
  (lss_cons (ls_expr (le_m ty_lst PySem.F.plainAttrs_list PySem.F.slot_list_append PySem.F.type_list_append om_append (le_var (pv 7)) (la_cons (le_tup (la_cons (le_bin o2_add (le_cut (le_var (pv 2)) lo_none (lo_some le_int)) (le_lst (la_cons le_str la_nil))) (la_cons le_int la_nil))) la_nil)))
  (lss_cons (ls_for (js := [8]) PassesOwn.never rfl (li_itA (le_tup (la_cons le_str (la_cons le_str (la_cons le_str (la_cons le_str (la_cons le_str (la_cons le_str (la_cons le_str (la_cons le_str (la_cons le_str (la_cons le_str (la_cons le_str (la_cons le_str (la_cons le_str (la_cons le_str (la_cons le_str la_nil))))))))))))))))) (lg_name (pg_name (i := 8) sc__law_right.nd rfl (by first | exact Or.inl rfl | exact Or.inr rfl))) (lss_one (ls_expr (le_m ty_lst PySem.F.plainAttrs_list PySem.F.slot_list_append PySem.F.type_list_append om_append (le_var (pv 7)) (la_cons (le_tup (la_cons (le_bin o2_add (le_cut (le_var (pv 2)) lo_none (lo_some le_int)) (le_lst (la_cons (le_bin o2_add le_str (le_var (pv 8))) la_nil))) (la_cons le_int la_nil))) la_nil)))))
  (lss_cons (ls_for (js := [9]) PassesOwn.never rfl (li_itA (le_tup (la_cons le_str (la_cons le_str (la_cons le_str (la_cons le_str (la_cons le_str (la_cons le_str la_nil)))))))) (lg_name (pg_name (i := 9) sc__law_right.nd rfl (by first | exact Or.inl rfl | exact Or.inr rfl))) (lss_one (ls_expr (le_m ty_lst PySem.F.plainAttrs_list PySem.F.slot_list_append PySem.F.type_list_append om_append (le_var (pv 7)) (la_cons (le_tup (la_cons (le_bin o2_add (le_cut (le_var (pv 2)) lo_none (lo_some le_int)) (le_lst (la_cons (le_var (pv 9)) la_nil))) (la_cons le_int la_nil))) la_nil)))))
  (lss_cons (ls_for (js := [10]) PassesOwn.never rfl (li_itA (le_tup (la_cons le_str (la_cons le_str (la_cons le_str (la_cons le_str (la_cons le_str (la_cons le_str la_nil)))))))) (lg_name (pg_name (i := 10) sc__law_right.nd rfl (by first | exact Or.inl rfl | exact Or.inr rfl))) (lss_one (ls_expr (le_m ty_lst PySem.F.plainAttrs_list PySem.F.slot_list_append PySem.F.type_list_append om_append (le_var (pv 7)) (la_cons (le_tup (la_cons (le_bin o2_add (le_cut (le_var (pv 2)) lo_none (lo_some le_int)) (le_lst (la_cons (le_var (pv 10)) la_nil))) (la_cons le_int la_nil))) la_nil)))))
  (lss_cons (ls_expr (le_m ty_lst PySem.F.plainAttrs_list PySem.F.slot_list_extend PySem.F.type_list_extend om_extend (le_var (pv 7)) (la_cons (le_lst (la_cons (le_tup (la_cons (le_bin o2_add (le_bin o2_add (le_cut (le_var (pv 2)) lo_none (lo_some le_int)) (le_cut (le_var (pv 5)) lo_none (lo_some le_int))) (le_cut (le_var (pv 3)) lo_none (lo_some le_int))) (la_cons le_int la_nil))) (la_cons (le_tup (la_cons (le_bin o2_add (le_bin o2_add (le_cut (le_var (pv 2)) lo_none (lo_some le_int)) (le_cut (le_var (pv 3)) lo_none (lo_some le_int))) (le_cut (le_var (pv 2)) (lo_some le_int) (lo_some le_int))) (la_cons le_int la_nil))) la_nil))) la_nil)))
  (lss_one (ls_ret (le_cb (oc_all rfl) rfl T.n_all boot_all (la_cons (le_lc (js := [13, 14]) (own := [("_law_rows", 13), ("_law_number", 14)]) rfl sc__law_right.nd (li_itA (le_var (pv 7))) (blkOk_by (N := ["_law_pot_here", "_law_names_here", "_law_words", "_law_joints", "_law_end", "_law_metres", "_law_full", "_law_bad", "_law_part", "_law_word", "_law_joint", "_law_name", "_law_head", "_law_rows", "_law_number"]) (sc := defScope s__law_right) (by decide +kernel)) (fun _ _ _ _ _ => (lg_tup (js := [13, 14]) (n := 2) rfl (lgs_cons (LG.wide (js := [13]) (lg_name (pg_name (i := 13) sc__law_right.nd rfl (by first | exact Or.inl rfl | exact Or.inr rfl))) (by decide)) (lgs_cons (LG.wide (js := [14]) (lg_name (pg_name (i := 14) sc__law_right.nd rfl (by first | exact Or.inl rfl | exact Or.inr rfl))) (by decide)) lgs_nil)))) (fun _ _ _ _ _ => lts_nil) (fun _ _ _ _ _ => (leh_callG (ok__law_is_refused T).away quiet (hr.mono (by decide)) rfl T.g__law_is_refused (la_cons (le_var (pv 13)) (la_cons (le_var (pv 14)) la_nil)))) (by decide)) la_nil)))))))))))))))))))))))
theorem sc__law_pot : FnScope ["_law_script", "_law_k", "_law_cell", "_law_own", "_law_small"] ["_law_script", "_law_k"] (defScope s__law_pot) := ⟨rfl, rfl, rfl, by decide +kernel, rfl, by decide +kernel, by decide +kernel⟩
theorem ok__law_pot (T : Gx P K mg base) : Has P w K mg base 1 (He.ga K "_law_pot") ["_law_script", "_law_k"] m__law_pot := show Has P w K mg base 1 (He.ga K "_law_pot") ["_law_script", "_law_k"] (fnBody 2 5 b__law_pot) from has_of (N := ["_law_script", "_law_k", "_law_cell", "_law_own", "_law_small"]) (by kernel_rfl) (by kernel_rfl) T.d__law_pot sc__law_pot (fun _ _ _ _ _ _ us hl => match us, hl with | [_, _], _ => rfl) (fun cdv A outer s H E hr =>
  (lss_cons (ls_asg (js := [2]) (DL.le_if (lt_cmp o2_lt (le_var (pv 1)) (le_cb oc_len rfl T.n_len boot_len (la_cons (le_var (pv 0)) la_nil)) (nomark _)) (le_item (oi_ix (room_un hr 9)) (le_var (pv 0)) (le_var (pv 1))) (le_bin o2_add (le_bin o2_mulA le_int (le_var (pv 1))) le_int)) (lg_name (pg_name (i := 2) sc__law_pot.nd rfl (by first | exact Or.inl rfl | exact Or.inr rfl))))
  (lss_cons (ls_asg (js := [3]) (le_bin o2_mulA (le_bin o2_mod (le_ct oc_int rfl T.n_int boot_int (la_cons (le_cb oc_abs rfl T.n_abs boot_abs (la_cons (le_var (pv 2)) la_nil)) la_nil)) (le_bin o2_pow (le_bin o2_pow le_int le_int) le_int)) (le_ct oc_int rfl T.n_int boot_int (la_cons (le_cmp o2_ge (le_cb oc_abs rfl T.n_abs boot_abs (la_cons (le_var (pv 2)) la_nil)) (le_bin o2_pow le_int le_int) (nomark _)) la_nil))) (lg_name (pg_name (i := 3) sc__law_pot.nd rfl (by first | exact Or.inl rfl | exact Or.inr rfl))))
  (lss_cons (ls_asg (js := [4]) (le_bin o2_mod (le_ct oc_int rfl T.n_int boot_int (la_cons (le_var (pv 2)) la_nil)) le_int) (lg_name (pg_name (i := 4) sc__law_pot.nd rfl (by first | exact Or.inl rfl | exact Or.inr rfl))))
  (lss_one (ls_ret (le_lst (la_cons (le_var (pv 3)) (la_cons (le_bin o2_mod (le_ct oc_int rfl T.n_int boot_int (la_cons (le_bin o2_add (le_bin o2_add (le_bin o2_mulA (le_var (pv 4)) le_int) (le_bin o2_mulA (le_bin o2_mulA le_int (le_var (pv 1))) (le_var (pv 1)))) le_int) la_nil)) le_int) (la_cons le_int la_nil))))))))))
theorem sc_law : FnScope ["_law_script", "_law_place"] ["_law_script"] (defScope s_law) := ⟨rfl, rfl, rfl, by decide +kernel, rfl, by decide +kernel, by decide +kernel⟩
theorem ok_law (T : Gx P K mg base) {fd : FuncData} (F : FunD K "law" "law" (defArgs s_law) (defBody s_law) (defScope s_law) [] [] (He.ga K "law") fd) : FnG P w K mg base 14 (He.ga K "law") fd ["_law_script"] (spD P w K 1 m_law) := show FnG P w K mg base 14 (He.ga K "law") fd ["_law_script"] (spD P w K 1 (fnBody 1 2 b_law)) from lawG_of (N := ["_law_script", "_law_place"]) (by kernel_rfl) (by kernel_rfl) F sc_law (fun cdv A outer s H E quiet hr =>
  (lss_one (ls_ret (le_cb (oc_all rfl) rfl T.n_all boot_all (la_cons (le_lc (js := [1]) (own := [("_law_place", 1)]) rfl sc_law.nd (li_itA (leh_call (ok__law_places T) (hr.mono (by decide)) rfl T.g__law_places (la_cons (le_var (pv 0)) (la_cons le_int la_nil)))) (blkOk_by (N := ["_law_script", "_law_place"]) (sc := defScope s_law) (by decide +kernel)) (fun _ _ _ _ _ => (lg_name (pg_name (i := 1) sc_law.nd rfl (by first | exact Or.inl rfl | exact Or.inr rfl)))) (fun _ _ _ _ _ => lts_nil) (fun _ _ _ _ _ => (leh_callG (ok__law_right T).away quiet (hr.mono (by decide)) rfl T.g__law_right (la_cons (leh_call (ok__law_pot T) (hr.mono (by decide)) rfl T.g__law_pot (la_cons (le_var (pv 0)) (la_cons (le_var (pv 1)) la_nil))) la_nil))) (by decide)) la_nil)))))
end
theorem glo_law {K : PySem.W.Frag} {h : Heap} {mg : Str → Option Value} (X : K.In h) (G : h.Ns mainGlobals mg) (c : SaysM exs fns K) : mg "law" = some (.ref (He.ga K "law")) := He.glo_ok X G (c.ok 96 rfl)
theorem fx_of {K : PySem.W.Frag} {h : Heap} {mg : Str → Option Value} (X : K.In h) (G : h.Ns mainGlobals mg) (c : SaysM exs fns K) : Fx K mg where
  n_len := He.free_ok X G (c.ok 0 rfl)
  n_min := He.free_ok X G (c.ok 1 rfl)
  n_max := He.free_ok X G (c.ok 2 rfl)
  n_list := He.free_ok X G (c.ok 3 rfl)
  n_range := He.free_ok X G (c.ok 4 rfl)
  g__law_places := He.glo_ok X G (c.ok 5 rfl)
  n_int := He.free_ok X G (c.ok 6 rfl)
  g__law_take := He.glo_ok X G (c.ok 7 rfl)
  g__law_some := He.glo_ok X G (c.ok 8 rfl)
  g__law_names := He.glo_ok X G (c.ok 9 rfl)
  n_isinstance := He.free_ok X G (c.ok 10 rfl)
  n_str := He.free_ok X G (c.ok 11 rfl)
  xc_BadTongue := xc_of (c.ok 12 rfl)
  g_BadTongue := gloB_ok X G (c.ok 13 rfl)
  s_FEED := (let ⟨t, e⟩ := He.str_ok X G (c.ok 14 rfl); ⟨_, e, t, rfl⟩)
  c_Reading := clsB_ok (c.ok 15 rfl)
  na_Reading_named_words := noatB_ok (c.ok 16 rfl)
  na_Reading_named_joints := noatB_ok (c.ok 17 rfl)
  na_Reading_named_metres := noatB_ok (c.ok 18 rfl)
  mk_Reading := mkB_ok (c.ok 19 rfl)
  g_Reading := gloB_ok X G (c.ok 20 rfl)
  n_enumerate := He.free_ok X G (c.ok 21 rfl)
  s_BLANK := (let ⟨t, e⟩ := He.str_ok X G (c.ok 22 rfl); ⟨_, e, t, rfl⟩)
  s_WORD := (let ⟨t, e⟩ := He.str_ok X G (c.ok 23 rfl); ⟨_, e, t, rfl⟩)
  i_WORD_SIZE := (let ⟨t, e⟩ := He.int_ok X G (c.ok 24 rfl); ⟨_, e, t, rfl⟩)
  i_MOST_WORDS := (let ⟨t, e⟩ := He.int_ok X G (c.ok 25 rfl); ⟨_, e, t, rfl⟩)
  i_MOST_SIGNS := (let ⟨t, e⟩ := He.int_ok X G (c.ok 26 rfl); ⟨_, e, t, rfl⟩)
  n_all := He.free_ok X G (c.ok 27 rfl)
  g_is_made_of := He.glo_ok X G (c.ok 28 rfl)
  s_LETTERS := (let ⟨t, e⟩ := He.str_ok X G (c.ok 29 rfl); ⟨_, e, t, rfl⟩)
  g_is_name := He.glo_ok X G (c.ok 30 rfl)
  n_tuple := He.free_ok X G (c.ok 31 rfl)
  s_LONG := (let ⟨t, e⟩ := He.str_ok X G (c.ok 32 rfl); ⟨_, e, t, rfl⟩)
  s_SHORT := (let ⟨t, e⟩ := He.str_ok X G (c.ok 33 rfl); ⟨_, e, t, rfl⟩)
  s_UNKNOWN := (let ⟨t, e⟩ := He.str_ok X G (c.ok 34 rfl); ⟨_, e, t, rfl⟩)
  i_MOST_SYLLABLES := (let ⟨t, e⟩ := He.int_ok X G (c.ok 35 rfl); ⟨_, e, t, rfl⟩)
  n_sum := He.free_ok X G (c.ok 36 rfl)
  i_MOST_UNKNOWN := (let ⟨t, e⟩ := He.int_ok X G (c.ok 37 rfl); ⟨_, e, t, rfl⟩)
  m_Reading_take_word := methB_ok (c.ok 38 rfl)
  s_JOINT := (let ⟨t, e⟩ := He.str_ok X G (c.ok 39 rfl); ⟨_, e, t, rfl⟩)
  i_JOINT_SIZE := (let ⟨t, e⟩ := He.int_ok X G (c.ok 40 rfl); ⟨_, e, t, rfl⟩)
  i_MOST_JOINTS := (let ⟨t, e⟩ := He.int_ok X G (c.ok 41 rfl); ⟨_, e, t, rfl⟩)
  s_DROP := (let ⟨t, e⟩ := He.str_ok X G (c.ok 42 rfl); ⟨_, e, t, rfl⟩)
  s_MAY := (let ⟨t, e⟩ := He.str_ok X G (c.ok 43 rfl); ⟨_, e, t, rfl⟩)
  s_STRETCH := (let ⟨t, e⟩ := He.str_ok X G (c.ok 44 rfl); ⟨_, e, t, rfl⟩)
  m_Reading_take_joint := methB_ok (c.ok 45 rfl)
  s_METRE := (let ⟨t, e⟩ := He.str_ok X G (c.ok 46 rfl); ⟨_, e, t, rfl⟩)
  i_METRE_SIZE := (let ⟨t, e⟩ := He.int_ok X G (c.ok 47 rfl); ⟨_, e, t, rfl⟩)
  i_MOST_METRES := (let ⟨t, e⟩ := He.int_ok X G (c.ok 48 rfl); ⟨_, e, t, rfl⟩)
  i_MOST_PARTS := (let ⟨t, e⟩ := He.int_ok X G (c.ok 49 rfl); ⟨_, e, t, rfl⟩)
  s_ENDS := (let ⟨t, e⟩ := He.str_ok X G (c.ok 50 rfl); ⟨_, e, t, rfl⟩)
  s_AMID := (let ⟨t, e⟩ := He.str_ok X G (c.ok 51 rfl); ⟨_, e, t, rfl⟩)
  s_STAR := (let ⟨t, e⟩ := He.str_ok X G (c.ok 52 rfl); ⟨_, e, t, rfl⟩)
  s_FIGURES := (let ⟨t, e⟩ := He.str_ok X G (c.ok 53 rfl); ⟨_, e, t, rfl⟩)
  s_SLASH := (let ⟨t, e⟩ := He.str_ok X G (c.ok 54 rfl); ⟨_, e, t, rfl⟩)
  i_MOST_FORMS := (let ⟨t, e⟩ := He.int_ok X G (c.ok 55 rfl); ⟨_, e, t, rfl⟩)
  n_set := He.free_ok X G (c.ok 56 rfl)
  s_EITHER := (let ⟨t, e⟩ := He.str_ok X G (c.ok 57 rfl); ⟨_, e, t, rfl⟩)
  g_forms_in := He.glo_ok X G (c.ok 58 rfl)
  g_parts_in := He.glo_ok X G (c.ok 59 rfl)
  i_MOST_DRAWN_OUT := (let ⟨t, e⟩ := He.int_ok X G (c.ok 60 rfl); ⟨_, e, t, rfl⟩)
  g_metre_parts := He.glo_ok X G (c.ok 61 rfl)
  m_Reading_take_metre := methB_ok (c.ok 62 rfl)
  m_Reading_take := methB_ok (c.ok 63 rfl)
  g_read_lines := He.glo_ok X G (c.ok 64 rfl)
  c_Tongue := clsB_ok (c.ok 65 rfl)
  na_Tongue_own_text := noatB_ok (c.ok 66 rfl)
  na_Tongue_own_words := noatB_ok (c.ok 67 rfl)
  na_Tongue_own_names := noatB_ok (c.ok 68 rfl)
  na_Tongue_own_joints := noatB_ok (c.ok 69 rfl)
  na_Tongue_own_metres := noatB_ok (c.ok 70 rfl)
  na_Tongue_own_unknown := noatB_ok (c.ok 71 rfl)
  mk_Tongue := mkB_ok (c.ok 72 rfl)
  g_Tongue := gloB_ok X G (c.ok 73 rfl)
  g_MetreError := gloB_ok X G (c.ok 74 rfl)
  g__law_told := He.glo_ok X G (c.ok 75 rfl)
  ca__law_is_let := (c.ok 76 (f := fun K => codeAtB (He.ga K "_law_is_let") 326 K) rfl)
  tabs := of_decide_eq_true (c.ok 77 rfl)
  em_BadTongue_MetreError := of_decide_eq_true (c.ok 78 rfl)
  p_Tongue_text := propB_ok (c.ok 79 rfl)
  g__law_is_let := He.glo_ok X G (c.ok 80 rfl)
  ca__law_is_refused := (c.ok 81 (f := fun K => codeAtB (He.ga K "_law_is_refused") 319 K) rfl)
  ei_BadTongue := ei_of (c.ok 82 rfl)
  ko_BadTongue_BadTongue := of_decide_eq_true (c.ok 83 rfl)
  kn_BadTongue := of_decide_eq_true (c.ok 84 rfl)
  n_repr := He.free_ok X G (c.ok 85 rfl)
  g__law_is_refused := He.glo_ok X G (c.ok 86 rfl)
  g__law_right := He.glo_ok X G (c.ok 87 rfl)
  n_abs := He.free_ok X G (c.ok 88 rfl)
  g__law_pot := He.glo_ok X G (c.ok 89 rfl)
  xi1 := (c.ok 90 rfl)
  xi2 := (c.ok 91 rfl)
  xi3 := (c.ok 92 rfl)
  blt := (c.ok 93 rfl)
  hd__law_is_refused := (c.ok 94 rfl)
  hd__law_is_let := (c.ok 95 rfl)
  d__law_places := c.def_ 0 rfl
  d__law_take := c.def_ 1 rfl
  d__law_some := c.def_ 2 rfl
  d__law_names := c.def_ 3 rfl
  d_ReadingD_initD := c.def_ 4 rfl
  d_is_made_of := c.def_ 5 rfl
  d_is_name := c.def_ 6 rfl
  d_Reading_take_word := c.def_ 7 rfl
  d_Reading_take_joint := c.def_ 8 rfl
  d_forms_in := c.def_ 9 rfl
  d_parts_in := c.def_ 10 rfl
  d_metre_parts := c.def_ 11 rfl
  d_Reading_take_metre := c.def_ 12 rfl
  d_Reading_take := c.def_ 13 rfl
  d_read_lines := c.def_ 14 rfl
  d_TongueD_initD := c.def_ 15 rfl
  d_Tongue_text := c.def_ 16 rfl
  d__law_is_let := c.def_ 17 rfl
  d__law_is_refused := c.def_ 18 rfl
  d__law_right := c.def_ 19 rfl
  d__law_pot := c.def_ 20 rfl
  d_law := c.def_ 21 rfl
  d__law_told := c.def_ 22 rfl
end G
namespace G
open PySem PySem.Spec PyProof.Rows L2 DL
theorem pows : ∃ A B C : Int, 0 < B ∧ (∀ μ, vPow [.int 10, .int 60] μ = .ok (.int A) μ) ∧ (∀ μ, vPow [.int A, .int 5] μ = .ok (.int B) μ) ∧ ∀ μ, vPow [.int 10, .int 18] μ = .ok (.int C) μ :=
  ⟨10 ^ 60, (10 ^ 60) ^ 5, 10 ^ 18, by decide, fun μ => by kernel_rfl, fun μ => by kernel_rfl, fun μ => by kernel_rfl⟩
theorem pot_cell {μ : Sto} {ns : List Int} {j : Nat} (h : seqAt μ 0 = some (ns.map .int)) (hd : dctAt μ 0 = none) (hj : j < 64) : ∃ c : Int, (dIf (dTest (dApp vLt (dCons (dVar 1) (dCons (dApp vLen (dCons (dVar 0) dNil)) dNil)))) (dApp vIx (dCons (dVar 0) (dCons (dVar 1) dNil))) (dApp vAdd (dCons (dApp vMulA (dCons (dC (.int 103)) (dCons (dVar 1) dNil))) (dCons (dC (.int 74)) dNil)))) [some (.ref 0), some (.int j), none, none, none] μ = .ok (.int c) μ := by
  by_cases c : j < ns.length
  · refine ⟨ns[j], ?_⟩
    simp [dIf, dTest, dApp, dCons, dVar, dNil, len_0 h hd, lt_i, c]
    rw [ix_0 h hd (p := .int ns[j])]
    simp [L2.atI, L2.ixN, c]
  · refine ⟨103 * j + 74, ?_⟩
    simp [dIf, dTest, dApp, dCons, dVar, dC, dNil, len_0 h hd, lt_i, c]
    rw [mul_l (by omega)]
    simp [add_i]
theorem pot_ok {μ : Sto} {ns : List Int} {j : Nat} (h : seqAt μ 0 = some (ns.map .int)) (hd : dctAt μ 0 = none) (hj : j < 64) :
    ∃ p : Pot, PotOk p 0 ∧ m__law_pot [.ref 0, .int j] μ = .ok (.ref μ.length) (μ ++ [potO p]) := by
  obtain ⟨c, hc⟩ := pot_cell h hd hj
  obtain ⟨A, B, C, hB, p1, p2, p3⟩ := pows
  generalize ha : (if c < 0 then -c else c) = a at *
  refine ⟨(a % B * (if decide (C ≤ a) then 1 else 0), (c % 2305843009213693951 * 80225 + 8329 * j * j + 113) % 2305843009213693921, 0), ⟨?_, by simp only; omega, by simp only; omega, by simp only; omega, by simp only; omega⟩, ?_⟩
  · refine Int.mul_nonneg (Int.emod_nonneg _ (by omega)) ?_
    split <;> omega
  · unfold m__law_pot b__law_pot fnBody
    simp only [List.length_cons, List.length_nil, Nat.reduceAdd, if_true, List.map_cons, List.map_nil, sSeq, sAsg, sRet, List.cons_append, List.nil_append, Nat.reduceSub, List.replicate]
    rw [hc]
    simp only [bindOk, gSet, List.set, dApp, dCons, dVar, dC, dNil, List.getElem?_cons_zero, List.getElem?_cons_succ, abs_i, int_i, int_b, p1, p2, p3, ge_i, ha]
    rw [mod_p hB]
    simp only [bindOk]
    rw [mul_r (by split <;> omega)]
    simp only [bindOk, List.set, List.getElem?_cons_zero, List.getElem?_cons_succ, int_i]
    rw [mod_p (by omega)]
    simp only [bindOk, List.set, List.getElem?_cons_zero, List.getElem?_cons_succ, int_i]
    rw [mul_r (by omega)]
    simp only [bindOk]
    rw [mul_l (by omega)]
    simp only [bindOk, List.getElem?_cons_zero, List.getElem?_cons_succ]
    rw [mul_r (by omega)]
    simp only [bindOk, add_i, int_i]
    rw [mod_p (by omega)]
    simp only [bindOk]
    rw [lst_k (by simp)]
    simp only [bindOk]
    rfl
theorem take_spec : TakeSpec m__law_take := fun p c u h hc hu hu2 => by
  obtain ⟨own, mix, cnt⟩ := p
  obtain ⟨h2, h3, h4, h5, h6⟩ := h
  simp only at h2 h3 h4 h5 h6
  by_cases co : 0 < own
  · refine ⟨(own % u).toNat, (own / u, mix, cnt), ?_, ⟨?_, h3, h4, h5, by simp only; omega⟩, fun μ i h1 => ⟨[], ?_⟩⟩
    · have := Int.emod_nonneg own (show u ≠ 0 by omega)
      have := Int.emod_lt_of_pos own hu
      omega
    · exact Int.ediv_nonneg h2 (by omega)
    · have h1 : μ[i]? = some (.lst [.int own, .int mix, .int cnt]) := h1
      obtain ⟨x0, x1, x2⟩ := vix3 h1
      have e : (((own % u).toNat : Nat) : Int) = own % u := Int.toNat_of_nonneg (Int.emod_nonneg own (by omega))
      rw [e, List.append_nil]
      unfold m__law_take b__law_take fnBody
      simp only [List.length_cons, List.length_nil, Nat.reduceAdd, if_true, List.map_cons, List.map_nil, sSeq, sIf, dTest, dApp, dCons, dVar, dC, dNil, List.cons_append, List.nil_append, Nat.reduceSub, List.replicate, List.getElem?_cons_zero, bindOk, x0, gt_i, decide_eq_true co, sAsg, int_i,
        List.getElem?_cons_succ, mod_p hu, gSet, List.set, div_p hu (by omega), gItem, st_l h1 (z := 0) (n := 0) rfl, sRet]
      rfl
  · have e0 : decide (0 < own) = false := decide_eq_false co
    have pr : ∃ p : Int, 2147483563 ≤ p ∧ p ≤ 2147483647 ∧ L2.atI [PV.int 2147483647, .int 2147483629, .int 2147483587, .int 2147483579, .int 2147483563] ((cnt + 1) % 5) = some (.int p) := by
      have h1 := Int.emod_nonneg (cnt + 1) (show (5 : Int) ≠ 0 by omega)
      have h2 := Int.emod_lt_of_pos (cnt + 1) (show (0 : Int) < 5 by omega)
      generalize (cnt + 1) % 5 = r at *
      have : r = 0 ∨ r = 1 ∨ r = 2 ∨ r = 3 ∨ r = 4 := by omega
      rcases this with e | e | e | e | e <;> subst e
      · exact ⟨2147483647, by omega, by omega, rfl⟩
      · exact ⟨2147483629, by omega, by omega, rfl⟩
      · exact ⟨2147483587, by omega, by omega, rfl⟩
      · exact ⟨2147483579, by omega, by omega, rfl⟩
      · exact ⟨2147483563, by omega, by omega, rfl⟩
    obtain ⟨p, p1, p2, hp⟩ := pr
    generalize hb : mix + 95129 * (cnt + 1) * (cnt + 1) + 89 = b
    have hb1 : b.natAbs < 2 ^ 80 := by
      have s1 : (cnt + 1) * (cnt + 1) ≤ 1001 * 1001 := Int.mul_le_mul (by omega) (by omega) (by omega) (by omega)
      have s2 : 0 ≤ (cnt + 1) * (cnt + 1) := Int.mul_nonneg (by omega) (by omega)
      have s3 : 95129 * (cnt + 1) * (cnt + 1) = 95129 * ((cnt + 1) * (cnt + 1)) := Int.mul_assoc ..
      omega
    have q1 := Int.emod_nonneg (b ^ 3) (show p ≠ 0 by omega)
    have q2 := Int.emod_lt_of_pos (b ^ 3) (show 0 < p by omega)
    generalize hq : b ^ 3 % p = q at *
    generalize hr : q * (q % 10039 + 91 * (cnt + 1)) / 131 = r
    have t1 := Int.emod_nonneg r (show u ≠ 0 by omega)
    have t2 := Int.emod_lt_of_pos r hu
    refine ⟨(r % u).toNat, (own, mix, cnt + 1), by omega, ⟨h2, h3, h4, by simp only; omega, by simp only; omega⟩, fun μ i h1 => ⟨[MObj.lst [.int 2147483647, .int 2147483629, .int 2147483587, .int 2147483579, .int 2147483563]], ?_⟩⟩
    have h1 : μ[i]? = some (.lst [.int own, .int mix, .int cnt]) := h1
    obtain ⟨x0, x1, x2⟩ := vix3 h1
    have y1 : (μ.set i (potO (own, mix, cnt + 1)))[i]? = some (.lst [.int own, .int mix, .int (cnt + 1)]) := List.getElem?_set_self (lt_of_get h1)
    obtain ⟨z0, z1, z2⟩ := vix3 y1
    have hμ1 : μ.set i (.lst [.int own, .int mix, .int (cnt + 1)]) = μ.set i (potO (own, mix, cnt + 1)) := rfl
    generalize μ.set i (potO (own, mix, cnt + 1)) = μ1 at *
    have y2 : (μ1 ++ [MObj.lst [.int 2147483647, .int 2147483629, .int 2147483587, .int 2147483579, .int 2147483563]])[i]? = some (.lst [.int own, .int mix, .int (cnt + 1)]) := by rw [List.getElem?_append_left (lt_of_get y1)]; exact y1
    have y3 : (μ1 ++ [MObj.lst [.int 2147483647, .int 2147483629, .int 2147483587, .int 2147483579, .int 2147483563]])[μ1.length]? = some (.lst [.int 2147483647, .int 2147483629, .int 2147483587, .int 2147483579, .int 2147483563]) := by rw [List.getElem?_append_right (Nat.le_refl _), Nat.sub_self]; rfl
    generalize hμ2 : μ1 ++ [MObj.lst [.int 2147483647, .int 2147483629, .int 2147483587, .int 2147483579, .int 2147483563]] = μ2 at *
    obtain ⟨w0, w1, w2⟩ := vix3 y2
    have e : (((r % u).toNat : Nat) : Int) = r % u := Int.toNat_of_nonneg t1
    rw [e]
    unfold m__law_take b__law_take fnBody
    simp only [List.length_cons, List.length_nil, Nat.reduceAdd, if_true, List.map_cons, List.map_nil, sSeq, sIf, dTest, dApp, dCons, dVar, dC, dNil, List.cons_append, List.nil_append, Nat.reduceSub, List.replicate, List.getElem?_cons_zero, bindOk, x0, x2, gt_i, e0, sAsg, int_i, sNil, Bool.false_eq_true, if_false,
        List.getElem?_cons_succ, gSet, List.set, gItem, add_i, st_l h1 (z := 2) (n := 2) rfl, hμ1]
    rw [lst_k (by simp)]
    simp only [bindOk, hμ2, w2, int_i, mod_p (show (0 : Int) < 5 by omega), ix_l y3 hp, List.set, List.getElem?_cons_zero, List.getElem?_cons_succ, w1, mul_l (show -(2 ^ 64) < (95129 : Int) ∧ (95129 : Int) < 2 ^ 64 by omega)]
    rw [mul_r (show -(2 ^ 64) < cnt + 1 ∧ cnt + 1 < 2 ^ 64 by omega)]
    simp only [dApp, dCons, dVar, dC, dNil, bindOk, add_i, hb, int_i, cube hb1, mod_p (show 0 < p by omega), hq, List.set, List.getElem?_cons_zero, List.getElem?_cons_succ, sRet, mod_p (show (0 : Int) < 10039 by omega), w2, mul_l (show -(2 ^ 64) < (91 : Int) ∧ (91 : Int) < 2 ^ 64 by omega)]
    rw [mul_l (show -(2 ^ 64) < q ∧ q < 2 ^ 64 by omega)]
    simp only [bindOk, div_p (show (0 : Int) < 131 by omega) (by omega), hr, int_i, mod_p hu]
theorem some_eq : m__law_some = fnBody 3 6 (someB m__law_take) := rfl
def poolS : List Str := ["am", "ko", "ta", "word", "joint", "metre", "notes", "goes", "find", "drop", "long", "zzzzzzzz", "x", "u"]
theorem names_spec (n : Nat) (hn : n ≤ poolS.length) : NamesSpec m__law_names poolS n := fun p c hp hc => by
  obtain ⟨xs, p', h1, h2, h3, h4⟩ := some_spec take_spec n (poolS.map PV.str) p c hp hc (by simpa using hn) (by decide)
  refine ⟨xs, p', h1, h2, h3, fun μ i hi => ?_⟩
  have li := lt_of_get hi
  have g0 : (μ ++ [MObj.lst (poolS.map PV.str)])[μ.length]? = some (.lst (poolS.map PV.str)) := by simp
  have g1 : (μ ++ [MObj.lst (poolS.map PV.str)])[i]? = some (potO p) := by rw [List.getElem?_append_left li]; exact hi
  obtain ⟨r, more, k1, k2, k3⟩ := h4 _ i μ.length (by omega) g1 g0
  have e : (μ ++ [MObj.lst (poolS.map PV.str)]).set i (potO p') = μ.set i (potO p') ++ [MObj.lst (poolS.map PV.str)] := List.set_append_left _ _ li
  rw [e, List.append_assoc] at k2 k3
  refine ⟨r, [MObj.lst (poolS.map PV.str)] ++ more, by simp at k1; omega, k2, ?_⟩
  unfold m__law_names b__law_names fnBody
  simp only [List.length_cons, List.length_nil, Nat.reduceAdd, if_true, List.map_cons, List.map_nil, sSeq, sAsg, dCons, dApp, dVar, dC, dNil, List.cons_append, List.nil_append, Nat.reduceSub, List.replicate, List.getElem?_cons_zero, List.getElem?_cons_succ, bindOk]
  rw [lst_k (by simp)]
  simp only [bindOk, gSet, List.set, sRet, List.getElem?_cons_zero, List.getElem?_cons_succ]
  rw [some_eq]
  have k4 : fnBody 3 6 (someB m__law_take) [.ref i, .ref μ.length, .int n] (μ ++ [MObj.lst [.str "am", .str "ko", .str "ta", .str "word", .str "joint", .str "metre", .str "notes", .str "goes", .str "find", .str "drop", .str "long", .str "zzzzzzzz", .str "x", .str "u"]]) = .ok (.ref r) (μ.set i (potO p') ++ ([MObj.lst (poolS.map PV.str)] ++ more)) := k3
  simp only [dApp, dCons, dVar, dNil, List.getElem?_cons_zero, List.getElem?_cons_succ, bindOk, k4]
  rfl
theorem pool_nodup : poolS.Nodup := by decide
/-- the places that are looked at -/
theorem places_ok {μ : Sto} {ns : List Int} (h : seqAt μ 0 = some (ns.map .int)) (hd : dctAt μ 0 = none) : ∃ m : Nat, 1 ≤ m ∧ m ≤ 3 ∧ m__law_places [.ref 0, .int 3] μ = .ok (.ref μ.length) (μ ++ [.lst ((List.range m).map fun i => PV.int (i : Nat))]) := by
  have go : ∀ n : Int, n ≤ 3 → 1 ≤ n → ∃ m : Nat, 1 ≤ m ∧ m ≤ 3 ∧ (n = (m : Int)) := fun n a b => ⟨n.toNat, by omega, by omega, by omega⟩
  have hmx : ∀ n : Int, (rg1 rgL (.int n) μ) = if rgFit 0 n = true then .ok (.ref μ.length) (μ ++ [.lst (rgP 0 n)]) else .bad := fun n => rfl
  have e1 : ∃ n : Int, n ≤ 3 ∧ 1 ≤ n ∧ m__law_places [.ref 0, .int 3] μ = rg1 rgL (.int n) μ := by
    refine ⟨if (if ((ns.length : Nat) : Int) < 3 then ((ns.length : Nat) : Int) else 3) > 1 then (if ((ns.length : Nat) : Int) < 3 then ((ns.length : Nat) : Int) else 3) else 1, by split <;> (try split) <;> omega, by split <;> omega, ?_⟩
    unfold m__law_places b__law_places fnBody
    simp only [List.length_cons, List.length_nil, Nat.reduceAdd, if_true, List.map_cons, List.map_nil, sRet, dLstRg1, dCons, dApp, dVar, dC, dNil, List.cons_append, List.nil_append, Nat.reduceSub, List.replicate, List.getElem?_cons_zero, List.getElem?_cons_succ, bindOk, len_0 h hd, vMin2, vMax2, List.length_map]
    generalize (if (if ((ns.length : Nat) : Int) < 3 then ((ns.length : Nat) : Int) else 3) > 1 then (if ((ns.length : Nat) : Int) < 3 then ((ns.length : Nat) : Int) else 3) else 1) = n
    rw [hmx]
    by_cases c : rgFit 0 n = true
    · rw [if_pos c]; rfl
    · rw [if_neg c]; rfl
  obtain ⟨n, n1, n2, e⟩ := e1
  obtain ⟨m, m0, m1, rfl⟩ := go n n1 n2
  refine ⟨m, m0, m1, ?_⟩
  rw [e, hmx, if_pos (by simp [rgFit]; omega)]
  simp [rgP]
theorem src_l {μ : Sto} {i : Nat} {ps : List PV} (h : μ[i]? = some (.lst ps)) : srcK (.ref i) μ = some (ps, fun μ' => sameSeq μ' i ps) := by
  simp only [srcK, srcOf, dct_l h, seq_l h]
theorem same_l {μ : Sto} {i : Nat} {ps : List PV} (h : μ[i]? = some (.lst ps)) : sameSeq μ i ps = true := by
  simp only [sameSeq, seq_l h, PV.beqs_self]
end G
namespace G
open PySem PySem.Spec PyProof.Rows L2 DL
abbrev nN : Nat := 8
noncomputable def bP_ReadingD_initD (tp : Tape) (xj : Nat) : DS := (sSeq (sFldSet aC_Reading ⟨⟨[110, 97, 109, 101, 100, 95, 119, 111, 114, 100, 115]⟩⟩ (dVar 0) dNewD) (sSeq (sFldSet aC_Reading ⟨⟨[110, 97, 109, 101, 100, 95, 106, 111, 105, 110, 116, 115]⟩⟩ (dVar 0) dNewD) (sFldSet aC_Reading ⟨⟨[110, 97, 109, 101, 100, 95, 109, 101, 116, 114, 101, 115]⟩⟩ (dVar 0) dNewD)))
noncomputable def mP_ReadingD_initD (tp : Tape) (xj : Nat) : VF := fnBody 1 1 (bP_ReadingD_initD tp xj)
noncomputable def bL_ReadingD_initD (tp : Tape) (xj : Nat) : DS := (sSeqF (sFldSetF aC_Reading ⟨⟨[110, 97, 109, 101, 100, 95, 119, 111, 114, 100, 115]⟩⟩ (dVarF 0) (dres dNewD)) (sSeqF (sFldSetF aC_Reading ⟨⟨[110, 97, 109, 101, 100, 95, 106, 111, 105, 110, 116, 115]⟩⟩ (dVarF 0) (dres dNewD)) (sFldSetF aC_Reading ⟨⟨[110, 97, 109, 101, 100, 95, 109, 101, 116, 114, 101, 115]⟩⟩ (dVarF 0) (dres dNewD))))
noncomputable def mL_ReadingD_initD (tp : Tape) (xj : Nat) : VF := fnBodyF 1 1 (bL_ReadingD_initD tp xj)
theorem l_ReadingD_initD (tp : Tape) (xj : Nat) : (mL_ReadingD_initD tp xj) = (mP_ReadingD_initD tp xj) := by
  unfold mL_ReadingD_initD mP_ReadingD_initD bL_ReadingD_initD bP_ReadingD_initD
  simp only [sSeqF_eq, sForF_eq, sAsgF_eq, sRetF_eq, dLc2F_eq, dLcF_eq, dVarF_eq, fnBodyF_eq, vApartF_eq, sFldSetF_eq, fres_eq, fmut_eq, dres_eq, dConsF_eq, vFldF_eq, dMethF_eq, vMakeF_eq, vNameOkF_eq, vKwF_eq, vAwayF_eq]
theorem q_ReadingD_initD {ν : Nu} (N : Nam ν nN) (h_is_name : ∀ i μ, vApart m_is_name [.str ⟨⟨ν i⟩⟩] μ = .ok (.bl true) μ) {tp : Tape} (O : TapeOk ν tp m__law_take m__law_names) {xj : Nat} (hx : ν xj = [120]) : QF ν (mP_ReadingD_initD tp xj) m_ReadingD_initD := show QF ν (fnBody 1 1 (bP_ReadingD_initD tp xj)) (fnBody 1 1 b_ReadingD_initD) from qBody (show QS ν (bP_ReadingD_initD tp xj) b_ReadingD_initD from (qsSeq (qsFld qVar qNewD) (qsSeq (qsFld qVar qNewD) (qsFld qVar qNewD))))
noncomputable def bP_Reading_take_joint (tp : Tape) (xj : Nat) : DS := (sSeq (sAsg (dOrVG (dApp (vEqG nN) (dCons (dApp (vFld aC_Reading ⟨⟨[110, 97, 109, 101, 100, 95, 119, 111, 114, 100, 115]⟩⟩) (dCons (dVar 0) dNil)) (dCons dNewD dNil))) (dApp (vNeG nN) (dCons (dApp (vFld aC_Reading ⟨⟨[110, 97, 109, 101, 100, 95, 109, 101, 116, 114, 101, 115]⟩⟩) (dCons (dVar 0) dNil)) (dCons dNewD dNil)))) (gSet 2)) (sSeq (sIf (dOr (dTest (dApp (vNeG nN) (dCons (dApp vLenG (dCons (dVar 1) dNil)) (dCons (dC (.int 4)) dNil)))) (dOr (dTest (dApp (vEqG nN) (dCons (dApp vLenG (dCons (dApp (vFld aC_Reading ⟨⟨[110, 97, 109, 101, 100, 95, 106, 111, 105, 110, 116, 115]⟩⟩) (dCons (dVar 0) dNil)) dNil)) (dCons (dC (.int 9)) dNil)))) (dTruG (dVar 2)))) (sRet (dC (.bl false))) sNil) (sSeq (sAsg (dCutG (dVar 1) (dPart (dC (.int 1))) dNoPart) (gTupA 3 (gCons' (gSet 3) (gCons' (gSet 4) (gCons' (gSet 5) gNil'))))) (sSeq (sIf (dOr (dTest (dApp (vNotInG nN) (dCons (dVar 3) (dCons (dApp vTupleG (dCons (dC (.str ⟨⟨[97, 98, 99, 100, 101, 102, 103, 104, 105, 106, 107, 108, 109, 110, 111, 112, 113, 114, 115, 116, 117, 118, 119, 120, 121, 122]⟩⟩)) dNil)) dNil)))) (dOr (dTest (dApp (vNotInG nN) (dCons (dVar 4) (dCons (dApp vTupleG (dCons (dC (.str ⟨⟨[97, 98, 99, 100, 101, 102, 103, 104, 105, 106, 107, 108, 109, 110, 111, 112, 113, 114, 115, 116, 117, 118, 119, 120, 121, 122]⟩⟩)) dNil)) dNil)))) (dTest (dApp (vNotInG nN) (dCons (dVar 5) (dCons (dApp vTup (dCons (dC (.str ⟨⟨[100, 114, 111, 112]⟩⟩)) (dCons (dC (.str ⟨⟨[109, 97, 121]⟩⟩)) (dCons (dC (.str ⟨⟨[108, 111, 110, 103]⟩⟩)) dNil)))) dNil)))))) (sRet (dC (.bl false))) sNil) (sSeq (sIf (dTest (dApp (vInG nN) (dCons (dApp vTup (dCons (dVar 3) (dCons (dVar 4) dNil))) (dCons (dApp (vFld aC_Reading ⟨⟨[110, 97, 109, 101, 100, 95, 106, 111, 105, 110, 116, 115]⟩⟩) (dCons (dVar 0) dNil)) dNil)))) (sRet (dC (.bl false))) sNil) (sSeq (sAsg (dVar 5) (gItemG nN (dApp (vFld aC_Reading ⟨⟨[110, 97, 109, 101, 100, 95, 106, 111, 105, 110, 116, 115]⟩⟩) (dCons (dVar 0) dNil)) (dApp vTup (dCons (dVar 3) (dCons (dVar 4) dNil))))) (sRet (dC (.bl true)))))))))
noncomputable def mP_Reading_take_joint (tp : Tape) (xj : Nat) : VF := fnBody 2 6 (bP_Reading_take_joint tp xj)
noncomputable def bL_Reading_take_joint (tp : Tape) (xj : Nat) : DS := (sSeqF (sAsgF (dOrVG (dApp (vEqG nN) (dConsF (dApp (vFldF aC_Reading ⟨⟨[110, 97, 109, 101, 100, 95, 119, 111, 114, 100, 115]⟩⟩) (dCons (dVarF 0) dNil)) (dConsF (dres dNewD) dNil))) (dApp (vNeG nN) (dConsF (dApp (vFldF aC_Reading ⟨⟨[110, 97, 109, 101, 100, 95, 109, 101, 116, 114, 101, 115]⟩⟩) (dCons (dVarF 0) dNil)) (dConsF (dres dNewD) dNil)))) (gSet 2)) (sSeqF (sIf (dOr (dTest (dApp (vNeG nN) (dConsF (dApp vLenG (dCons (dVarF 1) dNil)) (dCons (dC (.int 4)) dNil)))) (dOr (dTest (dApp (vEqG nN) (dConsF (dApp vLenG (dConsF (dApp (vFldF aC_Reading ⟨⟨[110, 97, 109, 101, 100, 95, 106, 111, 105, 110, 116, 115]⟩⟩) (dCons (dVarF 0) dNil)) dNil)) (dCons (dC (.int 9)) dNil)))) (dTruG (dVarF 2)))) (sRetF (dC (.bl false))) sNil) (sSeqF (sAsgF (dres (dCutG (dVarF 1) (dPart (dC (.int 1))) dNoPart)) (gTupA 3 (gCons' (gSet 3) (gCons' (gSet 4) (gCons' (gSet 5) gNil'))))) (sSeqF (sIf (dOr (dTest (dApp (vNotInG nN) (dCons (dVarF 3) (dConsF (dApp (fres vTupleG) (dCons (dC (.str ⟨⟨[97, 98, 99, 100, 101, 102, 103, 104, 105, 106, 107, 108, 109, 110, 111, 112, 113, 114, 115, 116, 117, 118, 119, 120, 121, 122]⟩⟩)) dNil)) dNil)))) (dOr (dTest (dApp (vNotInG nN) (dCons (dVarF 4) (dConsF (dApp (fres vTupleG) (dCons (dC (.str ⟨⟨[97, 98, 99, 100, 101, 102, 103, 104, 105, 106, 107, 108, 109, 110, 111, 112, 113, 114, 115, 116, 117, 118, 119, 120, 121, 122]⟩⟩)) dNil)) dNil)))) (dTest (dApp (vNotInG nN) (dCons (dVarF 5) (dConsF (dApp vTup (dCons (dC (.str ⟨⟨[100, 114, 111, 112]⟩⟩)) (dCons (dC (.str ⟨⟨[109, 97, 121]⟩⟩)) (dCons (dC (.str ⟨⟨[108, 111, 110, 103]⟩⟩)) dNil)))) dNil)))))) (sRetF (dC (.bl false))) sNil) (sSeqF (sIf (dTest (dApp (vInG nN) (dConsF (dApp vTup (dCons (dVarF 3) (dCons (dVarF 4) dNil))) (dConsF (dApp (vFldF aC_Reading ⟨⟨[110, 97, 109, 101, 100, 95, 106, 111, 105, 110, 116, 115]⟩⟩) (dCons (dVarF 0) dNil)) dNil)))) (sRetF (dC (.bl false))) sNil) (sSeqF (sAsgF (dVarF 5) (gItemG nN (dApp (vFldF aC_Reading ⟨⟨[110, 97, 109, 101, 100, 95, 106, 111, 105, 110, 116, 115]⟩⟩) (dCons (dVarF 0) dNil)) (dApp vTup (dCons (dVarF 3) (dCons (dVarF 4) dNil))))) (sRetF (dC (.bl true)))))))))
noncomputable def mL_Reading_take_joint (tp : Tape) (xj : Nat) : VF := fnBodyF 2 6 (bL_Reading_take_joint tp xj)
theorem l_Reading_take_joint (tp : Tape) (xj : Nat) : (mL_Reading_take_joint tp xj) = (mP_Reading_take_joint tp xj) := by
  unfold mL_Reading_take_joint mP_Reading_take_joint bL_Reading_take_joint bP_Reading_take_joint
  simp only [sSeqF_eq, sForF_eq, sAsgF_eq, sRetF_eq, dLc2F_eq, dLcF_eq, dVarF_eq, fnBodyF_eq, vApartF_eq, sFldSetF_eq, fres_eq, fmut_eq, dres_eq, dConsF_eq, vFldF_eq, dMethF_eq, vMakeF_eq, vNameOkF_eq, vKwF_eq, vAwayF_eq]
theorem q_Reading_take_joint {ν : Nu} (N : Nam ν nN) (h_is_name : ∀ i μ, vApart m_is_name [.str ⟨⟨ν i⟩⟩] μ = .ok (.bl true) μ) {tp : Tape} (O : TapeOk ν tp m__law_take m__law_names) {xj : Nat} (hx : ν xj = [120]) : QF ν (mP_Reading_take_joint tp xj) m_Reading_take_joint := show QF ν (fnBody 2 6 (bP_Reading_take_joint tp xj)) (fnBody 2 6 b_Reading_take_joint) from qBody (show QS ν (bP_Reading_take_joint tp xj) b_Reading_take_joint from (qsSeq (qsAsg (qOrV (qApp (q_vEq N) (qCons (qApp qFld (qCons qVar qNil)) (qCons qNewD qNil))) (qApp (q_vNe N) (qCons (qApp qFld (qCons qVar qNil)) (qCons qNewD qNil)))) qgSet) (qsSeq (qsIf (qOr (qTest (qApp (q_vNe N) (qCons (qApp q_vLen (qCons qVar qNil)) (qCons qCi qNil)))) (qOr (qTest (qApp (q_vEq N) (qCons (qApp q_vLen (qCons (qApp qFld (qCons qVar qNil)) qNil)) (qCons qCi qNil)))) (qTru qVar))) (qsRet qCb) qsNil) (qsSeq (qsAsg (qCut qVar (qPart qCi) qNoPart) (qgTup (qgCons qgSet (qgCons qgSet (qgCons qgSet qgNil))))) (qsSeq (qsIf (qOr (qTest (qApp (q_vNotIn N) (qCons qVar (qCons (qApp q_vTuple (qCons (qCs (by kernel_rfl) (by kernel_rfl)) qNil)) qNil)))) (qOr (qTest (qApp (q_vNotIn N) (qCons qVar (qCons (qApp q_vTuple (qCons (qCs (by kernel_rfl) (by kernel_rfl)) qNil)) qNil)))) (qTest (qApp (q_vNotIn N) (qCons qVar (qCons (qApp q_vTup (qCons (qCs (by kernel_rfl) (by kernel_rfl)) (qCons (qCs (by kernel_rfl) (by kernel_rfl)) (qCons (qCs (by kernel_rfl) (by kernel_rfl)) qNil)))) qNil)))))) (qsRet qCb) qsNil) (qsSeq (qsIf (qTest (qApp (q_vIn N) (qCons (qApp q_vTup (qCons qVar (qCons qVar qNil))) (qCons (qApp qFld (qCons qVar qNil)) qNil)))) (qsRet qCb) qsNil) (qsSeq (qsAsg qVar (qgItem N (qApp qFld (qCons qVar qNil)) (qApp q_vTup (qCons qVar (qCons qVar qNil))))) (qsRet qCb))))))))
noncomputable def bP_is_made_of (tp : Tape) (xj : Nat) : DS := (sRet (dAndVG (dApp (vNeG nN) (dCons (dVar 0) (dCons (dC (.str ⟨⟨[]⟩⟩)) dNil))) (dApp vAll (dCons (dLc (dItAG (dVar 0)) (gSet 2) tYes' (dApp (vInG nN) (dCons (dVar 2) (dCons (dVar 1) dNil))) [2]) dNil))))
noncomputable def mP_is_made_of (tp : Tape) (xj : Nat) : VF := fnBody 2 3 (bP_is_made_of tp xj)
noncomputable def bL_is_made_of (tp : Tape) (xj : Nat) : DS := (sRetF (dAndVG (dApp (vNeG nN) (dCons (dVarF 0) (dCons (dC (.str ⟨⟨[]⟩⟩)) dNil))) (dApp vAll (dConsF (dLcF (dItAG (dVarF 0)) (gSet 2) tYes' (dApp (vInG nN) (dCons (dVarF 2) (dCons (dVarF 1) dNil))) [2]) dNil))))
noncomputable def mL_is_made_of (tp : Tape) (xj : Nat) : VF := fnBodyF 2 3 (bL_is_made_of tp xj)
theorem l_is_made_of (tp : Tape) (xj : Nat) : (mL_is_made_of tp xj) = (mP_is_made_of tp xj) := by
  unfold mL_is_made_of mP_is_made_of bL_is_made_of bP_is_made_of
  simp only [sSeqF_eq, sForF_eq, sAsgF_eq, sRetF_eq, dLc2F_eq, dLcF_eq, dVarF_eq, fnBodyF_eq, vApartF_eq, sFldSetF_eq, fres_eq, fmut_eq, dres_eq, dConsF_eq, vFldF_eq, dMethF_eq, vMakeF_eq, vNameOkF_eq, vKwF_eq, vAwayF_eq]
theorem q_is_made_of {ν : Nu} (N : Nam ν nN) (h_is_name : ∀ i μ, vApart m_is_name [.str ⟨⟨ν i⟩⟩] μ = .ok (.bl true) μ) {tp : Tape} (O : TapeOk ν tp m__law_take m__law_names) {xj : Nat} (hx : ν xj = [120]) : QF ν (mP_is_made_of tp xj) m_is_made_of := show QF ν (fnBody 2 3 (bP_is_made_of tp xj)) (fnBody 2 3 b_is_made_of) from qBody (show QS ν (bP_is_made_of tp xj) b_is_made_of from (qsRet (qAndV (qApp (q_vNe N) (qCons qVar (qCons (qCs (by kernel_rfl) (by kernel_rfl)) qNil))) (qApp q_vAll (qCons (qLc (qItA qVar) qgSet qYes (qApp (q_vIn N) (qCons qVar (qCons qVar qNil)))) qNil)))))
noncomputable def bP_is_name (tp : Tape) (xj : Nat) : DS := (sRet (dAndVG (dApp vLe (dCons (dApp vLenG (dCons (dVar 0) dNil)) (dCons (dC (.int 8)) dNil))) (dApp (vApart (mP_is_made_of tp xj)) (dCons (dVar 0) (dCons (dC (.str ⟨⟨[97, 98, 99, 100, 101, 102, 103, 104, 105, 106, 107, 108, 109, 110, 111, 112, 113, 114, 115, 116, 117, 118, 119, 120, 121, 122]⟩⟩)) dNil)))))
noncomputable def mP_is_name (tp : Tape) (xj : Nat) : VF := fnBody 1 1 (bP_is_name tp xj)
noncomputable def bL_is_name (tp : Tape) (xj : Nat) : DS := (sRetF (dAndVG (dApp vLe (dConsF (dApp vLenG (dCons (dVarF 0) dNil)) (dCons (dC (.int 8)) dNil))) (dApp (vApartF (mL_is_made_of tp xj)) (dCons (dVarF 0) (dCons (dC (.str ⟨⟨[97, 98, 99, 100, 101, 102, 103, 104, 105, 106, 107, 108, 109, 110, 111, 112, 113, 114, 115, 116, 117, 118, 119, 120, 121, 122]⟩⟩)) dNil)))))
noncomputable def mL_is_name (tp : Tape) (xj : Nat) : VF := fnBodyF 1 1 (bL_is_name tp xj)
theorem l_is_name (tp : Tape) (xj : Nat) : (mL_is_name tp xj) = (mP_is_name tp xj) := by
  unfold mL_is_name mP_is_name bL_is_name bP_is_name
  simp only [sSeqF_eq, sForF_eq, sAsgF_eq, sRetF_eq, dLc2F_eq, dLcF_eq, dVarF_eq, fnBodyF_eq, vApartF_eq, sFldSetF_eq, fres_eq, fmut_eq, dres_eq, dConsF_eq, vFldF_eq, dMethF_eq, vMakeF_eq, vNameOkF_eq, vKwF_eq, vAwayF_eq, l_is_made_of]
theorem q_is_name {ν : Nu} (N : Nam ν nN) (h_is_name : ∀ i μ, vApart m_is_name [.str ⟨⟨ν i⟩⟩] μ = .ok (.bl true) μ) {tp : Tape} (O : TapeOk ν tp m__law_take m__law_names) {xj : Nat} (hx : ν xj = [120]) : QF ν (mP_is_name tp xj) m_is_name := show QF ν (fnBody 1 1 (bP_is_name tp xj)) (fnBody 1 1 b_is_name) from qBody (show QS ν (bP_is_name tp xj) b_is_name from (qsRet (qAndV (qApp q_vLe (qCons (qApp q_vLen (qCons qVar qNil)) (qCons qCi qNil))) (qApp (qApart (q_is_made_of N h_is_name O hx)) (qCons qVar (qCons (qCs (by kernel_rfl) (by kernel_rfl)) qNil))))))
noncomputable def bP_forms_in (tp : Tape) (xj : Nat) : DS := (sSeq (sAsg (dM isStrP vSplitG (dVar 0) (dCons (dC (.str ⟨⟨[47]⟩⟩)) dNil)) (gSet 1)) (sSeq (sIf (dOr (dTest (dApp vGt (dCons (dApp vLenG (dCons (dVar 1) dNil)) (dCons (dC (.int 3)) dNil)))) (dTest (dApp vLt (dCons (dApp vLenSetG (dCons (dVar 1) dNil)) (dCons (dApp vLenG (dCons (dVar 1) dNil)) dNil))))) (sRet (dC .non)) sNil) (sSeq (sFor (dItAG (dVar 1)) (gSet 2) (sIf (dOr (dTest (dApp vGt (dCons (dApp vLenG (dCons (dVar 2) dNil)) (dCons (dC (.int 4)) dNil)))) (dNot (dTruG (dApp (vApart (mP_is_made_of tp xj)) (dCons (dVar 2) (dCons (dApp vTup (dCons (dC (.str ⟨⟨[45]⟩⟩)) (dCons (dC (.str ⟨⟨[117]⟩⟩)) (dCons (dC (.str ⟨⟨[120]⟩⟩)) dNil)))) dNil)))))) (sRet (dC .non)) sNil)) (sRet (dApp vTupleG (dCons (dVar 1) dNil))))))
noncomputable def mP_forms_in (tp : Tape) (xj : Nat) : VF := fnBody 1 3 (bP_forms_in tp xj)
noncomputable def bL_forms_in (tp : Tape) (xj : Nat) : DS := (sSeqF (sAsgF (dM isStrP (fres vSplitG) (dVarF 0) (dCons (dC (.str ⟨⟨[47]⟩⟩)) dNil)) (gSet 1)) (sSeqF (sIf (dOr (dTest (dApp vGt (dConsF (dApp vLenG (dCons (dVarF 1) dNil)) (dCons (dC (.int 3)) dNil)))) (dTest (dApp vLt (dConsF (dApp vLenSetG (dCons (dVarF 1) dNil)) (dConsF (dApp vLenG (dCons (dVarF 1) dNil)) dNil))))) (sRetF (dC .non)) sNil) (sSeqF (sForF (dItAG (dVarF 1)) (gSet 2) (sIf (dOr (dTest (dApp vGt (dConsF (dApp vLenG (dCons (dVarF 2) dNil)) (dCons (dC (.int 4)) dNil)))) (dNot (dTruG (dApp (vApartF (mL_is_made_of tp xj)) (dCons (dVarF 2) (dConsF (dApp vTup (dCons (dC (.str ⟨⟨[45]⟩⟩)) (dCons (dC (.str ⟨⟨[117]⟩⟩)) (dCons (dC (.str ⟨⟨[120]⟩⟩)) dNil)))) dNil)))))) (sRetF (dC .non)) sNil)) (sRetF (dApp (fres vTupleG) (dCons (dVarF 1) dNil))))))
noncomputable def mL_forms_in (tp : Tape) (xj : Nat) : VF := fnBodyF 1 3 (bL_forms_in tp xj)
theorem l_forms_in (tp : Tape) (xj : Nat) : (mL_forms_in tp xj) = (mP_forms_in tp xj) := by
  unfold mL_forms_in mP_forms_in bL_forms_in bP_forms_in
  simp only [sSeqF_eq, sForF_eq, sAsgF_eq, sRetF_eq, dLc2F_eq, dLcF_eq, dVarF_eq, fnBodyF_eq, vApartF_eq, sFldSetF_eq, fres_eq, fmut_eq, dres_eq, dConsF_eq, vFldF_eq, dMethF_eq, vMakeF_eq, vNameOkF_eq, vKwF_eq, vAwayF_eq, l_is_made_of]
theorem q_forms_in {ν : Nu} (N : Nam ν nN) (h_is_name : ∀ i μ, vApart m_is_name [.str ⟨⟨ν i⟩⟩] μ = .ok (.bl true) μ) {tp : Tape} (O : TapeOk ν tp m__law_take m__law_names) {xj : Nat} (hx : ν xj = [120]) : QF ν (mP_forms_in tp xj) m_forms_in := show QF ν (fnBody 1 3 (bP_forms_in tp xj)) (fnBody 1 3 b_forms_in) from qBody (show QS ν (bP_forms_in tp xj) b_forms_in from (qsSeq (qsAsg (qM t_str (q_vSplit N) qVar (qCons (qCs (by kernel_rfl) (by kernel_rfl)) qNil)) qgSet) (qsSeq (qsIf (qOr (qTest (qApp q_vGt (qCons (qApp q_vLen (qCons qVar qNil)) (qCons qCi qNil)))) (qTest (qApp q_vLt (qCons (qApp q_vLenSet (qCons qVar qNil)) (qCons (qApp q_vLen (qCons qVar qNil)) qNil))))) (qsRet qCn) qsNil) (qsSeq (qsFor (qItA qVar) qgSet (qsIf (qOr (qTest (qApp q_vGt (qCons (qApp q_vLen (qCons qVar qNil)) (qCons qCi qNil)))) (qNot (qTru (qApp (qApart (q_is_made_of N h_is_name O hx)) (qCons qVar (qCons (qApp q_vTup (qCons (qCs (by kernel_rfl) (by kernel_rfl)) (qCons (qCs (by kernel_rfl) (by kernel_rfl)) (qCons (qCs (by kernel_rfl) (by kernel_rfl)) qNil)))) qNil)))))) (qsRet qCn) qsNil)) (qsRet (qApp q_vTuple (qCons qVar qNil)))))))
noncomputable def bP_parts_in (tp : Tape) (xj : Nat) : DS := (sSeq (sIf (dTest (dApp (vInG nN) (dCons (dVar 0) (dCons (dApp vTup (dCons (dC (.str ⟨⟨[124]⟩⟩)) (dCons (dC (.str ⟨⟨[33]⟩⟩)) dNil))) dNil)))) (sRet (dApp vTup (dCons (dVar 0) dNil))) sNil) (sSeq (sPar 1 2 (dCons (dC (.int 1)) (dCons (dApp (vEqG nN) (dCons (dApp (vIxG nN) (dCons (dVar 0) (dCons (dC (.int 0)) dNil))) (dCons (dC (.str ⟨⟨[42]⟩⟩)) dNil))) dNil))) (sSeq (sIf (dTruG (dVar 2)) (sAsg (dCutG (dVar 0) (dPart (dC (.int 1))) dNoPart) (gSet 0)) (sIf (dAnd (dTest (dApp vGt (dCons (dApp vLenG (dCons (dVar 0) dNil)) (dCons (dC (.int 1)) dNil)))) (dAnd (dTest (dApp (vEqG nN) (dCons (dApp (vIxG nN) (dCons (dVar 0) (dCons (dC (.int 1)) dNil))) (dCons (dC (.str ⟨⟨[42]⟩⟩)) dNil)))) (dTest (dApp (vInG nN) (dCons (dApp (vIxG nN) (dCons (dVar 0) (dCons (dC (.int 0)) dNil))) (dCons (dCutG (dC (.str ⟨⟨[48, 49, 50, 51, 52, 53, 54, 55, 56, 57]⟩⟩)) (dPart (dC (.int 2))) dNoPart) dNil)))))) (sPar 1 0 (dCons (dApp vIntG (dCons (dApp (vIxG nN) (dCons (dVar 0) (dCons (dC (.int 0)) dNil))) dNil)) (dCons (dCutG (dVar 0) (dPart (dC (.int 2))) dNoPart) dNil))) sNil)) (sSeq (sAsg (dApp (vApart (mP_forms_in tp xj)) (dCons (dVar 0) dNil)) (gSet 3)) (sRet (dIf (dTest (dApp vIs (dCons (dVar 3) (dCons (dC .non) dNil)))) (dC .non) (dApp vMulA (dCons (dApp vTup (dCons (dApp vTup (dCons (dVar 2) (dCons (dVar 3) dNil))) dNil)) (dCons (dVar 1) dNil)))))))))
noncomputable def mP_parts_in (tp : Tape) (xj : Nat) : VF := fnBody 1 4 (bP_parts_in tp xj)
noncomputable def bL_parts_in (tp : Tape) (xj : Nat) : DS := (sSeqF (sIf (dTest (dApp (vInG nN) (dCons (dVarF 0) (dConsF (dApp vTup (dCons (dC (.str ⟨⟨[124]⟩⟩)) (dCons (dC (.str ⟨⟨[33]⟩⟩)) dNil))) dNil)))) (sRetF (dApp vTup (dCons (dVarF 0) dNil))) sNil) (sSeqF (sPar 1 2 (dCons (dC (.int 1)) (dConsF (dApp (vEqG nN) (dConsF (dApp (fres (vIxG nN)) (dCons (dVarF 0) (dCons (dC (.int 0)) dNil))) (dCons (dC (.str ⟨⟨[42]⟩⟩)) dNil))) dNil))) (sSeqF (sIf (dTruG (dVarF 2)) (sAsgF (dres (dCutG (dVarF 0) (dPart (dC (.int 1))) dNoPart)) (gSet 0)) (sIf (dAnd (dTest (dApp vGt (dConsF (dApp vLenG (dCons (dVarF 0) dNil)) (dCons (dC (.int 1)) dNil)))) (dAnd (dTest (dApp (vEqG nN) (dConsF (dApp (fres (vIxG nN)) (dCons (dVarF 0) (dCons (dC (.int 1)) dNil))) (dCons (dC (.str ⟨⟨[42]⟩⟩)) dNil)))) (dTest (dApp (vInG nN) (dConsF (dApp (fres (vIxG nN)) (dCons (dVarF 0) (dCons (dC (.int 0)) dNil))) (dConsF (dres (dCutG (dC (.str ⟨⟨[48, 49, 50, 51, 52, 53, 54, 55, 56, 57]⟩⟩)) (dPart (dC (.int 2))) dNoPart)) dNil)))))) (sPar 1 0 (dConsF (dApp vIntG (dConsF (dApp (fres (vIxG nN)) (dCons (dVarF 0) (dCons (dC (.int 0)) dNil))) dNil)) (dConsF (dres (dCutG (dVarF 0) (dPart (dC (.int 2))) dNoPart)) dNil))) sNil)) (sSeqF (sAsgF (dApp (vApartF (mL_forms_in tp xj)) (dCons (dVarF 0) dNil)) (gSet 3)) (sRetF (dIf (dTest (dApp vIs (dCons (dVarF 3) (dCons (dC .non) dNil)))) (dC .non) (dApp (fres vMulA) (dConsF (dApp vTup (dConsF (dApp vTup (dCons (dVarF 2) (dCons (dVarF 3) dNil))) dNil)) (dCons (dVarF 1) dNil)))))))))
noncomputable def mL_parts_in (tp : Tape) (xj : Nat) : VF := fnBodyF 1 4 (bL_parts_in tp xj)
theorem l_parts_in (tp : Tape) (xj : Nat) : (mL_parts_in tp xj) = (mP_parts_in tp xj) := by
  unfold mL_parts_in mP_parts_in bL_parts_in bP_parts_in
  simp only [sSeqF_eq, sForF_eq, sAsgF_eq, sRetF_eq, dLc2F_eq, dLcF_eq, dVarF_eq, fnBodyF_eq, vApartF_eq, sFldSetF_eq, fres_eq, fmut_eq, dres_eq, dConsF_eq, vFldF_eq, dMethF_eq, vMakeF_eq, vNameOkF_eq, vKwF_eq, vAwayF_eq, l_forms_in]
theorem q_parts_in {ν : Nu} (N : Nam ν nN) (h_is_name : ∀ i μ, vApart m_is_name [.str ⟨⟨ν i⟩⟩] μ = .ok (.bl true) μ) {tp : Tape} (O : TapeOk ν tp m__law_take m__law_names) {xj : Nat} (hx : ν xj = [120]) : QF ν (mP_parts_in tp xj) m_parts_in := show QF ν (fnBody 1 4 (bP_parts_in tp xj)) (fnBody 1 4 b_parts_in) from qBody (show QS ν (bP_parts_in tp xj) b_parts_in from (qsSeq (qsIf (qTest (qApp (q_vIn N) (qCons qVar (qCons (qApp q_vTup (qCons (qCs (by kernel_rfl) (by kernel_rfl)) (qCons (qCs (by kernel_rfl) (by kernel_rfl)) qNil))) qNil)))) (qsRet (qApp q_vTup (qCons qVar qNil))) qsNil) (qsSeq (qsPar (qCons qCi (qCons (qApp (q_vEq N) (qCons (qApp (q_vIx N) (qCons qVar (qCons qCi qNil))) (qCons (qCs (by kernel_rfl) (by kernel_rfl)) qNil))) qNil))) (qsSeq (qsIf (qTru qVar) (qsAsg (qCut qVar (qPart qCi) qNoPart) qgSet) (qsIf (qAnd (qTest (qApp q_vGt (qCons (qApp q_vLen (qCons qVar qNil)) (qCons qCi qNil)))) (qAnd (qTest (qApp (q_vEq N) (qCons (qApp (q_vIx N) (qCons qVar (qCons qCi qNil))) (qCons (qCs (by kernel_rfl) (by kernel_rfl)) qNil)))) (qTest (qApp (q_vIn N) (qCons (qApp (q_vIx N) (qCons qVar (qCons qCi qNil))) (qCons (qCut (qCs (by kernel_rfl) (by kernel_rfl)) (qPart qCi) qNoPart) qNil)))))) (qsPar (qCons (qApp q_vInt (qCons (qApp (q_vIx N) (qCons qVar (qCons qCi qNil))) qNil)) (qCons (qCut qVar (qPart qCi) qNoPart) qNil))) qsNil)) (qsSeq (qsAsg (qApp (qApart (q_forms_in N h_is_name O hx)) (qCons qVar qNil)) qgSet) (qsRet (qIf (qTest (qApp q_vIs (qCons qVar (qCons qCn qNil)))) qCn (qApp q_vMulA (qCons (qApp q_vTup (qCons (qApp q_vTup (qCons qVar (qCons qVar qNil))) qNil)) (qCons qVar qNil))))))))))
noncomputable def bP_metre_parts (tp : Tape) (xj : Nat) : DS := (sSeq (sIf (dNot (dTest (dChain vLe vLe (dC (.int 1)) (dApp vLenG (dCons (dVar 0) dNil)) (dC (.int 8))))) (sRet (dC .non)) sNil) (sSeq (sAsg (dLc (dItAG (dVar 0)) (gSet 3) tYes' (dApp (vApart (mP_parts_in tp xj)) (dCons (dVar 3) dNil)) [3]) (gSet 1)) (sSeq (sIf (dTest (dApp (vInG nN) (dCons (dC .non) (dCons (dVar 1) dNil)))) (sRet (dC .non)) sNil) (sSeq (sAsg (dApp vTupleG (dCons (dLc2 (dItAG (dVar 1)) (gSet 4) tYes' (dItAG (dVar 4)) (gSet 5) tYes' (dVar 5) [4, 5] [5]) dNil)) (gSet 2)) (sRet (dIf (dTest (dApp vLe (dCons (dApp vLenG (dCons (dVar 2) dNil)) (dCons (dC (.int 24)) dNil)))) (dVar 2) (dC .non)))))))
noncomputable def mP_metre_parts (tp : Tape) (xj : Nat) : VF := fnBody 1 6 (bP_metre_parts tp xj)
noncomputable def bL_metre_parts (tp : Tape) (xj : Nat) : DS := (sSeqF (sIf (dNot (dTest (dChain vLe vLe (dC (.int 1)) (dApp vLenG (dCons (dVarF 0) dNil)) (dC (.int 8))))) (sRetF (dC .non)) sNil) (sSeqF (sAsgF (dLcF (dItAG (dVarF 0)) (gSet 3) tYes' (dApp (vApartF (mL_parts_in tp xj)) (dCons (dVarF 3) dNil)) [3]) (gSet 1)) (sSeqF (sIf (dTest (dApp (vInG nN) (dCons (dC .non) (dCons (dVarF 1) dNil)))) (sRetF (dC .non)) sNil) (sSeqF (sAsgF (dApp (fres vTupleG) (dConsF (dLc2F (dItAG (dVarF 1)) (gSet 4) tYes' (dItAG (dVarF 4)) (gSet 5) tYes' (dVarF 5) [4, 5] [5]) dNil)) (gSet 2)) (sRetF (dIf (dTest (dApp vLe (dConsF (dApp vLenG (dCons (dVarF 2) dNil)) (dCons (dC (.int 24)) dNil)))) (dVarF 2) (dC .non)))))))
noncomputable def mL_metre_parts (tp : Tape) (xj : Nat) : VF := fnBodyF 1 6 (bL_metre_parts tp xj)
theorem l_metre_parts (tp : Tape) (xj : Nat) : (mL_metre_parts tp xj) = (mP_metre_parts tp xj) := by
  unfold mL_metre_parts mP_metre_parts bL_metre_parts bP_metre_parts
  simp only [sSeqF_eq, sForF_eq, sAsgF_eq, sRetF_eq, dLc2F_eq, dLcF_eq, dVarF_eq, fnBodyF_eq, vApartF_eq, sFldSetF_eq, fres_eq, fmut_eq, dres_eq, dConsF_eq, vFldF_eq, dMethF_eq, vMakeF_eq, vNameOkF_eq, vKwF_eq, vAwayF_eq, l_parts_in]
theorem q_metre_parts {ν : Nu} (N : Nam ν nN) (h_is_name : ∀ i μ, vApart m_is_name [.str ⟨⟨ν i⟩⟩] μ = .ok (.bl true) μ) {tp : Tape} (O : TapeOk ν tp m__law_take m__law_names) {xj : Nat} (hx : ν xj = [120]) : QF ν (mP_metre_parts tp xj) m_metre_parts := show QF ν (fnBody 1 6 (bP_metre_parts tp xj)) (fnBody 1 6 b_metre_parts) from qBody (show QS ν (bP_metre_parts tp xj) b_metre_parts from (qsSeq (qsIf (qNot (qTest (qChain q_vLe q_vLe qCi (qApp q_vLen (qCons qVar qNil)) qCi))) (qsRet qCn) qsNil) (qsSeq (qsAsg (qLc (qItA qVar) qgSet qYes (qApp (qApart (q_parts_in N h_is_name O hx)) (qCons qVar qNil))) qgSet) (qsSeq (qsIf (qTest (qApp (q_vIn N) (qCons qCn (qCons qVar qNil)))) (qsRet qCn) qsNil) (qsSeq (qsAsg (qApp q_vTuple (qCons (qLc2 (qItA qVar) qgSet qYes (qItA qVar) qgSet qYes qVar) qNil)) qgSet) (qsRet (qIf (qTest (qApp q_vLe (qCons (qApp q_vLen (qCons qVar qNil)) (qCons qCi qNil)))) qVar qCn)))))))
noncomputable def bP_Reading_take_metre (tp : Tape) (xj : Nat) : DS := (sSeq (sIf (dOr (dTest (dApp vLt (dCons (dApp vLenG (dCons (dVar 1) dNil)) (dCons (dC (.int 3)) dNil)))) (dOr (dTest (dApp (vEqG nN) (dCons (dApp vLenG (dCons (dApp (vFld aC_Reading ⟨⟨[110, 97, 109, 101, 100, 95, 109, 101, 116, 114, 101, 115]⟩⟩) (dCons (dVar 0) dNil)) dNil)) (dCons (dC (.int 3)) dNil)))) (dTest (dApp (vEqG nN) (dCons (dApp (vFld aC_Reading ⟨⟨[110, 97, 109, 101, 100, 95, 119, 111, 114, 100, 115]⟩⟩) (dCons (dVar 0) dNil)) (dCons dNewD dNil)))))) (sRet (dC (.bl false))) sNil) (sSeq (sAsg (dApp (mP_metre_parts tp xj) (dCons (dCutG (dVar 1) (dPart (dC (.int 2))) dNoPart) dNil)) (gSet 2)) (sSeq (sIf (dOr (dNot (dTruG (dApp (vNameOk (mP_is_name tp xj)) (dCons (dApp (vIxG nN) (dCons (dVar 1) (dCons (dC (.int 1)) dNil))) dNil)))) (dOr (dTest (dApp (vInG nN) (dCons (dApp (vIxG nN) (dCons (dVar 1) (dCons (dC (.int 1)) dNil))) (dCons (dApp (vFld aC_Reading ⟨⟨[110, 97, 109, 101, 100, 95, 109, 101, 116, 114, 101, 115]⟩⟩) (dCons (dVar 0) dNil)) dNil)))) (dTest (dApp vIs (dCons (dVar 2) (dCons (dC .non) dNil)))))) (sRet (dC (.bl false))) sNil) (sSeq (sAsg (dVar 2) (gItemG nN (dApp (vFld aC_Reading ⟨⟨[110, 97, 109, 101, 100, 95, 109, 101, 116, 114, 101, 115]⟩⟩) (dCons (dVar 0) dNil)) (dApp (vIxG nN) (dCons (dVar 1) (dCons (dC (.int 1)) dNil))))) (sRet (dC (.bl true)))))))
noncomputable def mP_Reading_take_metre (tp : Tape) (xj : Nat) : VF := fnBody 2 3 (bP_Reading_take_metre tp xj)
noncomputable def bL_Reading_take_metre (tp : Tape) (xj : Nat) : DS := (sSeqF (sIf (dOr (dTest (dApp vLt (dConsF (dApp vLenG (dCons (dVarF 1) dNil)) (dCons (dC (.int 3)) dNil)))) (dOr (dTest (dApp (vEqG nN) (dConsF (dApp vLenG (dConsF (dApp (vFldF aC_Reading ⟨⟨[110, 97, 109, 101, 100, 95, 109, 101, 116, 114, 101, 115]⟩⟩) (dCons (dVarF 0) dNil)) dNil)) (dCons (dC (.int 3)) dNil)))) (dTest (dApp (vEqG nN) (dConsF (dApp (vFldF aC_Reading ⟨⟨[110, 97, 109, 101, 100, 95, 119, 111, 114, 100, 115]⟩⟩) (dCons (dVarF 0) dNil)) (dConsF (dres dNewD) dNil)))))) (sRetF (dC (.bl false))) sNil) (sSeqF (sAsgF (dApp (mL_metre_parts tp xj) (dConsF (dres (dCutG (dVarF 1) (dPart (dC (.int 2))) dNoPart)) dNil)) (gSet 2)) (sSeqF (sIf (dOr (dNot (dTruG (dApp (vNameOkF (mL_is_name tp xj)) (dConsF (dApp (fres (vIxG nN)) (dCons (dVarF 1) (dCons (dC (.int 1)) dNil))) dNil)))) (dOr (dTest (dApp (vInG nN) (dConsF (dApp (fres (vIxG nN)) (dCons (dVarF 1) (dCons (dC (.int 1)) dNil))) (dConsF (dApp (vFldF aC_Reading ⟨⟨[110, 97, 109, 101, 100, 95, 109, 101, 116, 114, 101, 115]⟩⟩) (dCons (dVarF 0) dNil)) dNil)))) (dTest (dApp vIs (dCons (dVarF 2) (dCons (dC .non) dNil)))))) (sRetF (dC (.bl false))) sNil) (sSeqF (sAsgF (dVarF 2) (gItemG nN (dApp (vFldF aC_Reading ⟨⟨[110, 97, 109, 101, 100, 95, 109, 101, 116, 114, 101, 115]⟩⟩) (dCons (dVarF 0) dNil)) (dApp (fres (vIxG nN)) (dCons (dVarF 1) (dCons (dC (.int 1)) dNil))))) (sRetF (dC (.bl true)))))))
noncomputable def mL_Reading_take_metre (tp : Tape) (xj : Nat) : VF := fnBodyF 2 3 (bL_Reading_take_metre tp xj)
theorem l_Reading_take_metre (tp : Tape) (xj : Nat) : (mL_Reading_take_metre tp xj) = (mP_Reading_take_metre tp xj) := by
  unfold mL_Reading_take_metre mP_Reading_take_metre bL_Reading_take_metre bP_Reading_take_metre
  simp only [sSeqF_eq, sForF_eq, sAsgF_eq, sRetF_eq, dLc2F_eq, dLcF_eq, dVarF_eq, fnBodyF_eq, vApartF_eq, sFldSetF_eq, fres_eq, fmut_eq, dres_eq, dConsF_eq, vFldF_eq, dMethF_eq, vMakeF_eq, vNameOkF_eq, vKwF_eq, vAwayF_eq, l_is_name, l_metre_parts]
theorem q_Reading_take_metre {ν : Nu} (N : Nam ν nN) (h_is_name : ∀ i μ, vApart m_is_name [.str ⟨⟨ν i⟩⟩] μ = .ok (.bl true) μ) {tp : Tape} (O : TapeOk ν tp m__law_take m__law_names) {xj : Nat} (hx : ν xj = [120]) : QF ν (mP_Reading_take_metre tp xj) m_Reading_take_metre := show QF ν (fnBody 2 3 (bP_Reading_take_metre tp xj)) (fnBody 2 3 b_Reading_take_metre) from qBody (show QS ν (bP_Reading_take_metre tp xj) b_Reading_take_metre from (qsSeq (qsIf (qOr (qTest (qApp q_vLt (qCons (qApp q_vLen (qCons qVar qNil)) (qCons qCi qNil)))) (qOr (qTest (qApp (q_vEq N) (qCons (qApp q_vLen (qCons (qApp qFld (qCons qVar qNil)) qNil)) (qCons qCi qNil)))) (qTest (qApp (q_vEq N) (qCons (qApp qFld (qCons qVar qNil)) (qCons qNewD qNil)))))) (qsRet qCb) qsNil) (qsSeq (qsAsg (qApp (q_metre_parts N h_is_name O hx) (qCons (qCut qVar (qPart qCi) qNoPart) qNil)) qgSet) (qsSeq (qsIf (qOr (qNot (qTru (qApp (qNameOk h_is_name (q_is_name N h_is_name O hx)) (qCons (qApp (q_vIx N) (qCons qVar (qCons qCi qNil))) qNil)))) (qOr (qTest (qApp (q_vIn N) (qCons (qApp (q_vIx N) (qCons qVar (qCons qCi qNil))) (qCons (qApp qFld (qCons qVar qNil)) qNil)))) (qTest (qApp q_vIs (qCons qVar (qCons qCn qNil)))))) (qsRet qCb) qsNil) (qsSeq (qsAsg qVar (qgItem N (qApp qFld (qCons qVar qNil)) (qApp (q_vIx N) (qCons qVar (qCons qCi qNil))))) (qsRet qCb))))))
noncomputable def bP_Reading_take_word (tp : Tape) (xj : Nat) : DS := (sSeq (sAsg (dOrVG (dApp (vNeG nN) (dCons (dApp (vFld aC_Reading ⟨⟨[110, 97, 109, 101, 100, 95, 106, 111, 105, 110, 116, 115]⟩⟩) (dCons (dVar 0) dNil)) (dCons dNewD dNil))) (dApp (vNeG nN) (dCons (dApp (vFld aC_Reading ⟨⟨[110, 97, 109, 101, 100, 95, 109, 101, 116, 114, 101, 115]⟩⟩) (dCons (dVar 0) dNil)) (dCons dNewD dNil)))) (gSet 2)) (sSeq (sIf (dOr (dTest (dApp (vNeG nN) (dCons (dApp vLenG (dCons (dVar 1) dNil)) (dCons (dC (.int 5)) dNil)))) (dOr (dTest (dApp (vEqG nN) (dCons (dApp vLenG (dCons (dApp (vFld aC_Reading ⟨⟨[110, 97, 109, 101, 100, 95, 119, 111, 114, 100, 115]⟩⟩) (dCons (dVar 0) dNil)) dNil)) (dCons (dC (.int 6)) dNil)))) (dTruG (dVar 2)))) (sRet (dC (.bl false))) sNil) (sSeq (sAsg (dCutG (dVar 1) (dPart (dC (.int 1))) dNoPart) (gTupA 4 (gCons' (gSet 3) (gCons' (gSet 4) (gCons' (gSet 5) (gCons' (gSet 6) gNil')))))) (sSeq (sIf (dOr (dNot (dTruG (dApp (vNameOk (mP_is_name tp xj)) (dCons (dVar 3) dNil)))) (dOr (dTest (dApp (vInG nN) (dCons (dVar 3) (dCons (dApp (vFld aC_Reading ⟨⟨[110, 97, 109, 101, 100, 95, 119, 111, 114, 100, 115]⟩⟩) (dCons (dVar 0) dNil)) dNil)))) (dOr (dTest (dApp (vNotInG nN) (dCons (dVar 4) (dCons (dApp vTupleG (dCons (dC (.str ⟨⟨[97, 98, 99, 100, 101, 102, 103, 104, 105, 106, 107, 108, 109, 110, 111, 112, 113, 114, 115, 116, 117, 118, 119, 120, 121, 122]⟩⟩)) dNil)) dNil)))) (dTest (dApp (vNotInG nN) (dCons (dVar 6) (dCons (dApp vTupleG (dCons (dC (.str ⟨⟨[97, 98, 99, 100, 101, 102, 103, 104, 105, 106, 107, 108, 109, 110, 111, 112, 113, 114, 115, 116, 117, 118, 119, 120, 121, 122]⟩⟩)) dNil)) dNil))))))) (sRet (dC (.bl false))) sNil) (sSeq (sIf (dOr (dNot (dTruG (dApp (vApart (mP_is_made_of tp xj)) (dCons (dVar 5) (dCons (dApp vTup (dCons (dC (.str ⟨⟨[45]⟩⟩)) (dCons (dC (.str ⟨⟨[117]⟩⟩)) (dCons (dC (.str ⟨⟨[63]⟩⟩)) dNil)))) dNil))))) (dTest (dApp vGt (dCons (dApp vLenG (dCons (dVar 5) dNil)) (dCons (dC (.int 4)) dNil))))) (sRet (dC (.bl false))) sNil) (sSeq (sAsg (dApp vSum (dCons (dLc (dValsF (dApp (vFld aC_Reading ⟨⟨[110, 97, 109, 101, 100, 95, 119, 111, 114, 100, 115]⟩⟩) (dCons (dVar 0) dNil))) (gSet 8) tYes' (dM isStrP vCountG (dApp (vIxG nN) (dCons (dVar 8) (dCons (dC (.int 1)) dNil))) (dCons (dC (.str ⟨⟨[63]⟩⟩)) dNil)) [8]) dNil)) (gSet 7)) (sSeq (sIf (dTest (dApp vGt (dCons (dApp vAddG (dCons (dVar 7) (dCons (dM isStrP vCountG (dVar 5) (dCons (dC (.str ⟨⟨[63]⟩⟩)) dNil)) dNil))) (dCons (dC (.int 6)) dNil)))) (sRet (dC (.bl false))) sNil) (sSeq (sAsg (dApp vTup (dCons (dVar 4) (dCons (dVar 5) (dCons (dVar 6) dNil)))) (gItemG nN (dApp (vFld aC_Reading ⟨⟨[110, 97, 109, 101, 100, 95, 119, 111, 114, 100, 115]⟩⟩) (dCons (dVar 0) dNil)) (dVar 3))) (sRet (dC (.bl true)))))))))))
noncomputable def mP_Reading_take_word (tp : Tape) (xj : Nat) : VF := fnBody 2 9 (bP_Reading_take_word tp xj)
noncomputable def bL_Reading_take_word (tp : Tape) (xj : Nat) : DS := (sSeqF (sAsgF (dOrVG (dApp (vNeG nN) (dConsF (dApp (vFldF aC_Reading ⟨⟨[110, 97, 109, 101, 100, 95, 106, 111, 105, 110, 116, 115]⟩⟩) (dCons (dVarF 0) dNil)) (dConsF (dres dNewD) dNil))) (dApp (vNeG nN) (dConsF (dApp (vFldF aC_Reading ⟨⟨[110, 97, 109, 101, 100, 95, 109, 101, 116, 114, 101, 115]⟩⟩) (dCons (dVarF 0) dNil)) (dConsF (dres dNewD) dNil)))) (gSet 2)) (sSeqF (sIf (dOr (dTest (dApp (vNeG nN) (dConsF (dApp vLenG (dCons (dVarF 1) dNil)) (dCons (dC (.int 5)) dNil)))) (dOr (dTest (dApp (vEqG nN) (dConsF (dApp vLenG (dConsF (dApp (vFldF aC_Reading ⟨⟨[110, 97, 109, 101, 100, 95, 119, 111, 114, 100, 115]⟩⟩) (dCons (dVarF 0) dNil)) dNil)) (dCons (dC (.int 6)) dNil)))) (dTruG (dVarF 2)))) (sRetF (dC (.bl false))) sNil) (sSeqF (sAsgF (dres (dCutG (dVarF 1) (dPart (dC (.int 1))) dNoPart)) (gTupA 4 (gCons' (gSet 3) (gCons' (gSet 4) (gCons' (gSet 5) (gCons' (gSet 6) gNil')))))) (sSeqF (sIf (dOr (dNot (dTruG (dApp (vNameOkF (mL_is_name tp xj)) (dCons (dVarF 3) dNil)))) (dOr (dTest (dApp (vInG nN) (dCons (dVarF 3) (dConsF (dApp (vFldF aC_Reading ⟨⟨[110, 97, 109, 101, 100, 95, 119, 111, 114, 100, 115]⟩⟩) (dCons (dVarF 0) dNil)) dNil)))) (dOr (dTest (dApp (vNotInG nN) (dCons (dVarF 4) (dConsF (dApp (fres vTupleG) (dCons (dC (.str ⟨⟨[97, 98, 99, 100, 101, 102, 103, 104, 105, 106, 107, 108, 109, 110, 111, 112, 113, 114, 115, 116, 117, 118, 119, 120, 121, 122]⟩⟩)) dNil)) dNil)))) (dTest (dApp (vNotInG nN) (dCons (dVarF 6) (dConsF (dApp (fres vTupleG) (dCons (dC (.str ⟨⟨[97, 98, 99, 100, 101, 102, 103, 104, 105, 106, 107, 108, 109, 110, 111, 112, 113, 114, 115, 116, 117, 118, 119, 120, 121, 122]⟩⟩)) dNil)) dNil))))))) (sRetF (dC (.bl false))) sNil) (sSeqF (sIf (dOr (dNot (dTruG (dApp (vApartF (mL_is_made_of tp xj)) (dCons (dVarF 5) (dConsF (dApp vTup (dCons (dC (.str ⟨⟨[45]⟩⟩)) (dCons (dC (.str ⟨⟨[117]⟩⟩)) (dCons (dC (.str ⟨⟨[63]⟩⟩)) dNil)))) dNil))))) (dTest (dApp vGt (dConsF (dApp vLenG (dCons (dVarF 5) dNil)) (dCons (dC (.int 4)) dNil))))) (sRetF (dC (.bl false))) sNil) (sSeqF (sAsgF (dApp vSum (dConsF (dLcF (dValsF (dApp (vFldF aC_Reading ⟨⟨[110, 97, 109, 101, 100, 95, 119, 111, 114, 100, 115]⟩⟩) (dCons (dVarF 0) dNil))) (gSet 8) tYes' (dM isStrP (fres vCountG) (dApp (fres (vIxG nN)) (dCons (dVarF 8) (dCons (dC (.int 1)) dNil))) (dCons (dC (.str ⟨⟨[63]⟩⟩)) dNil)) [8]) dNil)) (gSet 7)) (sSeqF (sIf (dTest (dApp vGt (dConsF (dApp (fres vAddG) (dCons (dVarF 7) (dConsF (dM isStrP (fres vCountG) (dVarF 5) (dCons (dC (.str ⟨⟨[63]⟩⟩)) dNil)) dNil))) (dCons (dC (.int 6)) dNil)))) (sRetF (dC (.bl false))) sNil) (sSeqF (sAsgF (dApp vTup (dCons (dVarF 4) (dCons (dVarF 5) (dCons (dVarF 6) dNil)))) (gItemG nN (dApp (vFldF aC_Reading ⟨⟨[110, 97, 109, 101, 100, 95, 119, 111, 114, 100, 115]⟩⟩) (dCons (dVarF 0) dNil)) (dVarF 3))) (sRetF (dC (.bl true)))))))))))
noncomputable def mL_Reading_take_word (tp : Tape) (xj : Nat) : VF := fnBodyF 2 9 (bL_Reading_take_word tp xj)
theorem l_Reading_take_word (tp : Tape) (xj : Nat) : (mL_Reading_take_word tp xj) = (mP_Reading_take_word tp xj) := by
  unfold mL_Reading_take_word mP_Reading_take_word bL_Reading_take_word bP_Reading_take_word
  simp only [sSeqF_eq, sForF_eq, sAsgF_eq, sRetF_eq, dLc2F_eq, dLcF_eq, dVarF_eq, fnBodyF_eq, vApartF_eq, sFldSetF_eq, fres_eq, fmut_eq, dres_eq, dConsF_eq, vFldF_eq, dMethF_eq, vMakeF_eq, vNameOkF_eq, vKwF_eq, vAwayF_eq, l_is_made_of, l_is_name]
theorem q_Reading_take_word {ν : Nu} (N : Nam ν nN) (h_is_name : ∀ i μ, vApart m_is_name [.str ⟨⟨ν i⟩⟩] μ = .ok (.bl true) μ) {tp : Tape} (O : TapeOk ν tp m__law_take m__law_names) {xj : Nat} (hx : ν xj = [120]) : QF ν (mP_Reading_take_word tp xj) m_Reading_take_word := show QF ν (fnBody 2 9 (bP_Reading_take_word tp xj)) (fnBody 2 9 b_Reading_take_word) from qBody (show QS ν (bP_Reading_take_word tp xj) b_Reading_take_word from (qsSeq (qsAsg (qOrV (qApp (q_vNe N) (qCons (qApp qFld (qCons qVar qNil)) (qCons qNewD qNil))) (qApp (q_vNe N) (qCons (qApp qFld (qCons qVar qNil)) (qCons qNewD qNil)))) qgSet) (qsSeq (qsIf (qOr (qTest (qApp (q_vNe N) (qCons (qApp q_vLen (qCons qVar qNil)) (qCons qCi qNil)))) (qOr (qTest (qApp (q_vEq N) (qCons (qApp q_vLen (qCons (qApp qFld (qCons qVar qNil)) qNil)) (qCons qCi qNil)))) (qTru qVar))) (qsRet qCb) qsNil) (qsSeq (qsAsg (qCut qVar (qPart qCi) qNoPart) (qgTup (qgCons qgSet (qgCons qgSet (qgCons qgSet (qgCons qgSet qgNil)))))) (qsSeq (qsIf (qOr (qNot (qTru (qApp (qNameOk h_is_name (q_is_name N h_is_name O hx)) (qCons qVar qNil)))) (qOr (qTest (qApp (q_vIn N) (qCons qVar (qCons (qApp qFld (qCons qVar qNil)) qNil)))) (qOr (qTest (qApp (q_vNotIn N) (qCons qVar (qCons (qApp q_vTuple (qCons (qCs (by kernel_rfl) (by kernel_rfl)) qNil)) qNil)))) (qTest (qApp (q_vNotIn N) (qCons qVar (qCons (qApp q_vTuple (qCons (qCs (by kernel_rfl) (by kernel_rfl)) qNil)) qNil))))))) (qsRet qCb) qsNil) (qsSeq (qsIf (qOr (qNot (qTru (qApp (qApart (q_is_made_of N h_is_name O hx)) (qCons qVar (qCons (qApp q_vTup (qCons (qCs (by kernel_rfl) (by kernel_rfl)) (qCons (qCs (by kernel_rfl) (by kernel_rfl)) (qCons (qCs (by kernel_rfl) (by kernel_rfl)) qNil)))) qNil))))) (qTest (qApp q_vGt (qCons (qApp q_vLen (qCons qVar qNil)) (qCons qCi qNil))))) (qsRet qCb) qsNil) (qsSeq (qsAsg (qApp q_vSum (qCons (qLc (qVals (qApp qFld (qCons qVar qNil))) qgSet qYes (qM t_str q_vCount (qApp (q_vIx N) (qCons qVar (qCons qCi qNil))) (qCons (qCs (by kernel_rfl) (by kernel_rfl)) qNil))) qNil)) qgSet) (qsSeq (qsIf (qTest (qApp q_vGt (qCons (qApp (q_vAdd N) (qCons qVar (qCons (qM t_str q_vCount qVar (qCons (qCs (by kernel_rfl) (by kernel_rfl)) qNil)) qNil))) (qCons qCi qNil)))) (qsRet qCb) qsNil) (qsSeq (qsAsg (qApp q_vTup (qCons qVar (qCons qVar (qCons qVar qNil)))) (qgItem N (qApp qFld (qCons qVar qNil)) qVar)) (qsRet qCb))))))))))
noncomputable def bP_Reading_take (tp : Tape) (xj : Nat) : DS := (sSeq (sAsg (dM isStrP vSplitG (dVar 1) (dCons (dC (.str ⟨⟨[32]⟩⟩)) dNil)) (gSet 2)) (sSeq (sIf (dTest (dApp (vInG nN) (dCons (dC (.str ⟨⟨[]⟩⟩)) (dCons (dVar 2) dNil)))) (sRet (dC (.bl false))) sNil) (sSeq (sIf (dTest (dApp (vEqG nN) (dCons (dApp (vIxG nN) (dCons (dVar 2) (dCons (dC (.int 0)) dNil))) (dCons (dC (.str ⟨⟨[119, 111, 114, 100]⟩⟩)) dNil)))) (sRet (dMeth aC_Reading ⟨⟨[116, 97, 107, 101, 95, 119, 111, 114, 100]⟩⟩ (mP_Reading_take_word tp xj) (dVar 0) (dCons (dVar 2) dNil))) sNil) (sSeq (sIf (dTest (dApp (vEqG nN) (dCons (dApp (vIxG nN) (dCons (dVar 2) (dCons (dC (.int 0)) dNil))) (dCons (dC (.str ⟨⟨[106, 111, 105, 110, 116]⟩⟩)) dNil)))) (sRet (dMeth aC_Reading ⟨⟨[116, 97, 107, 101, 95, 106, 111, 105, 110, 116]⟩⟩ (mP_Reading_take_joint tp xj) (dVar 0) (dCons (dVar 2) dNil))) sNil) (sRet (dAndVG (dApp (vEqG nN) (dCons (dApp (vIxG nN) (dCons (dVar 2) (dCons (dC (.int 0)) dNil))) (dCons (dC (.str ⟨⟨[109, 101, 116, 114, 101]⟩⟩)) dNil))) (dMeth aC_Reading ⟨⟨[116, 97, 107, 101, 95, 109, 101, 116, 114, 101]⟩⟩ (mP_Reading_take_metre tp xj) (dVar 0) (dCons (dVar 2) dNil))))))))
noncomputable def mP_Reading_take (tp : Tape) (xj : Nat) : VF := fnBody 2 3 (bP_Reading_take tp xj)
noncomputable def bL_Reading_take (tp : Tape) (xj : Nat) : DS := (sSeqF (sAsgF (dM isStrP (fres vSplitG) (dVarF 1) (dCons (dC (.str ⟨⟨[32]⟩⟩)) dNil)) (gSet 2)) (sSeqF (sIf (dTest (dApp (vInG nN) (dCons (dC (.str ⟨⟨[]⟩⟩)) (dCons (dVarF 2) dNil)))) (sRetF (dC (.bl false))) sNil) (sSeqF (sIf (dTest (dApp (vEqG nN) (dConsF (dApp (fres (vIxG nN)) (dCons (dVarF 2) (dCons (dC (.int 0)) dNil))) (dCons (dC (.str ⟨⟨[119, 111, 114, 100]⟩⟩)) dNil)))) (sRetF (dMethF aC_Reading ⟨⟨[116, 97, 107, 101, 95, 119, 111, 114, 100]⟩⟩ (mL_Reading_take_word tp xj) (dVarF 0) (dCons (dVarF 2) dNil))) sNil) (sSeqF (sIf (dTest (dApp (vEqG nN) (dConsF (dApp (fres (vIxG nN)) (dCons (dVarF 2) (dCons (dC (.int 0)) dNil))) (dCons (dC (.str ⟨⟨[106, 111, 105, 110, 116]⟩⟩)) dNil)))) (sRetF (dMethF aC_Reading ⟨⟨[116, 97, 107, 101, 95, 106, 111, 105, 110, 116]⟩⟩ (mL_Reading_take_joint tp xj) (dVarF 0) (dCons (dVarF 2) dNil))) sNil) (sRetF (dAndVG (dApp (vEqG nN) (dConsF (dApp (fres (vIxG nN)) (dCons (dVarF 2) (dCons (dC (.int 0)) dNil))) (dCons (dC (.str ⟨⟨[109, 101, 116, 114, 101]⟩⟩)) dNil))) (dMethF aC_Reading ⟨⟨[116, 97, 107, 101, 95, 109, 101, 116, 114, 101]⟩⟩ (mL_Reading_take_metre tp xj) (dVarF 0) (dCons (dVarF 2) dNil))))))))
noncomputable def mL_Reading_take (tp : Tape) (xj : Nat) : VF := fnBodyF 2 3 (bL_Reading_take tp xj)
theorem l_Reading_take (tp : Tape) (xj : Nat) : (mL_Reading_take tp xj) = (mP_Reading_take tp xj) := by
  unfold mL_Reading_take mP_Reading_take bL_Reading_take bP_Reading_take
  simp only [sSeqF_eq, sForF_eq, sAsgF_eq, sRetF_eq, dLc2F_eq, dLcF_eq, dVarF_eq, fnBodyF_eq, vApartF_eq, sFldSetF_eq, fres_eq, fmut_eq, dres_eq, dConsF_eq, vFldF_eq, dMethF_eq, vMakeF_eq, vNameOkF_eq, vKwF_eq, vAwayF_eq, l_Reading_take_joint, l_Reading_take_metre, l_Reading_take_word]
theorem q_Reading_take {ν : Nu} (N : Nam ν nN) (h_is_name : ∀ i μ, vApart m_is_name [.str ⟨⟨ν i⟩⟩] μ = .ok (.bl true) μ) {tp : Tape} (O : TapeOk ν tp m__law_take m__law_names) {xj : Nat} (hx : ν xj = [120]) : QF ν (mP_Reading_take tp xj) m_Reading_take := show QF ν (fnBody 2 3 (bP_Reading_take tp xj)) (fnBody 2 3 b_Reading_take) from qBody (show QS ν (bP_Reading_take tp xj) b_Reading_take from (qsSeq (qsAsg (qM t_str (q_vSplit N) qVar (qCons (qCs (by kernel_rfl) (by kernel_rfl)) qNil)) qgSet) (qsSeq (qsIf (qTest (qApp (q_vIn N) (qCons (qCs (by kernel_rfl) (by kernel_rfl)) (qCons qVar qNil)))) (qsRet qCb) qsNil) (qsSeq (qsIf (qTest (qApp (q_vEq N) (qCons (qApp (q_vIx N) (qCons qVar (qCons qCi qNil))) (qCons (qCs (by kernel_rfl) (by kernel_rfl)) qNil)))) (qsRet (qMeth (q_Reading_take_word N h_is_name O hx) qVar (qCons qVar qNil))) qsNil) (qsSeq (qsIf (qTest (qApp (q_vEq N) (qCons (qApp (q_vIx N) (qCons qVar (qCons qCi qNil))) (qCons (qCs (by kernel_rfl) (by kernel_rfl)) qNil)))) (qsRet (qMeth (q_Reading_take_joint N h_is_name O hx) qVar (qCons qVar qNil))) qsNil) (qsRet (qAndV (qApp (q_vEq N) (qCons (qApp (q_vIx N) (qCons qVar (qCons qCi qNil))) (qCons (qCs (by kernel_rfl) (by kernel_rfl)) qNil))) (qMeth (q_Reading_take_metre N h_is_name O hx) qVar (qCons qVar qNil)))))))))
noncomputable def bP_read_lines (tp : Tape) (xj : Nat) : DS := (sSeq (sIf (tPure (dNot (dTruG (dApp (vIsi (isiB .str [])) (dCons (dVar 0) dNil))))) (sRaise aC_BadTongue (dPure (dC (.int 0)))) sNil) (sSeq (sPure (sPar 1 2 (dCons (dM isStrP vSplitG (dVar 0) (dCons (dC (.str ⟨⟨[10]⟩⟩)) dNil)) (dCons (dApp (vMake aC_Reading (mP_ReadingD_initD tp xj)) dNil) dNil)))) (sSeq (sFor (dEnumG (dPure (dVar 1))) (gTupA 2 (gCons' (gSet 3) (gCons' (gSet 4) gNil'))) (sIf (tPure (dNot (dTruG (dMeth aC_Reading ⟨⟨[116, 97, 107, 101]⟩⟩ (mP_Reading_take tp xj) (dVar 2) (dCons (dVar 4) dNil))))) (sRaise aC_BadTongue (dPure (dApp vAddG (dCons (dVar 3) (dCons (dC (.int 1)) dNil))))) sNil)) (sSeq (sIf (tPure (dTest (dApp (vEqG nN) (dCons (dApp (vFld aC_Reading ⟨⟨[110, 97, 109, 101, 100, 95, 109, 101, 116, 114, 101, 115]⟩⟩) (dCons (dVar 2) dNil)) (dCons dNewD dNil))))) (sRaise aC_BadTongue (dPure (dApp vAddG (dCons (dApp vLenG (dCons (dVar 1) dNil)) (dCons (dC (.int 1)) dNil))))) sNil) (sPure (sRet (dVar 2)))))))
noncomputable def mP_read_lines (tp : Tape) (xj : Nat) : VF := fnBody 1 5 (bP_read_lines tp xj)
noncomputable def bL_read_lines (tp : Tape) (xj : Nat) : DS := (sSeqF (sIf (tPure (dNot (dTruG (dApp (vIsi (isiB .str [])) (dCons (dVarF 0) dNil))))) (sRaise aC_BadTongue (dPure (dC (.int 0)))) sNil) (sSeqF (sPure (sPar 1 2 (dConsF (dM isStrP (fres vSplitG) (dVarF 0) (dCons (dC (.str ⟨⟨[10]⟩⟩)) dNil)) (dConsF (dApp (vMakeF aC_Reading (mL_ReadingD_initD tp xj)) dNil) dNil)))) (sSeqF (sForF (dEnumG (dPure (dVarF 1))) (gTupA 2 (gCons' (gSet 3) (gCons' (gSet 4) gNil'))) (sIf (tPure (dNot (dTruG (dMethF aC_Reading ⟨⟨[116, 97, 107, 101]⟩⟩ (mL_Reading_take tp xj) (dVarF 2) (dCons (dVarF 4) dNil))))) (sRaise aC_BadTongue (dPure (dApp (fres vAddG) (dCons (dVarF 3) (dCons (dC (.int 1)) dNil))))) sNil)) (sSeqF (sIf (tPure (dTest (dApp (vEqG nN) (dConsF (dApp (vFldF aC_Reading ⟨⟨[110, 97, 109, 101, 100, 95, 109, 101, 116, 114, 101, 115]⟩⟩) (dCons (dVarF 2) dNil)) (dConsF (dres dNewD) dNil))))) (sRaise aC_BadTongue (dPure (dApp (fres vAddG) (dConsF (dApp vLenG (dCons (dVarF 1) dNil)) (dCons (dC (.int 1)) dNil))))) sNil) (sPure (sRetF (dVarF 2)))))))
noncomputable def mL_read_lines (tp : Tape) (xj : Nat) : VF := fnBodyF 1 5 (bL_read_lines tp xj)
theorem l_read_lines (tp : Tape) (xj : Nat) : (mL_read_lines tp xj) = (mP_read_lines tp xj) := by
  unfold mL_read_lines mP_read_lines bL_read_lines bP_read_lines
  simp only [sSeqF_eq, sForF_eq, sAsgF_eq, sRetF_eq, dLc2F_eq, dLcF_eq, dVarF_eq, fnBodyF_eq, vApartF_eq, sFldSetF_eq, fres_eq, fmut_eq, dres_eq, dConsF_eq, vFldF_eq, dMethF_eq, vMakeF_eq, vNameOkF_eq, vKwF_eq, vAwayF_eq, l_ReadingD_initD, l_Reading_take]
theorem q_read_lines {ν : Nu} (N : Nam ν nN) (h_is_name : ∀ i μ, vApart m_is_name [.str ⟨⟨ν i⟩⟩] μ = .ok (.bl true) μ) {tp : Tape} (O : TapeOk ν tp m__law_take m__law_names) {xj : Nat} (hx : ν xj = [120]) : QXF ν (mP_read_lines tp xj) m_read_lines := show QXF ν (fnBody 1 5 (bP_read_lines tp xj)) (fnBody 1 5 b_read_lines) from qxBody (show QXS ν (bP_read_lines tp xj) b_read_lines from (qxsSeq (qxsIf (qxPureT (qNot (qTru (qApp q_vIsi (qCons qVar qNil))))) (qxsRaise (qxPureE qCi)) qxsNil) (qxsSeq (qxPureS (qsPar (qCons (qM t_str (q_vSplit N) qVar (qCons (qCs (by kernel_rfl) (by kernel_rfl)) qNil)) (qCons (qApp (qMake (q_ReadingD_initD N h_is_name O hx)) qNil) qNil)))) (qxsSeq (qxsFor (qxEnum qVar) (qgTup (qgCons qgSet (qgCons qgSet qgNil))) (ne_gTup (ne_gCons ne_gSet (ne_gCons ne_gSet ne_gNil))) (qxsIf (qxPureT (qNot (qTru (qMeth (q_Reading_take N h_is_name O hx) qVar (qCons qVar qNil))))) (qxsRaise (qxPureE (qApp (q_vAdd N) (qCons qVar (qCons qCi qNil))))) qxsNil)) (qxsSeq (qxsIf (qxPureT (qTest (qApp (q_vEq N) (qCons (qApp qFld (qCons qVar qNil)) (qCons qNewD qNil))))) (qxsRaise (qxPureE (qApp (q_vAdd N) (qCons (qApp q_vLen (qCons qVar qNil)) (qCons qCi qNil))))) qxsNil) (qxPureS (qsRet qVar)))))))
noncomputable def bP_TongueD_initD (tp : Tape) (xj : Nat) : DS := (sSeq (sAsg (dApp (mP_read_lines tp xj) (dCons (dPure (dVar 1)) dNil)) (gSet 2)) (sSeq (sPure (sFldSet aC_Tongue ⟨⟨[111, 119, 110, 95, 116, 101, 120, 116]⟩⟩ (dVar 0) (dVar 1))) (sSeq (sPure (sFldSet aC_Tongue ⟨⟨[111, 119, 110, 95, 119, 111, 114, 100, 115]⟩⟩ (dVar 0) (dApp (vFld aC_Reading ⟨⟨[110, 97, 109, 101, 100, 95, 119, 111, 114, 100, 115]⟩⟩) (dCons (dVar 2) dNil)))) (sSeq (sPure (sFldSet aC_Tongue ⟨⟨[111, 119, 110, 95, 110, 97, 109, 101, 115]⟩⟩ (dVar 0) (dApp vTupleG (dCons (dApp vListG (dCons (dApp (vFld aC_Reading ⟨⟨[110, 97, 109, 101, 100, 95, 119, 111, 114, 100, 115]⟩⟩) (dCons (dVar 2) dNil)) dNil)) dNil)))) (sSeq (sPure (sFldSet aC_Tongue ⟨⟨[111, 119, 110, 95, 106, 111, 105, 110, 116, 115]⟩⟩ (dVar 0) (dApp (vFld aC_Reading ⟨⟨[110, 97, 109, 101, 100, 95, 106, 111, 105, 110, 116, 115]⟩⟩) (dCons (dVar 2) dNil)))) (sSeq (sPure (sFldSet aC_Tongue ⟨⟨[111, 119, 110, 95, 109, 101, 116, 114, 101, 115]⟩⟩ (dVar 0) (dApp (vFld aC_Reading ⟨⟨[110, 97, 109, 101, 100, 95, 109, 101, 116, 114, 101, 115]⟩⟩) (dCons (dVar 2) dNil)))) (sSeq (sPure (sAsg (dApp vLst dNil) (gSet 3))) (sSeq (sPure (sFor (dItemsF (dApp (vFld aC_Reading ⟨⟨[110, 97, 109, 101, 100, 95, 119, 111, 114, 100, 115]⟩⟩) (dCons (dVar 2) dNil))) (gTupA 2 (gCons' (gSet 4) (gCons' (gSet 5) gNil'))) (sExpr (dM isLstP vExtend (dVar 3) (dCons (dLc (dEnumG (dApp (vIxG nN) (dCons (dVar 5) (dCons (dC (.int 1)) dNil)))) (gTupA 2 (gCons' (gSet 6) (gCons' (gSet 7) gNil'))) (dTest (dApp (vEqG nN) (dCons (dVar 7) (dCons (dC (.str ⟨⟨[63]⟩⟩)) dNil)))) (dApp vTup (dCons (dVar 4) (dCons (dVar 6) dNil))) [6, 7]) dNil))))) (sPure (sFldSet aC_Tongue ⟨⟨[111, 119, 110, 95, 117, 110, 107, 110, 111, 119, 110]⟩⟩ (dVar 0) (dApp vTupleG (dCons (dVar 3) dNil))))))))))))
noncomputable def mP_TongueD_initD (tp : Tape) (xj : Nat) : VF := fnBody 2 8 (bP_TongueD_initD tp xj)
noncomputable def bL_TongueD_initD (tp : Tape) (xj : Nat) : DS := (sSeqF (sAsgF (dApp (mL_read_lines tp xj) (dConsF (dPure (dVarF 1)) dNil)) (gSet 2)) (sSeqF (sPure (sFldSetF aC_Tongue ⟨⟨[111, 119, 110, 95, 116, 101, 120, 116]⟩⟩ (dVarF 0) (dVarF 1))) (sSeqF (sPure (sFldSetF aC_Tongue ⟨⟨[111, 119, 110, 95, 119, 111, 114, 100, 115]⟩⟩ (dVarF 0) (dApp (vFldF aC_Reading ⟨⟨[110, 97, 109, 101, 100, 95, 119, 111, 114, 100, 115]⟩⟩) (dCons (dVarF 2) dNil)))) (sSeqF (sPure (sFldSetF aC_Tongue ⟨⟨[111, 119, 110, 95, 110, 97, 109, 101, 115]⟩⟩ (dVarF 0) (dApp (fres vTupleG) (dConsF (dApp (fres vListG) (dConsF (dApp (vFldF aC_Reading ⟨⟨[110, 97, 109, 101, 100, 95, 119, 111, 114, 100, 115]⟩⟩) (dCons (dVarF 2) dNil)) dNil)) dNil)))) (sSeqF (sPure (sFldSetF aC_Tongue ⟨⟨[111, 119, 110, 95, 106, 111, 105, 110, 116, 115]⟩⟩ (dVarF 0) (dApp (vFldF aC_Reading ⟨⟨[110, 97, 109, 101, 100, 95, 106, 111, 105, 110, 116, 115]⟩⟩) (dCons (dVarF 2) dNil)))) (sSeqF (sPure (sFldSetF aC_Tongue ⟨⟨[111, 119, 110, 95, 109, 101, 116, 114, 101, 115]⟩⟩ (dVarF 0) (dApp (vFldF aC_Reading ⟨⟨[110, 97, 109, 101, 100, 95, 109, 101, 116, 114, 101, 115]⟩⟩) (dCons (dVarF 2) dNil)))) (sSeqF (sPure (sAsgF (dApp (fres vLst) dNil) (gSet 3))) (sSeqF (sPure (sForF (dItemsF (dApp (vFldF aC_Reading ⟨⟨[110, 97, 109, 101, 100, 95, 119, 111, 114, 100, 115]⟩⟩) (dCons (dVarF 2) dNil))) (gTupA 2 (gCons' (gSet 4) (gCons' (gSet 5) gNil'))) (sExpr (dM isLstP (fmut vExtend) (dVarF 3) (dConsF (dLcF (dEnumG (dApp (fres (vIxG nN)) (dCons (dVarF 5) (dCons (dC (.int 1)) dNil)))) (gTupA 2 (gCons' (gSet 6) (gCons' (gSet 7) gNil'))) (dTest (dApp (vEqG nN) (dCons (dVarF 7) (dCons (dC (.str ⟨⟨[63]⟩⟩)) dNil)))) (dApp vTup (dCons (dVarF 4) (dCons (dVarF 6) dNil))) [6, 7]) dNil))))) (sPure (sFldSetF aC_Tongue ⟨⟨[111, 119, 110, 95, 117, 110, 107, 110, 111, 119, 110]⟩⟩ (dVarF 0) (dApp (fres vTupleG) (dCons (dVarF 3) dNil))))))))))))
noncomputable def mL_TongueD_initD (tp : Tape) (xj : Nat) : VF := fnBodyF 2 8 (bL_TongueD_initD tp xj)
theorem l_TongueD_initD (tp : Tape) (xj : Nat) : (mL_TongueD_initD tp xj) = (mP_TongueD_initD tp xj) := by
  unfold mL_TongueD_initD mP_TongueD_initD bL_TongueD_initD bP_TongueD_initD
  simp only [sSeqF_eq, sForF_eq, sAsgF_eq, sRetF_eq, dLc2F_eq, dLcF_eq, dVarF_eq, fnBodyF_eq, vApartF_eq, sFldSetF_eq, fres_eq, fmut_eq, dres_eq, dConsF_eq, vFldF_eq, dMethF_eq, vMakeF_eq, vNameOkF_eq, vKwF_eq, vAwayF_eq, l_read_lines]
theorem q_TongueD_initD {ν : Nu} (N : Nam ν nN) (h_is_name : ∀ i μ, vApart m_is_name [.str ⟨⟨ν i⟩⟩] μ = .ok (.bl true) μ) {tp : Tape} (O : TapeOk ν tp m__law_take m__law_names) {xj : Nat} (hx : ν xj = [120]) : QXF ν (mP_TongueD_initD tp xj) m_TongueD_initD := show QXF ν (fnBody 2 8 (bP_TongueD_initD tp xj)) (fnBody 2 8 b_TongueD_initD) from qxBody (show QXS ν (bP_TongueD_initD tp xj) b_TongueD_initD from (qxsSeq (qxsSet (qxApp (q_read_lines N h_is_name O hx) (qxCons (qxPureE qVar) qxNil))) (qxsSeq (qxPureS (qsFld qVar qVar)) (qxsSeq (qxPureS (qsFld qVar (qApp qFld (qCons qVar qNil)))) (qxsSeq (qxPureS (qsFld qVar (qApp q_vTuple (qCons (qApp q_vList (qCons (qApp qFld (qCons qVar qNil)) qNil)) qNil)))) (qxsSeq (qxPureS (qsFld qVar (qApp qFld (qCons qVar qNil)))) (qxsSeq (qxPureS (qsFld qVar (qApp qFld (qCons qVar qNil)))) (qxsSeq (qxPureS (qsAsg (qApp q_vLst qNil) qgSet)) (qxsSeq (qxPureS (qsFor (qItems (qApp qFld (qCons qVar qNil))) (qgTup (qgCons qgSet (qgCons qgSet qgNil))) (qsExpr (qM t_lst q_vExtend qVar (qCons (qLc (qEnum (qApp (q_vIx N) (qCons qVar (qCons qCi qNil)))) (qgTup (qgCons qgSet (qgCons qgSet qgNil))) (qTest (qApp (q_vEq N) (qCons qVar (qCons (qCs (by kernel_rfl) (by kernel_rfl)) qNil)))) (qApp q_vTup (qCons qVar (qCons qVar qNil)))) qNil))))) (qxPureS (qsFld qVar (qApp q_vTuple (qCons qVar qNil)))))))))))))
noncomputable def bP_Tongue_text (tp : Tape) (xj : Nat) : DS := (sRet (dApp (vFld aC_Tongue ⟨⟨[111, 119, 110, 95, 116, 101, 120, 116]⟩⟩) (dCons (dVar 0) dNil)))
noncomputable def mP_Tongue_text (tp : Tape) (xj : Nat) : VF := fnBody 1 1 (bP_Tongue_text tp xj)
noncomputable def bL_Tongue_text (tp : Tape) (xj : Nat) : DS := (sRetF (dApp (vFldF aC_Tongue ⟨⟨[111, 119, 110, 95, 116, 101, 120, 116]⟩⟩) (dCons (dVarF 0) dNil)))
noncomputable def mL_Tongue_text (tp : Tape) (xj : Nat) : VF := fnBodyF 1 1 (bL_Tongue_text tp xj)
theorem l_Tongue_text (tp : Tape) (xj : Nat) : (mL_Tongue_text tp xj) = (mP_Tongue_text tp xj) := by
  unfold mL_Tongue_text mP_Tongue_text bL_Tongue_text bP_Tongue_text
  simp only [sSeqF_eq, sForF_eq, sAsgF_eq, sRetF_eq, dLc2F_eq, dLcF_eq, dVarF_eq, fnBodyF_eq, vApartF_eq, sFldSetF_eq, fres_eq, fmut_eq, dres_eq, dConsF_eq, vFldF_eq, dMethF_eq, vMakeF_eq, vNameOkF_eq, vKwF_eq, vAwayF_eq]
theorem q_Tongue_text {ν : Nu} (N : Nam ν nN) (h_is_name : ∀ i μ, vApart m_is_name [.str ⟨⟨ν i⟩⟩] μ = .ok (.bl true) μ) {tp : Tape} (O : TapeOk ν tp m__law_take m__law_names) {xj : Nat} (hx : ν xj = [120]) : QF ν (mP_Tongue_text tp xj) m_Tongue_text := show QF ν (fnBody 1 1 (bP_Tongue_text tp xj)) (fnBody 1 1 b_Tongue_text) from qBody (show QS ν (bP_Tongue_text tp xj) b_Tongue_text from (qsRet (qApp qFld (qCons qVar qNil))))
noncomputable def bP__law_is_let (tp : Tape) (xj : Nat) : DS := (sSeq (sAsg (dTold [aC_BadTongue] (dApp (vMake aC_Tongue (mP_TongueD_initD tp xj)) (dCons (dPure (dM isStrP vJoinL (dC (.str ⟨⟨[10]⟩⟩)) (dCons (dVar 0) dNil))) dNil))) (gTupA 2 (gCons' (gSet 1) (gCons' (gSet 2) gNil')))) (sRet (dAndVG (dApp vIs (dCons (dVar 1) (dCons (dC .non) dNil))) (dApp (vEqG nN) (dCons (dApp (vProp aC_Tongue (mP_Tongue_text tp xj)) (dCons (dVar 2) dNil)) (dCons (dM isStrP vJoinL (dC (.str ⟨⟨[10]⟩⟩)) (dCons (dVar 0) dNil)) dNil))))))
noncomputable def mP__law_is_let (tp : Tape) (xj : Nat) : VF := fnBody 1 3 (bP__law_is_let tp xj)
noncomputable def bL__law_is_let (tp : Tape) (xj : Nat) : DS := (sSeqF (sAsgF (dTold [aC_BadTongue] (dApp (vMakeF aC_Tongue (mL_TongueD_initD tp xj)) (dConsF (dPure (dM isStrP (fres vJoinL) (dC (.str ⟨⟨[10]⟩⟩)) (dCons (dVarF 0) dNil))) dNil))) (gTupA 2 (gCons' (gSet 1) (gCons' (gSet 2) gNil')))) (sRetF (dAndVG (dApp vIs (dCons (dVarF 1) (dCons (dC .non) dNil))) (dApp (vEqG nN) (dConsF (dApp (vProp aC_Tongue (mL_Tongue_text tp xj)) (dCons (dVarF 2) dNil)) (dConsF (dM isStrP (fres vJoinL) (dC (.str ⟨⟨[10]⟩⟩)) (dCons (dVarF 0) dNil)) dNil))))))
noncomputable def mL__law_is_let (tp : Tape) (xj : Nat) : VF := fnBodyF 1 3 (bL__law_is_let tp xj)
theorem l__law_is_let (tp : Tape) (xj : Nat) : (mL__law_is_let tp xj) = (mP__law_is_let tp xj) := by
  unfold mL__law_is_let mP__law_is_let bL__law_is_let bP__law_is_let
  simp only [sSeqF_eq, sForF_eq, sAsgF_eq, sRetF_eq, dLc2F_eq, dLcF_eq, dVarF_eq, fnBodyF_eq, vApartF_eq, sFldSetF_eq, fres_eq, fmut_eq, dres_eq, dConsF_eq, vFldF_eq, dMethF_eq, vMakeF_eq, vNameOkF_eq, vKwF_eq, vAwayF_eq, l_TongueD_initD, l_Tongue_text]
theorem q__law_is_let {ν : Nu} (N : Nam ν nN) (h_is_name : ∀ i μ, vApart m_is_name [.str ⟨⟨ν i⟩⟩] μ = .ok (.bl true) μ) {tp : Tape} (O : TapeOk ν tp m__law_take m__law_names) {xj : Nat} (hx : ν xj = [120]) : QF ν (mP__law_is_let tp xj) m__law_is_let := show QF ν (fnBody 1 3 (bP__law_is_let tp xj)) (fnBody 1 3 b__law_is_let) from qBody (show QS ν (bP__law_is_let tp xj) b__law_is_let from (qsSeq (qsAsg (qTold (qxApp (qxMake (q_TongueD_initD N h_is_name O hx)) (qxCons (qxPureE (qM t_str (q_vJoinL N) (qCs (by kernel_rfl) (by kernel_rfl)) (qCons qVar qNil))) qxNil))) (qgTup (qgCons qgSet (qgCons qgSet qgNil)))) (qsRet (qAndV (qApp q_vIs (qCons qVar (qCons qCn qNil))) (qApp (q_vEq N) (qCons (qApp (qProp (q_Tongue_text N h_is_name O hx)) (qCons qVar qNil)) (qCons (qM t_str (q_vJoinL N) (qCs (by kernel_rfl) (by kernel_rfl)) (qCons qVar qNil)) qNil)))))))
noncomputable def bP__law_is_refused (tp : Tape) (xj : Nat) : DS := (sSeq (sAsg (dApp (vIxG nN) (dCons (dTold [aC_BadTongue] (dApp (vMake aC_Tongue (mP_TongueD_initD tp xj)) (dCons (dPure (dM isStrP vJoinL (dC (.str ⟨⟨[10]⟩⟩)) (dCons (dVar 0) dNil))) dNil))) (dCons (dC (.int 0)) dNil))) (gSet 2)) (sRet (dAndVG (dApp (vIsi (isiE [(aC_BadTongue, true)])) (dCons (dVar 2) dNil)) (dApp (vEqG nN) (dCons (dApp vReprX (dCons (dApp (vXval [aC_BadTongue]) (dCons (dVar 2) dNil)) dNil)) (dCons (dApp vReprX (dCons (dVar 1) dNil)) dNil))))))
noncomputable def mP__law_is_refused (tp : Tape) (xj : Nat) : VF := fnBody 2 3 (bP__law_is_refused tp xj)
noncomputable def bL__law_is_refused (tp : Tape) (xj : Nat) : DS := (sSeqF (sAsgF (dApp (fres (vIxG nN)) (dConsF (dTold [aC_BadTongue] (dApp (vMakeF aC_Tongue (mL_TongueD_initD tp xj)) (dConsF (dPure (dM isStrP (fres vJoinL) (dC (.str ⟨⟨[10]⟩⟩)) (dCons (dVarF 0) dNil))) dNil))) (dCons (dC (.int 0)) dNil))) (gSet 2)) (sRetF (dAndVG (dApp (vIsi (isiE [(aC_BadTongue, true)])) (dCons (dVarF 2) dNil)) (dApp (vEqG nN) (dConsF (dApp (fres vReprX) (dConsF (dApp (vXval [aC_BadTongue]) (dCons (dVarF 2) dNil)) dNil)) (dConsF (dApp (fres vReprX) (dCons (dVarF 1) dNil)) dNil))))))
noncomputable def mL__law_is_refused (tp : Tape) (xj : Nat) : VF := fnBodyF 2 3 (bL__law_is_refused tp xj)
theorem l__law_is_refused (tp : Tape) (xj : Nat) : (mL__law_is_refused tp xj) = (mP__law_is_refused tp xj) := by
  unfold mL__law_is_refused mP__law_is_refused bL__law_is_refused bP__law_is_refused
  simp only [sSeqF_eq, sForF_eq, sAsgF_eq, sRetF_eq, dLc2F_eq, dLcF_eq, dVarF_eq, fnBodyF_eq, vApartF_eq, sFldSetF_eq, fres_eq, fmut_eq, dres_eq, dConsF_eq, vFldF_eq, dMethF_eq, vMakeF_eq, vNameOkF_eq, vKwF_eq, vAwayF_eq, l_TongueD_initD]
theorem q__law_is_refused {ν : Nu} (N : Nam ν nN) (h_is_name : ∀ i μ, vApart m_is_name [.str ⟨⟨ν i⟩⟩] μ = .ok (.bl true) μ) {tp : Tape} (O : TapeOk ν tp m__law_take m__law_names) {xj : Nat} (hx : ν xj = [120]) : QF ν (mP__law_is_refused tp xj) m__law_is_refused := show QF ν (fnBody 2 3 (bP__law_is_refused tp xj)) (fnBody 2 3 b__law_is_refused) from qBody (show QS ν (bP__law_is_refused tp xj) b__law_is_refused from (qsSeq (qsAsg (qApp (q_vIx N) (qCons (qTold (qxApp (qxMake (q_TongueD_initD N h_is_name O hx)) (qxCons (qxPureE (qM t_str (q_vJoinL N) (qCs (by kernel_rfl) (by kernel_rfl)) (qCons qVar qNil))) qxNil))) (qCons qCi qNil))) qgSet) (qsRet (qAndV (qApp q_vIsi (qCons qVar qNil)) (qApp (q_vEq N) (qCons (qApp q_vReprX (qCons (qApp q_vXval (qCons qVar qNil)) qNil)) (qCons (qApp q_vReprX (qCons qVar qNil)) qNil)))))))
noncomputable def bP__law_right (tp : Tape) (xj : Nat) : DS := (sSeq (sAsg (dApp (vOrcN tp) (dCons (dVar 0) (dCons (dC (.int 7)) dNil))) (gSet 1)) (sSeq (sAsg (dApp vAddG (dCons (dLc (dItAG (dCutG (dVar 1) dNoPart (dPart (dC (.int 5))))) (gSet 11) tYes' (dApp vAddG (dCons (dApp vAddG (dCons (dC (.str ⟨⟨[119, 111, 114, 100, 32]⟩⟩)) (dCons (dVar 11) dNil))) (dCons (dC (.str ⟨⟨[32, 97, 32, 45, 117, 45, 117, 32, 98]⟩⟩)) dNil))) [11]) (dCons (dApp vLst (dCons (dApp vAddG (dCons (dApp vAddG (dCons (dC (.str ⟨⟨[119, 111, 114, 100, 32]⟩⟩)) (dCons (dApp (vIxG nN) (dCons (dVar 1) (dCons (dC (.int 5)) dNil))) dNil))) (dCons (dC (.str ⟨⟨[32, 107, 32, 63, 63, 63, 63, 32, 122]⟩⟩)) dNil))) dNil)) dNil))) (gSet 2)) (sSeq (sAsg (dApp vLst dNil) (gSet 3)) (sSeq (sFor (dItAG (dApp vTup (dCons (dC (.str ⟨⟨[97]⟩⟩)) (dCons (dC (.str ⟨⟨[98]⟩⟩)) (dCons (dC (.str ⟨⟨[99]⟩⟩)) dNil))))) (gSet 4) (sExpr (dM isLstP vExtend (dVar 3) (dCons (dLc (dItAG (dApp vTup (dCons (dC (.str ⟨⟨[97]⟩⟩)) (dCons (dC (.str ⟨⟨[98]⟩⟩)) (dCons (dC (.str ⟨⟨[107]⟩⟩)) dNil))))) (gSet 12) tYes' (dApp vAddG (dCons (dApp vAddG (dCons (dApp vAddG (dCons (dApp vAddG (dCons (dC (.str ⟨⟨[106, 111, 105, 110, 116, 32]⟩⟩)) (dCons (dVar 4) dNil))) (dCons (dC (.str ⟨⟨[32]⟩⟩)) dNil))) (dCons (dVar 12) dNil))) (dCons (dC (.str ⟨⟨[32, 109, 97, 121]⟩⟩)) dNil))) [12]) dNil)))) (sSeq (sAsg (dApp vLst (dCons (dC (.str ⟨⟨[109, 101, 116, 114, 101, 32, 97, 32, 57, 42, 45, 117, 32, 57, 42, 120, 32, 54, 42, 117, 117, 47, 45, 45, 47, 120, 120, 120, 120]⟩⟩)) (dCons (dC (.str ⟨⟨[109, 101, 116, 114, 101, 32, 97, 98, 99, 100, 101, 102, 103, 104, 32, 124, 32, 33, 32, 42, 45, 32, 45, 32, 117, 32, 120, 32, 45, 117, 32, 117, 45]⟩⟩)) (dCons (dC (.str ⟨⟨[109, 101, 116, 114, 101, 32, 98, 32, 42, 45]⟩⟩)) dNil)))) (gSet 5)) (sSeq (sIf (dOr (dNot (dTruG (dApp (vAway (mP__law_is_let tp xj)) (dCons (dApp vAddG (dCons (dApp vAddG (dCons (dVar 2) (dCons (dVar 3) dNil))) (dCons (dVar 5) dNil))) dNil)))) (dNot (dTruG (dApp (vAway (mP__law_is_let tp xj)) (dCons (dApp vAddG (dCons (dCutG (dVar 2) dNoPart (dPart (dC (.int 1)))) (dCons (dCutG (dVar 5) dNoPart (dPart (dC (.int 1)))) dNil))) dNil))))) (sRet (dC (.bl false))) sNil) (sSeq (sAsg (dApp vAddG (dCons (dVar 2) (dCons (dVar 3) dNil))) (gSet 6)) (sSeq (sAsg (dApp vLst (dCons (dApp vTup (dCons (dApp vAddG (dCons (dApp vAddG (dCons (dVar 2) (dCons (dApp vLst (dCons (dApp vAddG (dCons (dApp vAddG (dCons (dC (.str ⟨⟨[119, 111, 114, 100, 32]⟩⟩)) (dCons (dApp (vIxG nN) (dCons (dVar 1) (dCons (dC (.int 6)) dNil))) dNil))) (dCons (dC (.str ⟨⟨[32, 97, 32, 45, 32, 98]⟩⟩)) dNil))) dNil)) dNil))) (dCons (dVar 5) dNil))) (dCons (dC (.int 7)) dNil))) (dCons (dApp vTup (dCons (dApp vAddG (dCons (dApp vAddG (dCons (dVar 6) (dCons (dApp vLst (dCons (dC (.str ⟨⟨[106, 111, 105, 110, 116, 32, 122, 32, 122, 32, 109, 97, 121]⟩⟩)) dNil)) dNil))) (dCons (dVar 5) dNil))) (dCons (dC (.int 16)) dNil))) dNil))) (gSet 7)) (sSeq (sExpr (dM isLstP vExtend (dVar 7) (dCons (dApp vLst (dCons (dApp vTup (dCons (dApp vAddG (dCons (dApp vAddG (dCons (dVar 6) (dCons (dVar 5) dNil))) (dCons (dApp vLst (dCons (dC (.str ⟨⟨[109, 101, 116, 114, 101, 32, 99, 32, 45]⟩⟩)) dNil)) dNil))) (dCons (dC (.int 19)) dNil))) (dCons (dApp vTup (dCons (dVar 6) (dCons (dC (.int 16)) dNil))) (dCons (dApp vTup (dCons (dCutG (dVar 2) dNoPart (dPart (dC (.int 5)))) (dCons (dC (.int 6)) dNil))) (dCons (dApp vTup (dCons (dVar 3) (dCons (dC (.int 1)) dNil))) (dCons (dApp vTup (dCons (dVar 5) (dCons (dC (.int 1)) dNil))) dNil)))))) dNil))) (sSeq (sExpr (dM isLstP vExtend (dVar 7) (dCons (dApp vLst (dCons (dApp vTup (dCons (dApp vAddG (dCons (dCutG (dVar 2) (dPart (dC (.int 5))) dNoPart) (dCons (dApp vLst (dCons (dC (.str ⟨⟨[119, 111, 114, 100, 32] ++ (lim + xj) :: [32, 97, 32, 63, 63, 63, 32, 98]⟩⟩)) dNil)) dNil))) (dCons (dC (.int 2)) dNil))) (dCons (dApp vTup (dCons (dApp vLst (dCons (dC (.str ⟨⟨[119, 111, 114, 100, 32] ++ (lim + xj) :: [32, 97, 32, 63, 63, 63, 63, 63, 32, 98]⟩⟩)) dNil)) (dCons (dC (.int 1)) dNil))) dNil))) dNil))) (sSeq (sExpr (dM isLstP vAppend (dVar 7) (dCons (dApp vTup (dCons (dApp vAddG (dCons (dCutG (dVar 2) dNoPart (dPart (dC (.int 1)))) (dCons (dApp vLst (dCons (dC (.str ⟨⟨[109, 101, 116, 114, 101, 32, 97, 32, 57, 42, 45, 117, 32, 57, 42, 120, 32, 55, 42, 117]⟩⟩)) dNil)) dNil))) (dCons (dC (.int 2)) dNil))) dNil))) (sSeq (sExpr (dM isLstP vExtend (dVar 7) (dCons (dApp vLst (dCons (dApp vTup (dCons (dApp vAddG (dCons (dCutG (dVar 2) dNoPart (dPart (dC (.int 1)))) (dCons (dApp vLst (dCons (dC (.str ⟨⟨[109, 101, 116, 114, 101, 32, 97, 32, 45, 32, 117, 32, 45, 32, 117, 32, 45, 32, 117, 32, 45, 32, 117, 32, 120]⟩⟩)) dNil)) dNil))) (dCons (dC (.int 2)) dNil))) (dCons (dApp vTup (dCons (dApp vAddG (dCons (dCutG (dVar 2) dNoPart (dPart (dC (.int 1)))) (dCons (dApp vLst (dCons (dC (.str ⟨⟨[109, 101, 116, 114, 101, 32, 97]⟩⟩)) dNil)) dNil))) (dCons (dC (.int 2)) dNil))) (dCons (dApp vTup (dCons (dApp vMulA (dCons (dCutG (dVar 2) dNoPart (dPart (dC (.int 1)))) (dCons (dC (.int 2)) dNil))) (dCons (dC (.int 2)) dNil))) dNil)))) dNil))) (sSeq (sExpr (dM isLstP vExtend (dVar 7) (dCons (dApp vLst (dCons (dApp vTup (dCons (dApp vAddG (dCons (dCutG (dVar 2) dNoPart (dPart (dC (.int 1)))) (dCons (dApp vMulA (dCons (dApp vLst (dCons (dApp (vIxG nN) (dCons (dVar 3) (dCons (dC (.int 0)) dNil))) dNil)) (dCons (dC (.int 2)) dNil))) dNil))) (dCons (dC (.int 3)) dNil))) (dCons (dApp vTup (dCons (dApp vAddG (dCons (dCutG (dVar 2) dNoPart (dPart (dC (.int 1)))) (dCons (dApp vMulA (dCons (dCutG (dVar 5) dNoPart (dPart (dC (.int 1)))) (dCons (dC (.int 2)) dNil))) dNil))) (dCons (dC (.int 3)) dNil))) dNil))) dNil))) (sSeq (sExpr (dM isLstP vAppend (dVar 7) (dCons (dApp vTup (dCons (dApp vAddG (dCons (dCutG (dVar 2) dNoPart (dPart (dC (.int 1)))) (dCons (dApp vLst (dCons (dC (.str ⟨⟨[109, 101, 116, 114, 101, 32, 97, 98, 99, 100, 101, 102, 103, 104, 105, 32, 45]⟩⟩)) dNil)) dNil))) (dCons (dC (.int 2)) dNil))) dNil))) (sSeq (sFor (dItAG (dApp vTup (dCons (dC (.str ⟨⟨[45, 117, 45, 117, 45]⟩⟩)) (dCons (dC (.str ⟨⟨[45, 47, 45]⟩⟩)) (dCons (dC (.str ⟨⟨[45, 47, 117, 47, 120, 47, 117, 117]⟩⟩)) (dCons (dC (.str ⟨⟨[49, 42, 45]⟩⟩)) (dCons (dC (.str ⟨⟨[48, 42, 45]⟩⟩)) (dCons (dC (.str ⟨⟨[49, 48, 42, 45]⟩⟩)) (dCons (dC (.str ⟨⟨[50, 45]⟩⟩)) (dCons (dC (.str ⟨⟨[42, 42, 45]⟩⟩)) (dCons (dC (.str ⟨⟨[42]⟩⟩)) (dCons (dC (.str ⟨⟨[]⟩⟩)) (dCons (dC (.str ⟨⟨[45, 47]⟩⟩)) (dCons (dC (.str ⟨⟨[47, 117]⟩⟩)) (dCons (dC (.str ⟨⟨[45, 124]⟩⟩)) (dCons (dC (.str ⟨⟨[65]⟩⟩)) (dCons (dC (.str ⟨⟨[45, 63]⟩⟩)) dNil))))))))))))))))) (gSet 8) (sExpr (dM isLstP vAppend (dVar 7) (dCons (dApp vTup (dCons (dApp vAddG (dCons (dCutG (dVar 2) dNoPart (dPart (dC (.int 1)))) (dCons (dApp vLst (dCons (dApp vAddG (dCons (dC (.str ⟨⟨[109, 101, 116, 114, 101, 32, 97, 32]⟩⟩)) (dCons (dVar 8) dNil))) dNil)) dNil))) (dCons (dC (.int 2)) dNil))) dNil)))) (sSeq (sFor (dItAG (dApp vTup (dCons (dC (.str ⟨⟨[119, 111, 114, 100]⟩⟩)) (dCons (dC (.str ⟨⟨[119, 111, 114, 100, 32] ++ (lim + xj) :: [32, 97, 32, 45, 32]⟩⟩)) (dCons (dC (.str ⟨⟨[119, 111, 114, 100, 32] ++ (lim + xj) :: [32, 97, 32, 45, 32, 98, 32, 99]⟩⟩)) (dCons (dC (.str ⟨⟨[119, 111, 114, 100, 32] ++ (lim + xj) :: [32, 97, 98, 32, 45, 32, 98]⟩⟩)) (dCons (dC (.str ⟨⟨[119, 111, 114, 100, 32] ++ (lim + xj) :: [32, 97, 32, 32, 98]⟩⟩)) (dCons (dC (.str ⟨⟨[119, 111, 114, 100, 32, 88, 32, 97, 32, 45, 32, 98]⟩⟩)) dNil)))))))) (gSet 9) (sExpr (dM isLstP vAppend (dVar 7) (dCons (dApp vTup (dCons (dApp vAddG (dCons (dCutG (dVar 2) dNoPart (dPart (dC (.int 1)))) (dCons (dApp vLst (dCons (dVar 9) dNil)) dNil))) (dCons (dC (.int 2)) dNil))) dNil)))) (sSeq (sFor (dItAG (dApp vTup (dCons (dC (.str ⟨⟨[106, 111, 105, 110, 116, 32, 97, 32, 98]⟩⟩)) (dCons (dC (.str ⟨⟨[106, 111, 105, 110, 116, 32, 97, 32, 98, 32, 77, 97, 121]⟩⟩)) (dCons (dC (.str ⟨⟨[106, 111, 105, 110, 116, 32, 97, 98, 32, 98, 32, 109, 97, 121]⟩⟩)) (dCons (dC (.str ⟨⟨[106, 111, 105, 110, 116, 32, 97, 32, 98, 32, 109, 97, 121, 32, 120]⟩⟩)) (dCons (dC (.str ⟨⟨[106, 111, 105, 110, 116, 32, 97, 32, 49, 32, 109, 97, 121]⟩⟩)) (dCons (dC (.str ⟨⟨[32, 106, 111, 105, 110, 116, 32, 97, 32, 98, 32, 109, 97, 121]⟩⟩)) dNil)))))))) (gSet 10) (sExpr (dM isLstP vAppend (dVar 7) (dCons (dApp vTup (dCons (dApp vAddG (dCons (dCutG (dVar 2) dNoPart (dPart (dC (.int 1)))) (dCons (dApp vLst (dCons (dVar 10) dNil)) dNil))) (dCons (dC (.int 2)) dNil))) dNil)))) (sSeq (sExpr (dM isLstP vExtend (dVar 7) (dCons (dApp vLst (dCons (dApp vTup (dCons (dApp vAddG (dCons (dApp vAddG (dCons (dCutG (dVar 2) dNoPart (dPart (dC (.int 1)))) (dCons (dCutG (dVar 5) dNoPart (dPart (dC (.int 1)))) dNil))) (dCons (dCutG (dVar 3) dNoPart (dPart (dC (.int 1)))) dNil))) (dCons (dC (.int 3)) dNil))) (dCons (dApp vTup (dCons (dApp vAddG (dCons (dApp vAddG (dCons (dCutG (dVar 2) dNoPart (dPart (dC (.int 1)))) (dCons (dCutG (dVar 3) dNoPart (dPart (dC (.int 1)))) dNil))) (dCons (dCutG (dVar 2) (dPart (dC (.int 1))) (dPart (dC (.int 2)))) dNil))) (dCons (dC (.int 3)) dNil))) dNil))) dNil))) (sRet (dApp vAll (dCons (dLc (dItAG (dVar 7)) (gTupA 2 (gCons' (gSet 13) (gCons' (gSet 14) gNil'))) tYes' (dApp (vAway (mP__law_is_refused tp xj)) (dCons (dVar 13) (dCons (dVar 14) dNil))) [13, 14]) dNil)))))))))))))))))))))
noncomputable def mP__law_right (tp : Tape) (xj : Nat) : VF := fnBody 1 15 (bP__law_right tp xj)
noncomputable def bL__law_right (tp : Tape) (xj : Nat) : DS := (sSeqF (sAsgF (dApp (vOrcN tp) (dCons (dVarF 0) (dCons (dC (.int 7)) dNil))) (gSet 1)) (sSeqF (sAsgF (dApp (fres vAddG) (dConsF (dLcF (dItAG (dres (dCutG (dVarF 1) dNoPart (dPart (dC (.int 5)))))) (gSet 11) tYes' (dApp (fres vAddG) (dConsF (dApp (fres vAddG) (dCons (dC (.str ⟨⟨[119, 111, 114, 100, 32]⟩⟩)) (dCons (dVarF 11) dNil))) (dCons (dC (.str ⟨⟨[32, 97, 32, 45, 117, 45, 117, 32, 98]⟩⟩)) dNil))) [11]) (dConsF (dApp (fres vLst) (dConsF (dApp (fres vAddG) (dConsF (dApp (fres vAddG) (dCons (dC (.str ⟨⟨[119, 111, 114, 100, 32]⟩⟩)) (dConsF (dApp (fres (vIxG nN)) (dCons (dVarF 1) (dCons (dC (.int 5)) dNil))) dNil))) (dCons (dC (.str ⟨⟨[32, 107, 32, 63, 63, 63, 63, 32, 122]⟩⟩)) dNil))) dNil)) dNil))) (gSet 2)) (sSeqF (sAsgF (dApp (fres vLst) dNil) (gSet 3)) (sSeqF (sForF (dItAG (dApp vTup (dCons (dC (.str ⟨⟨[97]⟩⟩)) (dCons (dC (.str ⟨⟨[98]⟩⟩)) (dCons (dC (.str ⟨⟨[99]⟩⟩)) dNil))))) (gSet 4) (sExpr (dM isLstP (fmut vExtend) (dVarF 3) (dConsF (dLcF (dItAG (dApp vTup (dCons (dC (.str ⟨⟨[97]⟩⟩)) (dCons (dC (.str ⟨⟨[98]⟩⟩)) (dCons (dC (.str ⟨⟨[107]⟩⟩)) dNil))))) (gSet 12) tYes' (dApp (fres vAddG) (dConsF (dApp (fres vAddG) (dConsF (dApp (fres vAddG) (dConsF (dApp (fres vAddG) (dCons (dC (.str ⟨⟨[106, 111, 105, 110, 116, 32]⟩⟩)) (dCons (dVarF 4) dNil))) (dCons (dC (.str ⟨⟨[32]⟩⟩)) dNil))) (dCons (dVarF 12) dNil))) (dCons (dC (.str ⟨⟨[32, 109, 97, 121]⟩⟩)) dNil))) [12]) dNil)))) (sSeqF (sAsgF (dApp (fres vLst) (dCons (dC (.str ⟨⟨[109, 101, 116, 114, 101, 32, 97, 32, 57, 42, 45, 117, 32, 57, 42, 120, 32, 54, 42, 117, 117, 47, 45, 45, 47, 120, 120, 120, 120]⟩⟩)) (dCons (dC (.str ⟨⟨[109, 101, 116, 114, 101, 32, 97, 98, 99, 100, 101, 102, 103, 104, 32, 124, 32, 33, 32, 42, 45, 32, 45, 32, 117, 32, 120, 32, 45, 117, 32, 117, 45]⟩⟩)) (dCons (dC (.str ⟨⟨[109, 101, 116, 114, 101, 32, 98, 32, 42, 45]⟩⟩)) dNil)))) (gSet 5)) (sSeqF (sIf (dOr (dNot (dTruG (dApp (vAwayF (mL__law_is_let tp xj)) (dConsF (dApp (fres vAddG) (dConsF (dApp (fres vAddG) (dCons (dVarF 2) (dCons (dVarF 3) dNil))) (dCons (dVarF 5) dNil))) dNil)))) (dNot (dTruG (dApp (vAwayF (mL__law_is_let tp xj)) (dConsF (dApp (fres vAddG) (dConsF (dres (dCutG (dVarF 2) dNoPart (dPart (dC (.int 1))))) (dConsF (dres (dCutG (dVarF 5) dNoPart (dPart (dC (.int 1))))) dNil))) dNil))))) (sRetF (dC (.bl false))) sNil) (sSeqF (sAsgF (dApp (fres vAddG) (dCons (dVarF 2) (dCons (dVarF 3) dNil))) (gSet 6)) (sSeqF (sAsgF (dApp (fres vLst) (dConsF (dApp vTup (dConsF (dApp (fres vAddG) (dConsF (dApp (fres vAddG) (dCons (dVarF 2) (dConsF (dApp (fres vLst) (dConsF (dApp (fres vAddG) (dConsF (dApp (fres vAddG) (dCons (dC (.str ⟨⟨[119, 111, 114, 100, 32]⟩⟩)) (dConsF (dApp (fres (vIxG nN)) (dCons (dVarF 1) (dCons (dC (.int 6)) dNil))) dNil))) (dCons (dC (.str ⟨⟨[32, 97, 32, 45, 32, 98]⟩⟩)) dNil))) dNil)) dNil))) (dCons (dVarF 5) dNil))) (dCons (dC (.int 7)) dNil))) (dConsF (dApp vTup (dConsF (dApp (fres vAddG) (dConsF (dApp (fres vAddG) (dCons (dVarF 6) (dConsF (dApp (fres vLst) (dCons (dC (.str ⟨⟨[106, 111, 105, 110, 116, 32, 122, 32, 122, 32, 109, 97, 121]⟩⟩)) dNil)) dNil))) (dCons (dVarF 5) dNil))) (dCons (dC (.int 16)) dNil))) dNil))) (gSet 7)) (sSeqF (sExpr (dM isLstP (fmut vExtend) (dVarF 7) (dConsF (dApp (fres vLst) (dConsF (dApp vTup (dConsF (dApp (fres vAddG) (dConsF (dApp (fres vAddG) (dCons (dVarF 6) (dCons (dVarF 5) dNil))) (dConsF (dApp (fres vLst) (dCons (dC (.str ⟨⟨[109, 101, 116, 114, 101, 32, 99, 32, 45]⟩⟩)) dNil)) dNil))) (dCons (dC (.int 19)) dNil))) (dConsF (dApp vTup (dCons (dVarF 6) (dCons (dC (.int 16)) dNil))) (dConsF (dApp vTup (dConsF (dres (dCutG (dVarF 2) dNoPart (dPart (dC (.int 5))))) (dCons (dC (.int 6)) dNil))) (dConsF (dApp vTup (dCons (dVarF 3) (dCons (dC (.int 1)) dNil))) (dConsF (dApp vTup (dCons (dVarF 5) (dCons (dC (.int 1)) dNil))) dNil)))))) dNil))) (sSeqF (sExpr (dM isLstP (fmut vExtend) (dVarF 7) (dConsF (dApp (fres vLst) (dConsF (dApp vTup (dConsF (dApp (fres vAddG) (dConsF (dres (dCutG (dVarF 2) (dPart (dC (.int 5))) dNoPart)) (dConsF (dApp (fres vLst) (dCons (dC (.str ⟨⟨[119, 111, 114, 100, 32] ++ (lim + xj) :: [32, 97, 32, 63, 63, 63, 32, 98]⟩⟩)) dNil)) dNil))) (dCons (dC (.int 2)) dNil))) (dConsF (dApp vTup (dConsF (dApp (fres vLst) (dCons (dC (.str ⟨⟨[119, 111, 114, 100, 32] ++ (lim + xj) :: [32, 97, 32, 63, 63, 63, 63, 63, 32, 98]⟩⟩)) dNil)) (dCons (dC (.int 1)) dNil))) dNil))) dNil))) (sSeqF (sExpr (dM isLstP (fmut vAppend) (dVarF 7) (dConsF (dApp vTup (dConsF (dApp (fres vAddG) (dConsF (dres (dCutG (dVarF 2) dNoPart (dPart (dC (.int 1))))) (dConsF (dApp (fres vLst) (dCons (dC (.str ⟨⟨[109, 101, 116, 114, 101, 32, 97, 32, 57, 42, 45, 117, 32, 57, 42, 120, 32, 55, 42, 117]⟩⟩)) dNil)) dNil))) (dCons (dC (.int 2)) dNil))) dNil))) (sSeqF (sExpr (dM isLstP (fmut vExtend) (dVarF 7) (dConsF (dApp (fres vLst) (dConsF (dApp vTup (dConsF (dApp (fres vAddG) (dConsF (dres (dCutG (dVarF 2) dNoPart (dPart (dC (.int 1))))) (dConsF (dApp (fres vLst) (dCons (dC (.str ⟨⟨[109, 101, 116, 114, 101, 32, 97, 32, 45, 32, 117, 32, 45, 32, 117, 32, 45, 32, 117, 32, 45, 32, 117, 32, 120]⟩⟩)) dNil)) dNil))) (dCons (dC (.int 2)) dNil))) (dConsF (dApp vTup (dConsF (dApp (fres vAddG) (dConsF (dres (dCutG (dVarF 2) dNoPart (dPart (dC (.int 1))))) (dConsF (dApp (fres vLst) (dCons (dC (.str ⟨⟨[109, 101, 116, 114, 101, 32, 97]⟩⟩)) dNil)) dNil))) (dCons (dC (.int 2)) dNil))) (dConsF (dApp vTup (dConsF (dApp (fres vMulA) (dConsF (dres (dCutG (dVarF 2) dNoPart (dPart (dC (.int 1))))) (dCons (dC (.int 2)) dNil))) (dCons (dC (.int 2)) dNil))) dNil)))) dNil))) (sSeqF (sExpr (dM isLstP (fmut vExtend) (dVarF 7) (dConsF (dApp (fres vLst) (dConsF (dApp vTup (dConsF (dApp (fres vAddG) (dConsF (dres (dCutG (dVarF 2) dNoPart (dPart (dC (.int 1))))) (dConsF (dApp (fres vMulA) (dConsF (dApp (fres vLst) (dConsF (dApp (fres (vIxG nN)) (dCons (dVarF 3) (dCons (dC (.int 0)) dNil))) dNil)) (dCons (dC (.int 2)) dNil))) dNil))) (dCons (dC (.int 3)) dNil))) (dConsF (dApp vTup (dConsF (dApp (fres vAddG) (dConsF (dres (dCutG (dVarF 2) dNoPart (dPart (dC (.int 1))))) (dConsF (dApp (fres vMulA) (dConsF (dres (dCutG (dVarF 5) dNoPart (dPart (dC (.int 1))))) (dCons (dC (.int 2)) dNil))) dNil))) (dCons (dC (.int 3)) dNil))) dNil))) dNil))) (sSeqF (sExpr (dM isLstP (fmut vAppend) (dVarF 7) (dConsF (dApp vTup (dConsF (dApp (fres vAddG) (dConsF (dres (dCutG (dVarF 2) dNoPart (dPart (dC (.int 1))))) (dConsF (dApp (fres vLst) (dCons (dC (.str ⟨⟨[109, 101, 116, 114, 101, 32, 97, 98, 99, 100, 101, 102, 103, 104, 105, 32, 45]⟩⟩)) dNil)) dNil))) (dCons (dC (.int 2)) dNil))) dNil))) (sSeqF (sForF (dItAG (dApp vTup (dCons (dC (.str ⟨⟨[45, 117, 45, 117, 45]⟩⟩)) (dCons (dC (.str ⟨⟨[45, 47, 45]⟩⟩)) (dCons (dC (.str ⟨⟨[45, 47, 117, 47, 120, 47, 117, 117]⟩⟩)) (dCons (dC (.str ⟨⟨[49, 42, 45]⟩⟩)) (dCons (dC (.str ⟨⟨[48, 42, 45]⟩⟩)) (dCons (dC (.str ⟨⟨[49, 48, 42, 45]⟩⟩)) (dCons (dC (.str ⟨⟨[50, 45]⟩⟩)) (dCons (dC (.str ⟨⟨[42, 42, 45]⟩⟩)) (dCons (dC (.str ⟨⟨[42]⟩⟩)) (dCons (dC (.str ⟨⟨[]⟩⟩)) (dCons (dC (.str ⟨⟨[45, 47]⟩⟩)) (dCons (dC (.str ⟨⟨[47, 117]⟩⟩)) (dCons (dC (.str ⟨⟨[45, 124]⟩⟩)) (dCons (dC (.str ⟨⟨[65]⟩⟩)) (dCons (dC (.str ⟨⟨[45, 63]⟩⟩)) dNil))))))))))))))))) (gSet 8) (sExpr (dM isLstP (fmut vAppend) (dVarF 7) (dConsF (dApp vTup (dConsF (dApp (fres vAddG) (dConsF (dres (dCutG (dVarF 2) dNoPart (dPart (dC (.int 1))))) (dConsF (dApp (fres vLst) (dConsF (dApp (fres vAddG) (dCons (dC (.str ⟨⟨[109, 101, 116, 114, 101, 32, 97, 32]⟩⟩)) (dCons (dVarF 8) dNil))) dNil)) dNil))) (dCons (dC (.int 2)) dNil))) dNil)))) (sSeqF (sForF (dItAG (dApp vTup (dCons (dC (.str ⟨⟨[119, 111, 114, 100]⟩⟩)) (dCons (dC (.str ⟨⟨[119, 111, 114, 100, 32] ++ (lim + xj) :: [32, 97, 32, 45, 32]⟩⟩)) (dCons (dC (.str ⟨⟨[119, 111, 114, 100, 32] ++ (lim + xj) :: [32, 97, 32, 45, 32, 98, 32, 99]⟩⟩)) (dCons (dC (.str ⟨⟨[119, 111, 114, 100, 32] ++ (lim + xj) :: [32, 97, 98, 32, 45, 32, 98]⟩⟩)) (dCons (dC (.str ⟨⟨[119, 111, 114, 100, 32] ++ (lim + xj) :: [32, 97, 32, 32, 98]⟩⟩)) (dCons (dC (.str ⟨⟨[119, 111, 114, 100, 32, 88, 32, 97, 32, 45, 32, 98]⟩⟩)) dNil)))))))) (gSet 9) (sExpr (dM isLstP (fmut vAppend) (dVarF 7) (dConsF (dApp vTup (dConsF (dApp (fres vAddG) (dConsF (dres (dCutG (dVarF 2) dNoPart (dPart (dC (.int 1))))) (dConsF (dApp (fres vLst) (dCons (dVarF 9) dNil)) dNil))) (dCons (dC (.int 2)) dNil))) dNil)))) (sSeqF (sForF (dItAG (dApp vTup (dCons (dC (.str ⟨⟨[106, 111, 105, 110, 116, 32, 97, 32, 98]⟩⟩)) (dCons (dC (.str ⟨⟨[106, 111, 105, 110, 116, 32, 97, 32, 98, 32, 77, 97, 121]⟩⟩)) (dCons (dC (.str ⟨⟨[106, 111, 105, 110, 116, 32, 97, 98, 32, 98, 32, 109, 97, 121]⟩⟩)) (dCons (dC (.str ⟨⟨[106, 111, 105, 110, 116, 32, 97, 32, 98, 32, 109, 97, 121, 32, 120]⟩⟩)) (dCons (dC (.str ⟨⟨[106, 111, 105, 110, 116, 32, 97, 32, 49, 32, 109, 97, 121]⟩⟩)) (dCons (dC (.str ⟨⟨[32, 106, 111, 105, 110, 116, 32, 97, 32, 98, 32, 109, 97, 121]⟩⟩)) dNil)))))))) (gSet 10) (sExpr (dM isLstP (fmut vAppend) (dVarF 7) (dConsF (dApp vTup (dConsF (dApp (fres vAddG) (dConsF (dres (dCutG (dVarF 2) dNoPart (dPart (dC (.int 1))))) (dConsF (dApp (fres vLst) (dCons (dVarF 10) dNil)) dNil))) (dCons (dC (.int 2)) dNil))) dNil)))) (sSeqF (sExpr (dM isLstP (fmut vExtend) (dVarF 7) (dConsF (dApp (fres vLst) (dConsF (dApp vTup (dConsF (dApp (fres vAddG) (dConsF (dApp (fres vAddG) (dConsF (dres (dCutG (dVarF 2) dNoPart (dPart (dC (.int 1))))) (dConsF (dres (dCutG (dVarF 5) dNoPart (dPart (dC (.int 1))))) dNil))) (dConsF (dres (dCutG (dVarF 3) dNoPart (dPart (dC (.int 1))))) dNil))) (dCons (dC (.int 3)) dNil))) (dConsF (dApp vTup (dConsF (dApp (fres vAddG) (dConsF (dApp (fres vAddG) (dConsF (dres (dCutG (dVarF 2) dNoPart (dPart (dC (.int 1))))) (dConsF (dres (dCutG (dVarF 3) dNoPart (dPart (dC (.int 1))))) dNil))) (dConsF (dres (dCutG (dVarF 2) (dPart (dC (.int 1))) (dPart (dC (.int 2))))) dNil))) (dCons (dC (.int 3)) dNil))) dNil))) dNil))) (sRetF (dApp vAll (dConsF (dLcF (dItAG (dVarF 7)) (gTupA 2 (gCons' (gSet 13) (gCons' (gSet 14) gNil'))) tYes' (dApp (vAwayF (mL__law_is_refused tp xj)) (dCons (dVarF 13) (dCons (dVarF 14) dNil))) [13, 14]) dNil)))))))))))))))))))))
noncomputable def mL__law_right (tp : Tape) (xj : Nat) : VF := fnBodyF 1 15 (bL__law_right tp xj)
theorem l__law_right (tp : Tape) (xj : Nat) : (mL__law_right tp xj) = (mP__law_right tp xj) := by
  unfold mL__law_right mP__law_right bL__law_right bP__law_right
  simp only [sSeqF_eq, sForF_eq, sAsgF_eq, sRetF_eq, dLc2F_eq, dLcF_eq, dVarF_eq, fnBodyF_eq, vApartF_eq, sFldSetF_eq, fres_eq, fmut_eq, dres_eq, dConsF_eq, vFldF_eq, dMethF_eq, vMakeF_eq, vNameOkF_eq, vKwF_eq, vAwayF_eq, l__law_is_let, l__law_is_refused]
theorem q__law_right {ν : Nu} (N : Nam ν nN) (h_is_name : ∀ i μ, vApart m_is_name [.str ⟨⟨ν i⟩⟩] μ = .ok (.bl true) μ) {tp : Tape} (O : TapeOk ν tp m__law_take m__law_names) {xj : Nat} (hx : ν xj = [120]) : QF ν (mP__law_right tp xj) m__law_right := show QF ν (fnBody 1 15 (bP__law_right tp xj)) (fnBody 1 15 b__law_right) from qBody (show QS ν (bP__law_right tp xj) b__law_right from (qsSeq (qsAsg (qApp (q_orcN O) (qCons qVar (qCons qCi qNil))) qgSet) (qsSeq (qsAsg (qApp (q_vAdd N) (qCons (qLc (qItA (qCut qVar qNoPart (qPart qCi))) qgSet qYes (qApp (q_vAdd N) (qCons (qApp (q_vAdd N) (qCons (qCs (by kernel_rfl) (by kernel_rfl)) (qCons qVar qNil))) (qCons (qCs (by kernel_rfl) (by kernel_rfl)) qNil)))) (qCons (qApp q_vLst (qCons (qApp (q_vAdd N) (qCons (qApp (q_vAdd N) (qCons (qCs (by kernel_rfl) (by kernel_rfl)) (qCons (qApp (q_vIx N) (qCons qVar (qCons qCi qNil))) qNil))) (qCons (qCs (by kernel_rfl) (by kernel_rfl)) qNil))) qNil)) qNil))) qgSet) (qsSeq (qsAsg (qApp q_vLst qNil) qgSet) (qsSeq (qsFor (qItA (qApp q_vTup (qCons (qCs (by kernel_rfl) (by kernel_rfl)) (qCons (qCs (by kernel_rfl) (by kernel_rfl)) (qCons (qCs (by kernel_rfl) (by kernel_rfl)) qNil))))) qgSet (qsExpr (qM t_lst q_vExtend qVar (qCons (qLc (qItA (qApp q_vTup (qCons (qCs (by kernel_rfl) (by kernel_rfl)) (qCons (qCs (by kernel_rfl) (by kernel_rfl)) (qCons (qCs (by kernel_rfl) (by kernel_rfl)) qNil))))) qgSet qYes (qApp (q_vAdd N) (qCons (qApp (q_vAdd N) (qCons (qApp (q_vAdd N) (qCons (qApp (q_vAdd N) (qCons (qCs (by kernel_rfl) (by kernel_rfl)) (qCons qVar qNil))) (qCons (qCs (by kernel_rfl) (by kernel_rfl)) qNil))) (qCons qVar qNil))) (qCons (qCs (by kernel_rfl) (by kernel_rfl)) qNil)))) qNil)))) (qsSeq (qsAsg (qApp q_vLst (qCons (qCs (by kernel_rfl) (by kernel_rfl)) (qCons (qCs (by kernel_rfl) (by kernel_rfl)) (qCons (qCs (by kernel_rfl) (by kernel_rfl)) qNil)))) qgSet) (qsSeq (qsIf (qOr (qNot (qTru (qApp (qAway (q__law_is_let N h_is_name O hx)) (qCons (qApp (q_vAdd N) (qCons (qApp (q_vAdd N) (qCons qVar (qCons qVar qNil))) (qCons qVar qNil))) qNil)))) (qNot (qTru (qApp (qAway (q__law_is_let N h_is_name O hx)) (qCons (qApp (q_vAdd N) (qCons (qCut qVar qNoPart (qPart qCi)) (qCons (qCut qVar qNoPart (qPart qCi)) qNil))) qNil))))) (qsRet qCb) qsNil) (qsSeq (qsAsg (qApp (q_vAdd N) (qCons qVar (qCons qVar qNil))) qgSet) (qsSeq (qsAsg (qApp q_vLst (qCons (qApp q_vTup (qCons (qApp (q_vAdd N) (qCons (qApp (q_vAdd N) (qCons qVar (qCons (qApp q_vLst (qCons (qApp (q_vAdd N) (qCons (qApp (q_vAdd N) (qCons (qCs (by kernel_rfl) (by kernel_rfl)) (qCons (qApp (q_vIx N) (qCons qVar (qCons qCi qNil))) qNil))) (qCons (qCs (by kernel_rfl) (by kernel_rfl)) qNil))) qNil)) qNil))) (qCons qVar qNil))) (qCons qCi qNil))) (qCons (qApp q_vTup (qCons (qApp (q_vAdd N) (qCons (qApp (q_vAdd N) (qCons qVar (qCons (qApp q_vLst (qCons (qCs (by kernel_rfl) (by kernel_rfl)) qNil)) qNil))) (qCons qVar qNil))) (qCons qCi qNil))) qNil))) qgSet) (qsSeq (qsExpr (qM t_lst q_vExtend qVar (qCons (qApp q_vLst (qCons (qApp q_vTup (qCons (qApp (q_vAdd N) (qCons (qApp (q_vAdd N) (qCons qVar (qCons qVar qNil))) (qCons (qApp q_vLst (qCons (qCs (by kernel_rfl) (by kernel_rfl)) qNil)) qNil))) (qCons qCi qNil))) (qCons (qApp q_vTup (qCons qVar (qCons qCi qNil))) (qCons (qApp q_vTup (qCons (qCut qVar qNoPart (qPart qCi)) (qCons qCi qNil))) (qCons (qApp q_vTup (qCons qVar (qCons qCi qNil))) (qCons (qApp q_vTup (qCons qVar (qCons qCi qNil))) qNil)))))) qNil))) (qsSeq (qsExpr (qM t_lst q_vExtend qVar (qCons (qApp q_vLst (qCons (qApp q_vTup (qCons (qApp (q_vAdd N) (qCons (qCut qVar (qPart qCi) qNoPart) (qCons (qApp q_vLst (qCons (qCx hx (a := [119, 111, 114, 100, 32]) (b := [32, 97, 32, 63, 63, 63, 32, 98]) (by kernel_rfl) (by kernel_rfl) (by kernel_rfl)) qNil)) qNil))) (qCons qCi qNil))) (qCons (qApp q_vTup (qCons (qApp q_vLst (qCons (qCx hx (a := [119, 111, 114, 100, 32]) (b := [32, 97, 32, 63, 63, 63, 63, 63, 32, 98]) (by kernel_rfl) (by kernel_rfl) (by kernel_rfl)) qNil)) (qCons qCi qNil))) qNil))) qNil))) (qsSeq (qsExpr (qM t_lst q_vAppend qVar (qCons (qApp q_vTup (qCons (qApp (q_vAdd N) (qCons (qCut qVar qNoPart (qPart qCi)) (qCons (qApp q_vLst (qCons (qCs (by kernel_rfl) (by kernel_rfl)) qNil)) qNil))) (qCons qCi qNil))) qNil))) (qsSeq (qsExpr (qM t_lst q_vExtend qVar (qCons (qApp q_vLst (qCons (qApp q_vTup (qCons (qApp (q_vAdd N) (qCons (qCut qVar qNoPart (qPart qCi)) (qCons (qApp q_vLst (qCons (qCs (by kernel_rfl) (by kernel_rfl)) qNil)) qNil))) (qCons qCi qNil))) (qCons (qApp q_vTup (qCons (qApp (q_vAdd N) (qCons (qCut qVar qNoPart (qPart qCi)) (qCons (qApp q_vLst (qCons (qCs (by kernel_rfl) (by kernel_rfl)) qNil)) qNil))) (qCons qCi qNil))) (qCons (qApp q_vTup (qCons (qApp q_vMulA (qCons (qCut qVar qNoPart (qPart qCi)) (qCons qCi qNil))) (qCons qCi qNil))) qNil)))) qNil))) (qsSeq (qsExpr (qM t_lst q_vExtend qVar (qCons (qApp q_vLst (qCons (qApp q_vTup (qCons (qApp (q_vAdd N) (qCons (qCut qVar qNoPart (qPart qCi)) (qCons (qApp q_vMulA (qCons (qApp q_vLst (qCons (qApp (q_vIx N) (qCons qVar (qCons qCi qNil))) qNil)) (qCons qCi qNil))) qNil))) (qCons qCi qNil))) (qCons (qApp q_vTup (qCons (qApp (q_vAdd N) (qCons (qCut qVar qNoPart (qPart qCi)) (qCons (qApp q_vMulA (qCons (qCut qVar qNoPart (qPart qCi)) (qCons qCi qNil))) qNil))) (qCons qCi qNil))) qNil))) qNil))) (qsSeq (qsExpr (qM t_lst q_vAppend qVar (qCons (qApp q_vTup (qCons (qApp (q_vAdd N) (qCons (qCut qVar qNoPart (qPart qCi)) (qCons (qApp q_vLst (qCons (qCs (by kernel_rfl) (by kernel_rfl)) qNil)) qNil))) (qCons qCi qNil))) qNil))) (qsSeq (qsFor (qItA (qApp q_vTup (qCons (qCs (by kernel_rfl) (by kernel_rfl)) (qCons (qCs (by kernel_rfl) (by kernel_rfl)) (qCons (qCs (by kernel_rfl) (by kernel_rfl)) (qCons (qCs (by kernel_rfl) (by kernel_rfl)) (qCons (qCs (by kernel_rfl) (by kernel_rfl)) (qCons (qCs (by kernel_rfl) (by kernel_rfl)) (qCons (qCs (by kernel_rfl) (by kernel_rfl)) (qCons (qCs (by kernel_rfl) (by kernel_rfl)) (qCons (qCs (by kernel_rfl) (by kernel_rfl)) (qCons (qCs (by kernel_rfl) (by kernel_rfl)) (qCons (qCs (by kernel_rfl) (by kernel_rfl)) (qCons (qCs (by kernel_rfl) (by kernel_rfl)) (qCons (qCs (by kernel_rfl) (by kernel_rfl)) (qCons (qCs (by kernel_rfl) (by kernel_rfl)) (qCons (qCs (by kernel_rfl) (by kernel_rfl)) qNil))))))))))))))))) qgSet (qsExpr (qM t_lst q_vAppend qVar (qCons (qApp q_vTup (qCons (qApp (q_vAdd N) (qCons (qCut qVar qNoPart (qPart qCi)) (qCons (qApp q_vLst (qCons (qApp (q_vAdd N) (qCons (qCs (by kernel_rfl) (by kernel_rfl)) (qCons qVar qNil))) qNil)) qNil))) (qCons qCi qNil))) qNil)))) (qsSeq (qsFor (qItA (qApp q_vTup (qCons (qCs (by kernel_rfl) (by kernel_rfl)) (qCons (qCx hx (a := [119, 111, 114, 100, 32]) (b := [32, 97, 32, 45, 32]) (by kernel_rfl) (by kernel_rfl) (by kernel_rfl)) (qCons (qCx hx (a := [119, 111, 114, 100, 32]) (b := [32, 97, 32, 45, 32, 98, 32, 99]) (by kernel_rfl) (by kernel_rfl) (by kernel_rfl)) (qCons (qCx hx (a := [119, 111, 114, 100, 32]) (b := [32, 97, 98, 32, 45, 32, 98]) (by kernel_rfl) (by kernel_rfl) (by kernel_rfl)) (qCons (qCx hx (a := [119, 111, 114, 100, 32]) (b := [32, 97, 32, 32, 98]) (by kernel_rfl) (by kernel_rfl) (by kernel_rfl)) (qCons (qCs (by kernel_rfl) (by kernel_rfl)) qNil)))))))) qgSet (qsExpr (qM t_lst q_vAppend qVar (qCons (qApp q_vTup (qCons (qApp (q_vAdd N) (qCons (qCut qVar qNoPart (qPart qCi)) (qCons (qApp q_vLst (qCons qVar qNil)) qNil))) (qCons qCi qNil))) qNil)))) (qsSeq (qsFor (qItA (qApp q_vTup (qCons (qCs (by kernel_rfl) (by kernel_rfl)) (qCons (qCs (by kernel_rfl) (by kernel_rfl)) (qCons (qCs (by kernel_rfl) (by kernel_rfl)) (qCons (qCs (by kernel_rfl) (by kernel_rfl)) (qCons (qCs (by kernel_rfl) (by kernel_rfl)) (qCons (qCs (by kernel_rfl) (by kernel_rfl)) qNil)))))))) qgSet (qsExpr (qM t_lst q_vAppend qVar (qCons (qApp q_vTup (qCons (qApp (q_vAdd N) (qCons (qCut qVar qNoPart (qPart qCi)) (qCons (qApp q_vLst (qCons qVar qNil)) qNil))) (qCons qCi qNil))) qNil)))) (qsSeq (qsExpr (qM t_lst q_vExtend qVar (qCons (qApp q_vLst (qCons (qApp q_vTup (qCons (qApp (q_vAdd N) (qCons (qApp (q_vAdd N) (qCons (qCut qVar qNoPart (qPart qCi)) (qCons (qCut qVar qNoPart (qPart qCi)) qNil))) (qCons (qCut qVar qNoPart (qPart qCi)) qNil))) (qCons qCi qNil))) (qCons (qApp q_vTup (qCons (qApp (q_vAdd N) (qCons (qApp (q_vAdd N) (qCons (qCut qVar qNoPart (qPart qCi)) (qCons (qCut qVar qNoPart (qPart qCi)) qNil))) (qCons (qCut qVar (qPart qCi) (qPart qCi)) qNil))) (qCons qCi qNil))) qNil))) qNil))) (qsRet (qApp q_vAll (qCons (qLc (qItA qVar) (qgTup (qgCons qgSet (qgCons qgSet qgNil))) qYes (qApp (qAway (q__law_is_refused N h_is_name O hx)) (qCons qVar (qCons qVar qNil)))) qNil))))))))))))))))))))))
end G
namespace G
open PySem PySem.Spec PyProof.Rows L2 DL
theorem ev0 : vAway (mL__law_right [.nm 7] 0) [.ref 0] [potL 0] = .ok (.bl true) [potL 1] := by kernel_rfl
end G
namespace G
open PySem PySem.Spec PyProof.Rows L2 DL
theorem ev1 : vAway (mL__law_right [.nm 7] 1) [.ref 0] [potL 0] = .ok (.bl true) [potL 1] := by kernel_rfl
end G
namespace G
open PySem PySem.Spec PyProof.Rows L2 DL
theorem ev2 : vAway (mL__law_right [.nm 7] 2) [.ref 0] [potL 0] = .ok (.bl true) [potL 1] := by kernel_rfl
end G
namespace G
open PySem PySem.Spec PyProof.Rows L2 DL
theorem ev3 : vAway (mL__law_right [.nm 7] 3) [.ref 0] [potL 0] = .ok (.bl true) [potL 1] := by kernel_rfl
end G
namespace G
open PySem PySem.Spec PyProof.Rows L2 DL
theorem ev4 : vAway (mL__law_right [.nm 7] 4) [.ref 0] [potL 0] = .ok (.bl true) [potL 1] := by kernel_rfl
end G
namespace G
open PySem PySem.Spec PyProof.Rows L2 DL
theorem ev5 : vAway (mL__law_right [.nm 7] 5) [.ref 0] [potL 0] = .ok (.bl true) [potL 1] := by kernel_rfl
end G
namespace G
open PySem PySem.Spec PyProof.Rows L2 DL
theorem ev6 : vAway (mL__law_right [.nm 7] 6) [.ref 0] [potL 0] = .ok (.bl true) [potL 1] := by kernel_rfl
end G
namespace G
open PySem PySem.Spec PyProof.Rows L2 DL
theorem ev7 : vAway (mL__law_right [.nm 7] 7) [.ref 0] [potL 0] = .ok (.bl true) [potL 1] := by kernel_rfl
end G
namespace G
open PySem PySem.Spec PyProof.Rows L2 DL
theorem ev_all (j : Nat) (h : j < 8) : vAway (mL__law_right [.nm 7] j) [.ref 0] [potL 0] = .ok (.bl true) [potL 1] :=
  match j, h with
  | 0, _ => ev0
  | 1, _ => ev1
  | 2, _ => ev2
  | 3, _ => ev3
  | 4, _ => ev4
  | 5, _ => ev5
  | 6, _ => ev6
  | 7, _ => ev7
  | n + 8, h => absurd h (by omega)
def poolZ : List PySem.Str := poolS ++ [("zz" : PySem.Str)]
theorem poolZ_names : allS nameS poolZ = true := by kernel_rfl
theorem poolZ_are : allS (fun x => isT (mF_is_name [.str x] [])) poolZ = true := by kernel_rfl
theorem namesZ_are : ∀ x ∈ poolZ, ∀ μ, vApart m_is_name [.str x] μ = .ok (.bl true) μ := fun x hx μ => by
    obtain ⟨μ1, e⟩ := isT_of (allS_iff.mp poolZ_are x hx)
    rw [e_is_name] at e
    unfold vApart
    rw [if_pos (by simp [bareL, bareP]), e]
    exact if_pos (by simp [bareP])
theorem nmL_end (ys : List PySem.Str) (d : PySem.Str) : nmL (ys ++ [d]) d = nmL ys d := by
  funext i
  unfold nmL
  by_cases c : i < ys.length
  · rw [List.getElem?_append_left c]
  · by_cases c2 : i = ys.length
    · subst c2
      simp
    · rw [List.getElem?_eq_none (by simp; omega), List.getElem?_eq_none (by omega)]
/-- seven names, and x: it is one of them, or the eighth -/
theorem right_of {ys : List PySem.Str} {d : PySem.Str} {xj : Nat} {p p' : Pot} (l1 : ys.length = 7) (n1 : ys.Nodup) (m1 : ∀ y ∈ ys, y ∈ poolZ) (dz : d ∈ poolZ) (dn : d ∉ ys) (hj : xj < 8) (hx : nmL ys d xj = [120]) (t1 : Nm m__law_names (nmL ys d) p 7 p') :
    ∃ q : Pot, vAway m__law_right [.ref 0] [potO p] = .ok (.bl true) [potO q] := by
  have hm : ∀ y ∈ ys ++ [d], y ∈ poolZ := fun y hy => by
    rcases List.mem_append.mp hy with h | h
    · exact m1 y h
    · rw [List.mem_singleton.mp h]; exact dz
  let Ps : Nat → Pot := fun k => match k with | 0 => p | _ + 1 => p'
  have N : Nam (nuP (nmL ys d) Ps) 8 := by
    have := nam_list (ys := ys ++ [d]) (d := d) (Ps := Ps) (fun y hy => allS_iff.mp poolZ_names y (hm y hy)) (allS_iff.mp poolZ_names d dz) (by
      rw [List.nodup_append]
      exact ⟨n1, by simp, fun a ha b hb => by rw [List.mem_singleton.mp hb]; exact fun e => dn (e ▸ ha)⟩)
    rw [nmL_end] at this
    rw [show (ys ++ [d]).length = 8 by simp [l1]] at this
    exact this
  have hi : ∀ i μ, vApart m_is_name [.str ⟨⟨(nuP (nmL ys d) Ps) i⟩⟩] μ = .ok (.bl true) μ := fun i μ => namesZ_are _ (by
    show (⟨⟨nmL ys d i⟩⟩ : PySem.Str) ∈ poolZ
    unfold nmL
    cases q : ys[i]? with
    | none => exact dz
    | some y => exact m1 y (List.mem_of_getElem? q)) μ
  have O : TapeOk (nuP (nmL ys d) Ps) [.nm 7] m__law_take m__law_names := ⟨fun k n' d' ek => by
      cases k with
      | zero => simp at ek
      | succ k => simp at ek, fun k n' ek => by
      rw [nuP_pot, nuP_pot]
      cases k with
      | zero =>
        simp at ek
        subst ek
        exact t1
      | succ k => simp at ek⟩
  have e := ev_all xj hj
  rw [l__law_right] at e
  have z := qAway (q__law_right N hi O (xj := xj) hx) _ _ _ _ e
  refine ⟨Ps 1, ?_⟩
  have e1 : gPs (nuP (nmL ys d) Ps) [PV.ref 0] = [.ref 0] := by simp only [gPs, gP]
  have e2 : gM (nuP (nmL ys d) Ps) [potL 0] = [potO p] := by
    show [gO _ (potL 0)] = _
    rw [potL_g, nuP_pot]
  have e3 : gM (nuP (nmL ys d) Ps) [potL 1] = [potO (Ps 1)] := by
    show [gO _ (potL 1)] = _
    rw [potL_g, nuP_pot]
  rw [e1, e2, e3] at z
  simp only [gP] at z
  exact z
theorem poolS_Z : ∀ y ∈ poolS, y ∈ poolZ := fun y hy => List.mem_append.mpr (.inl hy)
theorem right_ok {p : Pot} (hp : PotOk p 0) : ∃ q : Pot, vAway m__law_right [.ref 0] [potO p] = .ok (.bl true) [potO q] := by
  obtain ⟨ys, p', l1, n1, m1, o1, t1⟩ := nm_of (T := names_spec 7 (by decide)) pool_nodup "zz" hp (by omega)
  have nm : ∀ d : PySem.Str, Nm m__law_names (nmL ys d) p 7 p' := fun d μ i hi cl => by
    rw [t1 μ i hi cl]
    congr 3
    congr 1
    refine List.map_congr_left fun j hj => ?_
    have hj := List.mem_range.mp hj
    unfold nmL
    rw [List.getElem?_eq_getElem (by omega)]
  by_cases c : ("x" : PySem.Str) ∈ ys
  · obtain ⟨j, hj, e⟩ := List.getElem_of_mem c
    refine right_of (d := "zz") (xj := j) l1 n1 (fun y hy => poolS_Z y (m1 y hy)) (by simp [poolZ]) (fun z => ?_) (by omega) ?_ (nm _)
    · have := m1 _ z
      revert this
      decide
    · unfold nmL
      rw [List.getElem?_eq_getElem hj, e]
      rfl
  · refine right_of (d := "x") (xj := 7) l1 n1 (fun y hy => poolS_Z y (m1 y hy)) (poolS_Z _ (by decide)) c (by omega) ?_ (nm _)
    unfold nmL
    rw [List.getElem?_eq_none (by omega)]
    rfl
theorem seq_cell {ns : List Int} {μ : Sto} (h : μ[0]? = some (.rol (ns.map .int))) : seqAt μ 0 = some (ns.map .int) ∧ dctAt μ 0 = none := by
  unfold seqAt dctAt
  rw [h]
  exact ⟨rfl, rfl⟩
noncomputable abbrev oneE : DE := dApp (vAway m__law_right) (dCons (dApp m__law_pot (dCons (dVar 0) (dCons (dVar 1) dNil))) dNil)
theorem lc_loop {ns : List Int} {its0 : List PV} : ∀ (its : List Nat) (acc : List PV) (μ : Sto), (∀ i ∈ its, i < 64) → μ[0]? = some (.rol (ns.map .int)) → μ[1]? = some (.lst its0) → acc.length + its.length ≤ 64 → boolsL acc = some (List.replicate acc.length true) →
    ∃ acc' μ', lcGo (fun μ' => sameSeq μ' 1 its0) (gSet 1) tYes' (elOne oneE) [some (.ref 0), none] (its.map fun i => PV.int (i : Nat)) acc μ = .ok acc' μ' ∧ boolsL acc' = some (List.replicate acc'.length true)
  | [], acc, μ, _, _, h1, _, ha => ⟨acc, μ, by simp only [List.map_nil, lcGo, same_l h1, if_true], ha⟩
  | i :: its, acc, μ, hi, h0, h1, hl, ha => by
    obtain ⟨p, hp, ep⟩ := pot_ok (μ := μ) (ns := ns) (j := i) (seq_cell h0).1 (seq_cell h0).2 (hi i (by simp))
    obtain ⟨q, eq⟩ := right_ok hp
    have l0 := lt_of_get h0
    have l1 := lt_of_get h1
    have e1 := away_at (i := μ.length) (μ := μ ++ [potO p]) eq (by simp [potO])
    have e2 : oneE [some (.ref 0), some (.int (i : Nat))] μ = .ok (.bl true) ((μ ++ [potO p]).set μ.length (potO q)) := by
      simp only [oneE, dApp, dCons, dVar, dNil, List.getElem?_cons_zero, List.getElem?_cons_succ, bindOk, ep]
      exact e1
    have sz : acc.length < sizeLine := by
      rw [sizeLine_eq]
      simp at hl
      omega
    have g0 : ((μ ++ [potO p]).set μ.length (potO q))[0]? = some (.rol (ns.map .int)) := by rw [List.getElem?_set_ne (by omega), List.getElem?_append_left l0]; exact h0
    have g1 : ((μ ++ [potO p]).set μ.length (potO q))[1]? = some (.lst its0) := by rw [List.getElem?_set_ne (by omega), List.getElem?_append_left l1]; exact h1
    obtain ⟨acc', μ', e, hb⟩ := lc_loop its (acc ++ [.bl true]) _ (fun j hj => hi j (by simp [hj])) g0 g1 (by simp at hl ⊢; omega) (by
      have : ∀ (l : List PV) (m : List Bool), boolsL l = some m → boolsL (l ++ [.bl true]) = some (m ++ [true]) := fun l => by
        induction l with
        | nil => intro m h; cases h; rfl
        | cons x xs ih =>
          intro m h
          cases x with
          | bl b =>
            rw [boolsL] at h
            obtain ⟨m2, h2, rfl⟩ := Option.map_eq_some_iff.mp h
            rw [List.cons_append, boolsL, ih m2 h2]
            rfl
          | _ => cases h
      rw [this acc _ ha]
      simp [List.replicate_succ'])
    refine ⟨acc', μ', ?_, hb⟩
    rw [← e]
    simp only [List.map_cons, lcGo, same_l h1, if_true, gSet, calmR, bindOk, List.set, tYes', elOne, if_pos sz, e2]
theorem law_ok (ns : List Int) : ∃ μ', m_law [.ref 0] [.rol (ns.map .int)] = .ok (.bl true) μ' := by
  obtain ⟨m, h1, h2, ep⟩ := places_ok (μ := [.rol (ns.map .int)]) (ns := ns) rfl rfl
  obtain ⟨acc', μ', e, hb⟩ := lc_loop (ns := ns) (its0 := (List.range m).map fun i => PV.int (i : Nat)) (List.range m) [] [.rol (ns.map .int), .lst ((List.range m).map fun i => PV.int (i : Nat))] (fun i hi => by have := List.mem_range.mp hi; omega) rfl rfl (by simp; omega) rfl
  have ep : m__law_places [.ref 0, .int 3] [.rol (ns.map .int)] = .ok (.ref 1) [.rol (ns.map .int), .lst ((List.range m).map fun i => PV.int (i : Nat))] := ep
  have sr := src_l (μ := [.rol (ns.map .int), .lst ((List.range m).map fun i => PV.int (i : Nat))]) (i := 1) rfl
  have w : (wipeE [some (.ref 0), none] [1] : Env') = [some (.ref 0), none] := rfl
  have d : dLc (dItA (dApp m__law_places (dCons (dVar 0) (dCons (dC (.int 3)) dNil)))) (gSet 1) tYes' oneE [1] [some (.ref 0), none] [.rol (ns.map .int)] = Rz.ok (PV.ref μ'.length) (μ' ++ [MObj.lst acc']) := by
    unfold dLc dItA
    simp only [dApp, dCons, dVar, dC, dNil, List.getElem?_cons_zero, bindOk, ep, sr, w]
    rw [e]
    rfl
  refine ⟨μ' ++ [MObj.lst acc'], ?_⟩
  unfold m_law b_law fnBody
  rw [if_pos (show [PV.ref 0].length = 1 from rfl)]
  have en : (List.map some [PV.ref 0] ++ List.replicate (2 - 1) none : Env') = [some (.ref 0), none] := rfl
  rw [en]
  have dl : (dApp vAll (dCons (dLc (dItA (dApp m__law_places (dCons (dVar 0) (dCons (dC (.int 3)) dNil)))) (gSet 1) tYes' oneE [1]) dNil)) [some (.ref 0), none] [.rol (ns.map .int)] = Rz.ok (PV.bl true) (μ' ++ [MObj.lst acc']) := by
    show (((dLc _ _ _ _ _ _ _).bind _).bind _) = _
    rw [d]
    have g : seqAt (μ' ++ [MObj.lst acc']) μ'.length = some acc' := by
      unfold seqAt
      simp
    simp only [bindOk, dNil, vAll, v1L, g, Option.bind_some, hb]
    simp
  unfold sRet
  rw [dl]
  rfl
end G
namespace G
open PySem PySem.Spec PyProof.Rows L2 DL
/-- the start: the script's list at the first number -/
theorem start_of {P : Program} {w : World} {K : PySem.W.Frag} {H : Hp} {o : Obj} {a : Addr} {ns : List Int} {F : VF} (tabs : tabsK K = tabL) (h1 : ∀ p ∈ cs, H p.2 = some (.tbl #[])) (h2 : ∀ p ∈ cs, p.2 ≠ a) (hf : H a = some (.frz o (.lst (ns.map V.int))))
    (h : ∃ μ', F [.ref 0] [.rol (ns.map .int)] = .ok (.bl true) μ') : spD P w K 1 F [.ref a] H (fun v _ => v = .bl true) fun _ _ _ => False := by
  have rv : ∀ l : List Int, RVs K [a] H (l.map PV.int) (l.map V.int) := fun l => by
    induction l with
    | nil => exact .nil
    | cons x xs ih => exact .cons (.int x) ih
  have bare : ∀ l : List Int, bareL (l.map PV.int) = true := fun l => by
    induction l with
    | nil => rfl
    | cons x xs ih => rw [List.map_cons, bareL, ih]; rfl
  obtain ⟨μ', e⟩ := h
  refine ⟨rfl, [a], [.rol (ns.map .int)], [.ref 0], .cons (.ref rfl) .nil, ⟨rfl, by simp, fun i b x hb hx => ?_, fun p hp => ?_⟩, ?_⟩
  · match i, hb, hx with
    | 0, hb, hx =>
      cases hb
      cases hx
      exact ⟨_, .inr ⟨o, hf⟩, rv ns, bare ns⟩
    | i + 1, hb, hx => simp at hb
  · rw [tabs] at hp
    have hm : p.1 ∈ cs.map (·.2) := by
      have e : tabL.map (·.1) = cs.map (·.2) := rfl
      rw [← e]
      exact List.mem_map_of_mem hp
    obtain ⟨c, hc, e2⟩ := List.mem_map.mp hm
    refine ⟨fun z => ?_, #[], ?_, by simp [TriplesOk], fun pos cv hv => ?_⟩
    · rw [← e2] at z
      exact h2 c hc (List.mem_singleton.mp z)
    · rw [← e2]
      exact h1 c hc
    · exact absurd hv (by simp [codeAmong])
  · rw [e]
    intro ρ' x H' st r t
    cases r with
    | bl b => rfl
end G
open PySem PySem.W PyProof.Rows
theorem PySem.Challenge.cw_lostmetres_k03_bounds_of_texts_holds : PySem.Challenge.rw_lostmetres_k03_bounds_of_texts.Holds := by
  w_on; o_law
  refine HandSHeadRun.head_any (r := OpenLaw.row PySem.Challenge.rw_lostmetres_k03_bounds_of_texts) (q := G.qv) (H := DL.hookT G.tbs G.xfs G.adrs G.exs G.fns) (ob := DL.obT G.tbs G.xfs G.adrs G.exs G.fns) (M := 8000) (loose := G.names) (d := HandSHeadRun.topDef (OpenLaw.row PySem.Challenge.rw_lostmetres_k03_bounds_of_texts).prog 56) (kwd := []) DL.obT_eq
    (by kernel_rfl) (fun s => by kernel_rfl) G.run (by kernel_rfl) (by kernel_rfl) (by kernel_rfl) (by rfl) (by first | assumption | decide +kernel) (by decide +kernel) ⟨rfl, rfl, rfl, rfl, rfl, by decide +kernel⟩ ?hw ?hc
  case hw => w_witness2
  case hc =>
    refine DL.walk_ofT (cs := G.cs) (l := PySem.Challenge.rw_lostmetres_k03_bounds_of_texts) (n := 63) (k := 14) (x := "_law_script") rfl (by decide) (by kernel_rfl) ⟨rfl, by decide, by decide⟩ ?F
    intro w mg fa h Y G0 hmg0
    obtain ⟨K, KX, nl, c, tbP, xfP⟩ := Y
    have hmg : mg ("law" : PySem.Str) = some (.ref fa) := by
      have e : (HandSHeadRun.topDef (OpenLaw.row PySem.Challenge.rw_lostmetres_k03_bounds_of_texts).prog 56).name = ("law" : PySem.Str) := by kernel_rfl
      rw [← e]
      exact hmg0
    have T := G.fx_of KX G0 c
    have gl := G.glo_law KX G0 c
    have e := hmg.symm.trans gl
    cases e
    obtain ⟨fd, F⟩ := T.d_law
    have b := L2.FunD.bindsA (ps := ["_law_script"]) F fun _ _ _ _ _ _ us hl => match us, hl with | [_], _ => rfl
    have xi := DL.xi_of (l := 5) (.inl rfl) T.xi1 T.xi2 T.xi3 (xfP _ (.head _)) (by kernel_rfl)
    exact ⟨K, fd, DL.spD _ w K 1 G.m_law, KX, nl, fun p hp => tbP p.2 (by
        have e : G.tbs = G.cs.map (·.2) := rfl
        rw [e]
        exact List.mem_map_of_mem hp), (List.forall_mem_cons.mpr ⟨DL.codeHdB_ok KX T.hd__law_is_refused, (List.forall_mem_cons.mpr ⟨DL.codeHdB_ok KX T.hd__law_is_let, (fun _ h => nomatch h)⟩)⟩), DL.bltB_ok KX G0 T.blt, fun s v => b s [v] rfl, fun H o a ns hl h1 h2 hf => G.start_of T.tabs h1 h2 hf (G.law_ok ns), fun base _ _ tb => G.ok_law (base := base) ⟨T, xi, tb⟩ F⟩
